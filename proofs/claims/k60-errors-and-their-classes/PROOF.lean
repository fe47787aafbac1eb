import PyProof.Rows.All
import Wide.All
import OpenK.AllK
import Wide.FinOn
import HandS.ForMost
import HandS.IsInst
import HandS.Wide
import HandS.Style
import HandS.TupAny
import HandS.Flow
import HandS.Exc
import HandS.ExcInit
import HandS.ExcCtx
import HandS.RaiseFrom
import HandS.SuiteRaise
import HandS.ExcInitHot
import HandS.ExcValue
import HandS.Lambda
import HandS.HeadHook4
import KE.KDflt
import HandS.Deep
import PyProof.StrBlock2
import HandS.Zip
import HandS.More
import HandS.Defaults
import HandS.HeadHook2
import HandS.Head0
import HandS.Head1
import HandS.Head2
import HandS.HeadEnd
import HandS.Codes
import HandS.Dict
import HandS.Property
import HandS.MakeKwOnly
import HandS.Small
import HandS.DictComp
import HandS.HeadHook1
import HandS.MakeKw
import HandS.WordsExc
import HandS.ClsMeth
import KE.KSuper
import KE.KExcSuper
import HandS.TryOnly
import HandS.TryMany
import HandS.ExcField
import KE.KTryMore
import HandS.Conv
import HandS.Strs
import HandS.FStr
import PyProof.CollectStr
import PyProof.TupleOfSeq
import HandS.HeadWalk
import HandS.HotCalls
import HandS.OwnEq
import KE.GoesEnum
import HandS.RaiseMore
import HandS.Star
import HandS.WordsDict
import HandS.ListEq
import HandS.GenOver
import HandS.GenCall
import HandS.GenYield
import HandS.GenList
import OpenK.KOps
import HandS.Iter
import HandS.SortKw
import KE.SortKeyHeap
import KE.DataFind
import KE.KExcIs
import KE.IntTextLaws
import HandS.Text
import KE.SortData
import PySem.Challenge.RW_heardwire_k60_errors_and_their_classes
set_option Elab.async false
set_option linter.all false
set_option maxRecDepth 100000
set_option maxHeartbeats 4000000
set_option autoImplicit false
namespace VT
open PySem PySem.Spec PyProof.Rows L2
def okS (x : Str) : Prop := PyData.strOk x = true ∧ x.length ≤ sizeLine
instance (x : Str) : Decidable (okS x) := inferInstanceAs (Decidable (_ ∧ _))
structure LamSt where
  id : Nat
  qual : Str
  params : Arguments
  body : Expr
  scope : Scope
  sup : Scope
  dfl : Bool
structure LamB where
  st : LamSt
  n : Nat
def LamB.clo (b : LamB) : List (Str × Addr) := L2.cloFrom (cellsFrom (b.n + 1) b.st.sup.names []) b.st.scope.names []
def lamO (f c' : Addr) (dV : Value) (b : LamB) : HO := .ext fun h => ∃ doc pm ctv, h.get? f = some (PySem.W.kdv_obj "<lambda>" b.st.qual b.st.params (.expr b.st.body) b.st.scope b.clo dV doc pm c' ctv)
inductive D where
  | non | bl (b : Bool) | int (i : Int) | str (x : Str)
  | lst (xs : List D) | tup (xs : List D)
  | dic (kvs : List (Key × D)) | dit (kvs : List (List Key × D))
  | ins (C : Addr) (fs : List (Str × D))
  | exn (C : Addr) (fs : List (Str × D))
  | fn (f : Addr) (b : LamB)
  | opq
def exnO (a C dx : Addr) : HO := .ext fun h => ∃ (oe : Obj) (vs : Array Value), h.get? a = some oe ∧ oe.cls = .ref C ∧ oe.dict = some dx ∧ oe.data = .fields vs
mutual
def rep (F : Hp) : D → V → Prop
  | .non, v => v = .non
  | .bl b, v => v = .bl b
  | .int i, v => v = .int i
  | .str x, v => v = .str x ∧ okS x
  | .lst ds, v => ∃ a vs, v = .ref a ∧ F a = some (.lst vs) ∧ reps F ds vs
  | .tup ds, v => ∃ a vs, v = .ref a ∧ Rd F a (.tup vs) ∧ reps F ds vs
  | .dic kvs, v => ∃ a o ws, v = .ref a ∧ F a = some (.frz o (.dK ws)) ∧ repk F kvs ws
  | .dit kvs, v => ∃ a ws, v = .ref a ∧ F a = some (.dT ws) ∧ rept F kvs ws
  | .ins C fs, v => ∃ a dx ws, v = .ref a ∧ F a = some (.ins C dx ws) ∧ F dx = some (.own a) ∧ repf F fs ws
  | .exn C fs, v => ∃ a dx ws o, v = .ref a ∧ F a = some (.frz o (exnO a C dx)) ∧ F dx = some (.xd ws) ∧ repf F fs ws
  | .fn f b, v => v = .ref f ∧ ∃ c' dV, F f = some (lamO f c' dV b) ∧ F c' = some (LamX.CodeO c' b.st.qual) ∧ ((b.st.dfl = false ∧ dV = .none) ∨ (b.st.dfl = true ∧ ∃ T, dV = .ref T ∧ F T = some (.tup [.int 0])))
  | .opq, _ => False
def reps (F : Hp) : List D → List V → Prop
  | [], vs => vs = []
  | d :: ds, vs => ∃ v r, vs = v :: r ∧ rep F d v ∧ reps F ds r
def repk (F : Hp) : List (Key × D) → List (Key × V) → Prop
  | [], ws => ws = []
  | (k, d) :: r, ws => ∃ v t, ws = (k, v) :: t ∧ rep F d v ∧ repk F r t
def rept (F : Hp) : List (List Key × D) → List (List Key × V) → Prop
  | [], ws => ws = []
  | (k, d) :: r, ws => ∃ v t, ws = (k, v) :: t ∧ rep F d v ∧ rept F r t
def repf (F : Hp) : List (Str × D) → List (Str × V) → Prop
  | [], ws => ws = []
  | (k, d) :: r, ws => ∃ v t, ws = (k, v) :: t ∧ rep F d v ∧ repf F r t
end
section
variable {F F' : Hp}
mutual
theorem rep.mono (h : ∀ b o, F b = some o → F' b = some o) : ∀ (d : D) (v : V), rep F d v → rep F' d v
  | .non, _, r => r
  | .bl _, _, r => r
  | .int _, _, r => r
  | .str _, _, r => r
  | .lst ds, _, ⟨a, vs, e, q, r⟩ => ⟨a, vs, e, h _ _ q, reps.mono h ds vs r⟩
  | .tup ds, _, ⟨a, vs, e, q, r⟩ => ⟨a, vs, e, q.imp (h _ _) fun ⟨o, q⟩ => ⟨o, h _ _ q⟩, reps.mono h ds vs r⟩
  | .dic kvs, _, ⟨a, o, ws, e, q, r⟩ => ⟨a, o, ws, e, h _ _ q, repk.mono h kvs ws r⟩
  | .dit kvs, _, ⟨a, ws, e, q, r⟩ => ⟨a, ws, e, h _ _ q, rept.mono h kvs ws r⟩
  | .ins C fs, _, ⟨a, dx, ws, e, q, q2, r⟩ => ⟨a, dx, ws, e, h _ _ q, h _ _ q2, repf.mono h fs ws r⟩
  | .exn C fs, _, ⟨a, dx, ws, o, e, q, q2, r⟩ => ⟨a, dx, ws, o, e, h _ _ q, h _ _ q2, repf.mono h fs ws r⟩
  | .fn _ _, _, ⟨e, c, dV, h1, h2, h3⟩ => ⟨e, c, dV, h _ _ h1, h _ _ h2, h3.imp id fun ⟨a, T, b, h4⟩ => ⟨a, T, b, h _ _ h4⟩⟩
  | .opq, _, r => r
theorem reps.mono (h : ∀ b o, F b = some o → F' b = some o) : ∀ (ds : List D) (vs : List V), reps F ds vs → reps F' ds vs
  | [], _, r => r
  | d :: ds, _, ⟨v, r, e, q, z⟩ => ⟨v, r, e, rep.mono h d v q, reps.mono h ds r z⟩
theorem repk.mono (h : ∀ b o, F b = some o → F' b = some o) : ∀ (ds : List (Key × D)) (vs : List (Key × V)), repk F ds vs → repk F' ds vs
  | [], _, r => r
  | (k, d) :: ds, _, ⟨v, r, e, q, z⟩ => ⟨v, r, e, rep.mono h d v q, repk.mono h ds r z⟩
theorem rept.mono (h : ∀ b o, F b = some o → F' b = some o) : ∀ (ds : List (List Key × D)) (vs : List (List Key × V)), rept F ds vs → rept F' ds vs
  | [], _, r => r
  | (k, d) :: ds, _, ⟨v, r, e, q, z⟩ => ⟨v, r, e, rep.mono h d v q, rept.mono h ds r z⟩
theorem repf.mono (h : ∀ b o, F b = some o → F' b = some o) : ∀ (ds : List (Str × D)) (vs : List (Str × V)), repf F ds vs → repf F' ds vs
  | [], _, r => r
  | (k, d) :: ds, _, ⟨v, r, e, q, z⟩ => ⟨v, r, e, rep.mono h d v q, repf.mono h ds r z⟩
end
theorem reps.length : ∀ {ds : List D} {vs : List V}, reps F ds vs → vs.length = ds.length
  | [], _, r => by rw [show _ = [] from r]; rfl
  | _ :: _, _, ⟨v, r, e, _, z⟩ => by rw [e, List.length_cons, List.length_cons, reps.length z]
theorem reps.get : ∀ {ds : List D} {vs : List V} {i : Nat} {d : D}, reps F ds vs → ds[i]? = some d → ∃ v, vs[i]? = some v ∧ rep F d v
  | [], _, _, _, _, e => by simp at e
  | _ :: _, _, 0, _, ⟨v, r, e, q, z⟩, h => by
    rw [e]
    have h : some _ = some _ := h
    cases h
    exact ⟨v, rfl, q⟩
  | _ :: _, _, i + 1, _, ⟨v, r, e, q, z⟩, h => by
    rw [e]
    exact reps.get (i := i) z h
theorem reps.take : ∀ {ds : List D} {vs : List V} (n : Nat), reps F ds vs → reps F (ds.take n) (vs.take n)
  | _, _, 0, _ => rfl
  | [], _, _ + 1, r => by rw [show _ = [] from r]; rfl
  | _ :: _, _, n + 1, ⟨v, r, e, q, z⟩ => by rw [e]; exact ⟨v, _, rfl, q, reps.take n z⟩
end
inductive FV where
  | tr (d : D) | own (d : D)
inductive SV where
  | tr (d : D) | own (d : D) | brw (d : D) | pk (d : D) | bag | obj (q C : Addr) (fs : List (Str × FV)) | pob (C : Addr) (fs : List (Str × FV)) | bob (C : Addr) (fs : List (Str × FV)) | exc (a C d : Addr) (fs : List (Str × D)) | tz (ds : List D) | fn (f : Addr) | dob (q : Addr) (kvs : List (Key × Addr × List D)) | tow (q b : Addr) (ds : List D) (e : D)
def dobW (kvs : List (Key × Addr × List D)) : List (Key × V) := kvs.map fun x => (x.1, .ref x.2.1)
def dobA (kvs : List (Key × Addr × List D)) : List Addr := kvs.map fun x => x.2.1
def SV.d : SV → D
  | .tr d => d
  | .own d => d
  | .brw d => d
  | .pk d => d
  | .bag => .opq
  | .obj _ _ _ => .opq
  | .pob _ _ => .opq
  | .bob _ _ => .opq
  | .exc _ _ _ _ => .opq
  | .tz ds => .tup ds
  | .fn _ => .opq
  | .dob _ _ => .opq
  | .tow _ _ _ _ => .opq
structure TBL where
  tabs : List (Addr × Str)
  tups : List (Addr × List D)
  kt : Bool
structure Gh where
  F : Hp
  pb : Option Addr
  T : TBL := ⟨[], [], false⟩
def lamFns : List Str := ["law", "_law_defaults_so", "_law_others_so", "_law_refused_so", "_law_full_so", "lots_of", "doubtful", "_law_line", "_law_limits_so", "_law_pages_so"]
def lamIn (K : PySem.W.Frag) : List Str := lamFns.filter fun x => PySem.W.codeHdIn K (He.cT K (x, none)).1 (He.cT K (x, none)).2
def lamQ (x : Str) : Str := x ++ ".<locals>.<lambda>"
def tabsIn (K : PySem.W.Frag) : List (Addr × Str) := (lamIn K).map fun x => ((He.cT K (x, none)).2, lamQ x)
def dflTups : List ((Str × Option Str) × Nat × List D) := [(("Log", some "__init__"), 0, [])]
def gloTups : List (Str × List D) := [("CLAIMS", [.non, .str "quiet", .str "waiting"])]
def ktFns : List Str := ["_law_family", "_law_leads", "_law_subsets", "_law_lot"]
def ktIn (K : PySem.W.Frag) : Bool := ktFns.any fun x => !decide (He.ga K x = 0)
def tupIn (K : PySem.W.Frag) : List (Addr × List D) := ((if ktIn K = true then [] else dflTups.map fun c => (He.dflAt c.1 c.2.1 K, c.2.2)) ++ gloTups.map fun c => (He.ga K c.1, c.2)).filter fun p => !decide (p.1 = 0)
def TabsOf (K : PySem.W.Frag) : TBL := ⟨tabsIn K, tupIn K, ktIn K⟩
def BagAt (G : Gh) (H : Hp) (p : Addr) : Prop := ∃ (c : Addr) (ns : List Int) (i r m : Int), H p = some (.lst [.ref c, .int i, .int r, .int m]) ∧ G.F c = some (.lst (ns.map V.int)) ∧ ns.length ≤ 63 ∧ 0 ≤ i ∧ 0 ≤ r ∧ 0 ≤ m ∧ m < 2147483648
def TabsF (T : TBL) (F H : Hp) : Prop := (∀ p ∈ T.tabs, F p.1 = none ∧ ∃ ps : Array Value, H p.1 = some (.tbl ps) ∧ TriplesOk ps.toList ∧ ∀ (pos : Pos) (cv : Value), codeAmong pos ps.toList = some cv → ∃ c, cv = .ref c ∧ F c = some (LamX.CodeO c p.2)) ∧ ∀ p ∈ T.tups, ∃ (o : Obj) (vs : List V), o.dict = none ∧ F p.1 = some (.frz o (.tup vs)) ∧ reps (fun _ => none) p.2 vs
theorem TabsF.ext {T : TBL} {F F' H H' : Hp} (h : TabsF T F H) (hF : ∀ b o, F b = some o → F' b = some o) (hH : ∀ b ps, H b = some (.tbl ps) → H' b = some (.tbl ps)) (hN : ∀ b ps, F b = none → H b = some (.tbl ps) → F' b = none) : TabsF T F' H' := ⟨fun p hp =>
  let ⟨n, ps, e, k, c⟩ := h.1 p hp
  ⟨hN _ _ n e, ps, hH _ _ e, k, fun pos cv hc => let ⟨b, e1, e2⟩ := c pos cv hc; ⟨b, e1, hF _ _ e2⟩⟩, fun p hp =>
  let ⟨o, vs, hd, e, r⟩ := h.2 p hp
  ⟨o, vs, hd, hF _ _ e, r⟩⟩
def KeyF (T : TBL) (F : Hp) : Prop := T.kt = true → ∀ (a : Addr) (o : Obj) (vs : List V), F a = some (.frz o (.tup vs)) → ∀ ks : List Key, vs ≠ ks.map kV
theorem KeyF.put {T : TBL} {F : Hp} {p : Addr} {u : HO} (h : KeyF T F) (n : ∀ o vs, u ≠ .frz o (.tup vs)) : KeyF T (upd F p u) := fun t a o vs e => by
  by_cases z : a = p
  · subst z
    rw [upd_same] at e
    exact (n o vs (Option.some.inj e)).elim
  · rw [upd_ne z] at e
    exact h t a o vs e
theorem KeyF.sub {T : TBL} {F F' : Hp} (h : KeyF T F) (s : ∀ a o, F' a = some o → F a = some o ∨ ∀ o' vs, o ≠ .frz o' (.tup vs)) : KeyF T F' := fun t a o vs e => (s a _ e).elim (fun e => h t a o vs e) fun n => (n o vs rfl).elim
structure OkG (G : Gh) (H : Hp) : Prop where
  sub : ∀ b o, G.F b = some o → H b = some o
  bag : ∀ p, G.pb = some p → BagAt G H p ∧ G.F p = none
  tabs : TabsF G.T G.F H
  key : KeyF G.T G.F
structure Ext (G : Gh) (H : Hp) (G' : Gh) (H' : Hp) : Prop where
  ok : OkG G' H'
  same : ∀ b o, H b = some o → G.pb ≠ some b → (∀ ps, o ≠ .tbl ps) → H' b = some o
  tbl : ∀ b ps, H b = some (.tbl ps) → ∃ ps', H' b = some (.tbl ps')
  tt : G'.T = G.T
  pb : ∀ p, G.pb = some p → G'.pb = some p
  pnew : ∀ p, G'.pb = some p → G.pb = some p ∨ H p = none
  frz : ∀ b o, G.F b = some o → G'.F b = some o
  new : ∀ b o, G'.F b = some o → G.F b = some o ∨ H b = none
section
variable {G G' G1 G2 : Gh} {H H' H1 H2 : Hp}
theorem Ext.dom (E : Ext G H G' H') {b : Addr} (h : H' b = none) : H b = none := by
  cases e : H b with
  | none => rfl
  | some o =>
    by_cases q : G.pb = some b
    · obtain ⟨⟨c, ns, i, r, m, z, _⟩, _⟩ := E.ok.bag b (E.pb b q)
      rw [z] at h
      cases h
    · by_cases ht : ∃ ps, o = .tbl ps
      · obtain ⟨ps, rfl⟩ := ht
        obtain ⟨ps', z⟩ := E.tbl b ps e
        rw [z] at h
        cases h
      · rw [E.same b o e q fun ps z => ht ⟨ps, z⟩] at h
        cases h
theorem Ext.trans (a : Ext G H G1 H1) (b : Ext G1 H1 G2 H2) : Ext G H G2 H2 where
  ok := b.ok
  same := fun c o h q n => b.same c o (a.same c o h q n) (fun z => by
    rcases a.pnew c z with z | z
    · exact q z
    · rw [h] at z; cases z) n
  tbl := fun c ps h => by
    obtain ⟨ps1, h1⟩ := a.tbl c ps h
    exact b.tbl c ps1 h1
  tt := b.tt.trans a.tt
  pb := fun p h => b.pb p (a.pb p h)
  pnew := fun p h => by
    rcases b.pnew p h with z | z
    · exact a.pnew p z
    · exact .inr (a.dom z)
  frz := fun c o h => b.frz c o (a.frz c o h)
  new := fun c o h => by
    rcases b.new c o h with z | z
    · exact a.new c o z
    · exact .inr (a.dom z)
end
def cont (F H : Hp) (a : Addr) : D → Prop
  | .lst ds => ∃ vs, H a = some (.lst vs) ∧ reps F ds vs
  | .dic kvs => ∃ ws, H a = some (.dK ws) ∧ repk F kvs ws
  | .dit kvs => ∃ ws, H a = some (.dT ws) ∧ rept F kvs ws
  | _ => False
def D.nd : D → Bool
  | .dic _ => false
  | _ => true
def contN (F H : Hp) (a : Addr) (d : D) : Prop := cont F H a d ∧ d.nd = true
inductive RepF (Hs : Hp) (G : Gh) (H : Hp) : List (Str × FV) → List (Str × V) → Prop
  | nil : RepF Hs G H [] []
  | tr {f : Str} {d : D} {v : V} {fs : List (Str × FV)} {ws : List (Str × V)} : rep G.F d v → RepF Hs G H fs ws → RepF Hs G H ((f, .tr d) :: fs) ((f, v) :: ws)
  | own {f : Str} {d : D} {b : Addr} {fs : List (Str × FV)} {ws : List (Str × V)} : Hs b = none → G.F b = none → G.pb ≠ some b → contN G.F H b d → RepF Hs G H fs ws → RepF Hs G H ((f, .own d) :: fs) ((f, .ref b) :: ws)
inductive RepP (N : Addr → Prop) (G : Gh) (H : Hp) : List (Str × FV) → List (Str × V) → Prop
  | nil : RepP N G H [] []
  | tr {f : Str} {d : D} {v : V} {fs : List (Str × FV)} {ws : List (Str × V)} : rep G.F d v → RepP N G H fs ws → RepP N G H ((f, .tr d) :: fs) ((f, v) :: ws)
  | own {f : Str} {d : D} {b : Addr} {fs : List (Str × FV)} {ws : List (Str × V)} : N b → G.pb ≠ some b → cont G.F H b d → RepP N G H fs ws → RepP N G H ((f, .own d) :: fs) ((f, .ref b) :: ws)
def adrs : List (Str × FV) → List (Str × V) → List Addr
  | (_, .own _) :: fs, (_, .ref b) :: ws => b :: adrs fs ws
  | (_, .tr _) :: fs, _ :: ws => adrs fs ws
  | _, _ => []
def There (H : Hp) (b : Addr) : Prop := ∃ o, H b = some o ∧ ∀ ps, o ≠ .tbl ps
theorem There.ne {H : Hp} {b : Addr} (h : There H b) : H b ≠ none := by
  obtain ⟨o, e, _⟩ := h
  rw [e]
  nofun
def Mine (Hs : Hp) (G : Gh) (b : Addr) : Prop := Hs b = none ∧ G.F b = none ∧ G.pb ≠ some b
def RepV (H0 Hs : Hp) (G : Gh) (H : Hp) (v : V) : SV → Prop
  | .tr d => rep G.F d v
  | .own d => ∃ a, v = .ref a ∧ Hs a = none ∧ G.F a = none ∧ G.pb ≠ some a ∧ cont G.F H a d
  | .brw d => ∃ a, v = .ref a ∧ H0 a ≠ none ∧ G.pb ≠ some a ∧ cont G.F H a d
  | .pk d => ∃ a, v = .ref a ∧ G.pb ≠ some a ∧ cont G.F H a d
  | .bag => ∃ a, v = .ref a ∧ G.pb = some a
  | .obj q C fs => ∃ a dx ws, v = .ref a ∧ H a = some (.ins C dx ws) ∧ H dx = some (.own a) ∧ Mine Hs G a ∧ Mine Hs G dx ∧ (a :: dx :: adrs fs ws).Nodup ∧ RepF Hs G H fs ws ∧ a = q
  | .pob C fs => ∃ a dx ws, v = .ref a ∧ H a = some (.ins C dx ws) ∧ G.pb ≠ some a ∧ RepP (fun _ => True) G H fs ws
  | .bob C fs => ∃ a dx ws, v = .ref a ∧ H0 a ≠ none ∧ H a = some (.ins C dx ws) ∧ G.pb ≠ some a ∧ RepP (fun b => H0 b ≠ none) G H fs ws
  | .exc a _ d fs => v = .ref a ∧ ∃ ws, G.F d = some (.xd ws) ∧ repf G.F fs ws
  | .fn f => v = .ref f
  | .dob q kvs => v = .ref q ∧ H q = some (.dK (dobW kvs)) ∧ Mine Hs G q ∧ (kvs.map (·.1)).Nodup ∧ (q :: dobA kvs).Nodup ∧ ∀ x ∈ kvs, Mine Hs G x.2.1 ∧ ∃ vs, H x.2.1 = some (.lst vs) ∧ reps G.F x.2.2 vs
  | .tow q b ds d2 => v = .ref q ∧ Mine Hs G q ∧ Mine Hs G b ∧ q ≠ b ∧ ∃ w vs, H q = some (.tup [.ref b, w]) ∧ H b = some (.lst vs) ∧ reps G.F ds vs ∧ rep G.F d2 w
  | .tz ds => ∃ a o vs, v = .ref a ∧ o.dict = none ∧ G.F a = some (.frz o (.tup vs)) ∧ reps G.F ds vs
def Owns (H : Hp) (v : V) : SV → Addr → Prop
  | .own _, b => v = .ref b
  | .obj _ C fs, b => ∃ a dx ws, v = .ref a ∧ H a = some (.ins C dx ws) ∧ (b = a ∨ b = dx ∨ b ∈ adrs fs ws)
  | .dob q kvs, b => b = q ∨ b ∈ dobA kvs
  | .tow q c _ _, b => b = q ∨ b = c
  | _, _ => False
section
variable {G G' G1 G2 : Gh} {H0 Hs Hs' H H' H1 H2 : Hp} {v : V} {sv : SV} {a : Addr} {d : D}
theorem Rd.ext (E : Ext G H G' H') {u : HO} (q : G.pb ≠ some a) (n : ∀ ps, u ≠ .tbl ps) (h : Rd H a u) : Rd H' a u := by
  rcases h with h | ⟨o, h⟩
  · exact .inl (E.same a _ h q n)
  · exact .inr ⟨o, E.same a _ h q nofun⟩
theorem cont.ext (E : Ext G H G' H') (q : G.pb ≠ some a) (h : cont G.F H a d) : cont G'.F H' a d := by
  cases d with
  | lst ds => obtain ⟨vs, e, r⟩ := h; exact ⟨vs, E.same _ _ e q nofun, reps.mono E.frz _ _ r⟩
  | dic kvs => obtain ⟨vs, e, r⟩ := h; exact ⟨vs, E.same _ _ e q nofun, repk.mono E.frz _ _ r⟩
  | dit kvs => obtain ⟨vs, e, r⟩ := h; exact ⟨vs, E.same _ _ e q nofun, rept.mono E.frz _ _ r⟩
  | _ => exact h.elim
theorem cont.thereT (h : cont G.F H a d) : There H a := by
  cases d with
  | lst ds => obtain ⟨vs, e, r⟩ := h; exact ⟨_, e, nofun⟩
  | dic kvs => obtain ⟨vs, e, r⟩ := h; exact ⟨_, e, nofun⟩
  | dit kvs => obtain ⟨vs, e, r⟩ := h; exact ⟨_, e, nofun⟩
  | _ => exact h.elim
theorem cont.there (h : cont G.F H a d) : H a ≠ none := by
  cases d with
  | lst ds => obtain ⟨vs, e, r⟩ := h; rw [e]; simp
  | dic kvs => obtain ⟨vs, e, r⟩ := h; rw [e]; simp
  | dit kvs => obtain ⟨vs, e, r⟩ := h; rw [e]; simp
  | _ => exact h.elim
theorem contN.ext (E : Ext G H G' H') (q : G.pb ≠ some a) (h : contN G.F H a d) : contN G'.F H' a d := ⟨h.1.ext E q, h.2⟩
theorem contN.thereT (h : contN G.F H a d) : There H a := h.1.thereT
theorem contN.there (h : contN G.F H a d) : H a ≠ none := h.1.there
theorem Ext.npb (E : Ext G H G' H') (q : G.pb ≠ some a) (h : H a ≠ none) : G'.pb ≠ some a := fun z => by
  rcases E.pnew a z with z | z
  · exact q z
  · exact h z
theorem Ext.nF (E : Ext G H G' H') (q : G.F a = none) (h : H a ≠ none) : G'.F a = none := by
  cases e : G'.F a with
  | none => rfl
  | some o =>
    rcases E.new a o e with z | z
    · rw [q] at z; cases z
    · exact (h z).elim
theorem RepF.mine {fs : List (Str × FV)} {ws : List (Str × V)} (r : RepF Hs G H fs ws) : ∀ b ∈ adrs fs ws, Mine Hs G b ∧ There H b := by
  induction r with
  | nil => intro b hb; cases hb
  | tr _ _ ih => exact ih
  | own h1 h2 h3 h4 _ ih =>
    intro b hb
    rcases List.mem_cons.mp hb with rfl | hb
    · exact ⟨⟨h1, h2, h3⟩, h4.thereT⟩
    · exact ih b hb
theorem cont.at {F F' H H' : Hp} {b : Addr} {d : D} (m : ∀ x o, F x = some o → F' x = some o) (e : H' b = H b) (h : cont F H b d) : cont F' H' b d := by
  cases d with
  | lst ds => obtain ⟨vs, k, r⟩ := h; exact ⟨vs, e.trans k, reps.mono m _ _ r⟩
  | dic ds => obtain ⟨vs, k, r⟩ := h; exact ⟨vs, e.trans k, repk.mono m _ _ r⟩
  | dit ds => obtain ⟨vs, k, r⟩ := h; exact ⟨vs, e.trans k, rept.mono m _ _ r⟩
  | _ => exact h.elim
theorem contN.at {F F' H H' : Hp} {b : Addr} {d : D} (m : ∀ x o, F x = some o → F' x = some o) (e : H' b = H b) (h : contN F H b d) : contN F' H' b d := ⟨h.1.at m e, h.2⟩
theorem RepF.at {fs : List (Str × FV)} {ws : List (Str × V)} (r : RepF Hs G H fs ws) (m : ∀ x o, G.F x = some o → G'.F x = some o) (hb : ∀ b ∈ adrs fs ws, Mine Hs' G' b ∧ H' b = H b) : RepF Hs' G' H' fs ws := by
  induction r with
  | nil => exact .nil
  | tr h _ ih => exact .tr (rep.mono m _ _ h) (ih hb)
  | own h1 h2 h3 h4 _ ih =>
    obtain ⟨⟨q1, q2, q3⟩, q4⟩ := hb _ (List.mem_cons_self ..)
    exact .own q1 q2 q3 (h4.at m q4) (ih fun b h => hb b (List.mem_cons_of_mem _ h))
theorem RepV.owns {b : Addr} (r : RepV H0 Hs G H v sv) (o : Owns H v sv b) : Mine Hs G b ∧ There H b := by
  cases sv with
  | own d =>
    obtain ⟨a, e, h1, h2, h3, h4⟩ := r
    have o : v = .ref b := o
    rw [e] at o
    cases o
    exact ⟨⟨h1, h2, h3⟩, h4.thereT⟩
  | obj q C fs =>
    obtain ⟨a, dx, ws, e, ea, ed, h1, h2, _, rf, _⟩ := r
    obtain ⟨a', dx', ws', e', ea', hb⟩ := o
    rw [e] at e'
    cases e'
    rw [ea] at ea'
    cases ea'
    rcases hb with rfl | rfl | hb
    · exact ⟨h1, _, ea, nofun⟩
    · exact ⟨h2, _, ed, nofun⟩
    · exact rf.mine b hb
  | dob q kvs =>
    obtain ⟨e, ea, h1, _, _, rf⟩ := r
    rcases o with rfl | hb
    · exact ⟨h1, _, ea, nofun⟩
    · obtain ⟨x, hx, rfl⟩ := List.mem_map.mp hb
      obtain ⟨m, vs, hv, _⟩ := rf x hx
      exact ⟨m, _, hv, nofun⟩
  | tow q c ds d2 =>
    obtain ⟨_, h1, h2, _, w, vs, eq, ec, _⟩ := r
    rcases o with rfl | rfl
    · exact ⟨h1, _, eq, nofun⟩
    · exact ⟨h2, _, ec, nofun⟩
  | _ => exact o.elim
theorem RepP.ext {N : Addr → Prop} {fs : List (Str × FV)} {ws : List (Str × V)} (E : Ext G H G' H') (r : RepP N G H fs ws) : RepP N G' H' fs ws := by
  induction r with
  | nil => exact .nil
  | tr h _ ih => exact .tr (rep.mono E.frz _ _ h) ih
  | own h1 h2 h3 _ ih => exact .own h1 (E.npb h2 h3.there) (h3.ext E h2) ih
theorem RepP.imp {N N' : Addr → Prop} {fs : List (Str × FV)} {ws : List (Str × V)} (h : ∀ b, H b ≠ none → N b → N' b) (r : RepP N G H fs ws) : RepP N' G H fs ws := by
  induction r with
  | nil => exact .nil
  | tr q _ ih => exact .tr q ih
  | own h1 h2 h3 _ ih => exact .own (h _ h3.there h1) h2 h3 ih
theorem RepP.mono {N : Addr → Prop} {fs : List (Str × FV)} {ws : List (Str × V)} (m : ∀ x o, G.F x = some o → G'.F x = some o) (e : G'.pb = G.pb := by rfl) (r : RepP N G H fs ws) : RepP N G' H fs ws := by
  induction r with
  | nil => exact .nil
  | tr q _ ih => exact .tr (rep.mono m _ _ q) ih
  | own h1 h2 h3 _ ih => exact .own h1 (by rw [e]; exact h2) (h3.at m rfl) ih
theorem RepP.off {N : Addr → Prop} {fs : List (Str × FV)} {ws : List (Str × V)} (r : RepP N G H fs ws) (h : ∀ b, N b → ∀ u, H b = some u → H' b = some u) : RepP N G H' fs ws := by
  induction r with
  | nil => exact .nil
  | tr q _ ih => exact .tr q ih
  | own h1 h2 h3 _ ih =>
    refine .own h1 h2 (h3.at (fun _ _ z => z) ?_) ih
    obtain ⟨o, ho⟩ := Option.ne_none_iff_exists'.mp h3.there
    rw [ho]
    exact h _ h1 o ho
theorem RepV.at (r : RepV H0 Hs G H v sv) (hs : ∀ d, sv ≠ .brw d) (hs2 : ∀ d, sv ≠ .pk d) (hs3 : sv ≠ .bag) (hs4 : ∀ C fs, sv ≠ .pob C fs) (hs5 : ∀ C fs, sv ≠ .bob C fs) (m : ∀ x o, G.F x = some o → G'.F x = some o) (hb : ∀ b, Owns H v sv b → Mine Hs' G' b ∧ H' b = H b) : RepV H0 Hs' G' H' v sv := by
  cases sv with
  | tr d => exact rep.mono m d v r
  | exc a C d fs =>
    obtain ⟨e, ws, h1, h2⟩ := r
    exact ⟨e, ws, m _ _ h1, repf.mono m _ _ h2⟩
  | tz ds =>
    obtain ⟨a, o, vs, e, h0, h1, h2⟩ := r
    exact ⟨a, o, vs, e, h0, m _ _ h1, reps.mono m _ _ h2⟩
  | fn f => exact r
  | own d =>
    obtain ⟨a, e, h1, h2, h3, h4⟩ := r
    obtain ⟨⟨q1, q2, q3⟩, q4⟩ := hb a e
    exact ⟨a, e, q1, q2, q3, h4.at m q4⟩
  | obj q C fs =>
    obtain ⟨a, dx, ws, e, ea, ed, h1, h2, hn, rf, hq⟩ := r
    obtain ⟨qa, qa2⟩ := hb a ⟨a, dx, ws, e, ea, .inl rfl⟩
    obtain ⟨qd, qd2⟩ := hb dx ⟨a, dx, ws, e, ea, .inr (.inl rfl)⟩
    exact ⟨a, dx, ws, e, qa2.trans ea, qd2.trans ed, qa, qd, hn, rf.at m fun b h => hb b ⟨a, dx, ws, e, ea, .inr (.inr h)⟩, hq⟩
  | dob q kvs =>
    obtain ⟨e, ea, h1, hk, hn, rf⟩ := r
    obtain ⟨qa, qa2⟩ := hb q (.inl rfl)
    refine ⟨e, qa2.trans ea, qa, hk, hn, fun x hx => ?_⟩
    obtain ⟨qd, qd2⟩ := hb x.2.1 (.inr (List.mem_map.mpr ⟨x, hx, rfl⟩))
    obtain ⟨_, vs, hv, rr⟩ := rf x hx
    exact ⟨qd, vs, qd2.trans hv, reps.mono m _ _ rr⟩
  | tow q c ds d2 =>
    obtain ⟨e, _, _, hne, w, vs, eq, ec, r1, r2⟩ := r
    obtain ⟨qa, qa2⟩ := hb q (.inl rfl)
    obtain ⟨qc, qc2⟩ := hb c (.inr rfl)
    exact ⟨e, qa, qc, hne, w, vs, qa2.trans eq, qc2.trans ec, reps.mono m _ _ r1, rep.mono m _ _ r2⟩
  | brw d => exact (hs d rfl).elim
  | pk d => exact (hs2 d rfl).elim
  | bag => exact (hs3 rfl).elim
  | pob C fs => exact (hs4 C fs rfl).elim
  | bob C fs => exact (hs5 C fs rfl).elim
theorem Owns.at {b : Addr} (r : RepV H0 Hs G H v sv) (h : ∀ b, Owns H v sv b → H' b = H b) (o : Owns H' v sv b) : Owns H v sv b := by
  cases sv with
  | own d => exact o
  | obj q C fs =>
    obtain ⟨a, dx, ws, e, ea, _⟩ := r
    obtain ⟨a', dx', ws', e', ea', hb⟩ := o
    rw [e] at e'
    cases e'
    rw [h a ⟨a, dx, ws, e, ea, .inl rfl⟩, ea] at ea'
    cases ea'
    exact ⟨a, dx, ws, e, ea, hb⟩
  | dob q kvs => exact o
  | tow q c ds d2 => exact o
  | _ => exact o.elim
theorem Ext.mine {Hs : Hp} {b : Addr} (E : Ext G H G' H') (h : Mine Hs G b) (hb : There H b) : Mine Hs G' b ∧ H' b = H b := by
  refine ⟨⟨h.1, E.nF h.2.1 hb.ne, E.npb h.2.2 hb.ne⟩, ?_⟩
  obtain ⟨o, e, n⟩ := hb
  rw [e]
  exact E.same b o e h.2.2 n
theorem RepV.ext (E : Ext G H G' H') (r : RepV H0 Hs G H v sv) : RepV H0 Hs G' H' v sv := by
  cases sv with
  | tr d => exact rep.mono E.frz d v r
  | exc a C d fs =>
    obtain ⟨e, ws, h1, h2⟩ := r
    exact ⟨e, ws, E.frz _ _ h1, repf.mono E.frz _ _ h2⟩
  | tz ds =>
    obtain ⟨a, o, vs, e, h0, h1, h2⟩ := r
    exact ⟨a, o, vs, e, h0, E.frz _ _ h1, reps.mono E.frz _ _ h2⟩
  | fn f => exact r
  | own d =>
    obtain ⟨a, e, h1, h2, h3, h4⟩ := r
    exact ⟨a, e, h1, E.nF h2 h4.there, E.npb h3 h4.there, h4.ext E h3⟩
  | brw d =>
    obtain ⟨a, e, h1, h3, h4⟩ := r
    exact ⟨a, e, h1, E.npb h3 h4.there, h4.ext E h3⟩
  | pk d =>
    obtain ⟨a, e, h3, h4⟩ := r
    exact ⟨a, e, E.npb h3 h4.there, h4.ext E h3⟩
  | bag =>
    obtain ⟨a, e, h⟩ := r
    exact ⟨a, e, E.pb a h⟩
  | obj q C fs => exact r.at (fun _ => nofun) (fun _ => nofun) nofun (fun _ _ => nofun) (fun _ _ => nofun) E.frz fun b o => E.mine (r.owns o).1 (r.owns o).2
  | dob q kvs => exact r.at (fun _ => nofun) (fun _ => nofun) nofun (fun _ _ => nofun) (fun _ _ => nofun) E.frz fun b o => E.mine (r.owns o).1 (r.owns o).2
  | tow q c ds d2 => exact r.at (fun _ => nofun) (fun _ => nofun) nofun (fun _ _ => nofun) (fun _ _ => nofun) E.frz fun b o => E.mine (r.owns o).1 (r.owns o).2
  | pob C fs =>
    obtain ⟨a, dx, ws, e, ea, nb, rf⟩ := r
    exact ⟨a, dx, ws, e, E.same _ _ ea nb nofun, E.npb nb (by rw [ea]; simp), rf.ext E⟩
  | bob C fs =>
    obtain ⟨a, dx, ws, e, h0, ea, nb, rf⟩ := r
    exact ⟨a, dx, ws, e, h0, E.same _ _ ea nb nofun, E.npb nb (by rw [ea]; simp), rf.ext E⟩
end
def SV.ok : SV → Prop
  | .pk _ => False
  | .pob _ _ => False
  | _ => True
abbrev S := List (Option SV)
structure Rel (G0 : Gh) (H0 : Hp) (G : Gh) (H : Hp) (σ : L2.St) (S : S) : Prop where
  ext : Ext G0 H0 G H
  len : S.length = σ.length
  slot : ∀ (i : Nat) (sv : SV), S[i]? = some (some sv) → ∃ v, σ[i]? = some (some v) ∧ RepV H0 H0 G H v sv
  sep : ∀ (i j : Nat) (sv sw : SV) (v w : V) (b : Addr), i ≠ j → S[i]? = some (some sv) → S[j]? = some (some sw) → σ[i]? = some (some v) → σ[j]? = some (some w) → Owns H v sv b → ¬ Owns H w sw b
  nopk : ∀ (i : Nat) (sv : SV), S[i]? = some (some sv) → sv.ok
theorem Rel.ok {G0 G : Gh} {H0 H : Hp} {σ : L2.St} {S : S} (R : Rel G0 H0 G H σ S) : OkG G H := R.ext.ok
theorem Rel.go {G0 G G' : Gh} {H0 H H' : Hp} {σ : L2.St} {S : S} (R : Rel G0 H0 G H σ S) (E : Ext G H G' H') : Rel G0 H0 G' H' σ S :=
  ⟨R.ext.trans E, R.len, fun i sv e => let ⟨v, e1, r⟩ := R.slot i sv e; ⟨v, e1, r.ext E⟩, fun i j sv sw v w b hij e1 e2 e3 e4 o1 o2 => by
    obtain ⟨v', e5, r1⟩ := R.slot i sv e1
    obtain ⟨w', e6, r2⟩ := R.slot j sw e2
    rw [e3] at e5
    cases e5
    rw [e4] at e6
    cases e6
    exact R.sep i j sv sw v w b hij e1 e2 e3 e4 (o1.at r1 fun b o => (E.mine (r1.owns o).1 (r1.owns o).2).2) (o2.at r2 fun b o => (E.mine (r2.owns o).1 (r2.owns o).2).2), R.nopk⟩
abbrev GE := S → (SV → Prop) → Prop
abbrev GA := S → (List SV → Prop) → Prop
def OwnsL (H : Hp) : List V → List SV → Addr → Prop
  | v :: vs, sv :: svs, b => Owns H v sv b ∨ OwnsL H vs svs b
  | _, _, _ => False
inductive RepL (H0 Hs : Hp) (G : Gh) (H : Hp) : List V → List SV → Prop
  | nil : RepL H0 Hs G H [] []
  | cons {v : V} {sv : SV} {vs : List V} {svs : List SV} : RepV H0 Hs G H v sv → RepL H0 Hs G H vs svs → (∀ b, Owns H v sv b → ¬ OwnsL H vs svs b) → RepL H0 Hs G H (v :: vs) (sv :: svs)
theorem RepL.owns {H0 Hs : Hp} {G : Gh} {H : Hp} {b : Addr} : ∀ {vs : List V} {svs : List SV}, RepL H0 Hs G H vs svs → OwnsL H vs svs b → Mine Hs G b ∧ There H b
  | _, _, .nil, o => o.elim
  | _, _, .cons r t _, o => o.elim (fun o => r.owns o) fun o => RepL.owns t o
theorem OwnsL.at {H0 Hs : Hp} {G : Gh} {H H' : Hp} {b : Addr} : ∀ {vs : List V} {svs : List SV}, RepL H0 Hs G H vs svs → (∀ b, OwnsL H vs svs b → H' b = H b) → OwnsL H' vs svs b → OwnsL H vs svs b
  | _, _, .nil, _, o => o.elim
  | _, _, .cons r t _, h, o => o.elim (fun o => .inl (o.at r fun b o => h b (.inl o))) fun o => .inr (OwnsL.at t (fun b o => h b (.inr o)) o)
abbrev XP := Addr → List (Str × D) → Prop
def SV.isRet : SV → Prop
  | .tr _ => True
  | .own _ => True
  | .bag => True
  | .tow _ _ _ _ => True
  | _ => False
def XOf (G : Gh) (H : Hp) (Qx : XP) : XK := fun cls d H' => ∃ C dx fs ws G', cls = .ref C ∧ d = some dx ∧ Ext G H G' H' ∧ G'.F dx = some (.xd ws) ∧ repf G'.F fs ws ∧ Qx C fs
abbrev TLT := LamB → (SV → Prop) → XP → Prop
abbrev thkLev : Nat := 60
def TLMono (TL : TLT) : Prop := ∀ (b : LamB) (Q Q' : SV → Prop) (Qx Qx' : XP), (∀ sv, Q sv → Q' sv) → (∀ C fs, Qx C fs → Qx' C fs) → TL b Q Qx → TL b Q' Qx'
structure ThkOk (P : Program) (w : World) (K : PySem.W.Frag) (mg : Str → Option Value) (base : Heap) (TL : TLT) (G : Gh) (H : Hp) : Prop where
  mono : TLMono TL
  run : ∀ (f : Addr) (b : LamB) (G1 : Gh) (H1 : Hp) (A1 : Around) (outer1 : List Env) (s1 : Shared) (Q : VK) (E : XK) (Qs : SV → Prop) (Qx : XP), Ext G H G1 H1 → rep G1.F (.fn f b) (.ref f) → Env0 P w K mg base A1 outer1 s1 H1 → Room (thkLev + 1) A1 → TL b Qs Qx →
    (∀ v H' G' sv, Ext G1 H1 G' H' → RepV H1 H1 G' H' v sv → sv.isRet → Qs sv → Q v H') → (∀ cls d H', XOf G1 H1 Qx cls d H' → E cls d H') →
    codeAny (model P w) A1 (.call (.ref f) ⟨[], []⟩) (CR (L2N.CX P w) outer1 P w H1 s1 Q E) s1
theorem ThkOk.go {P : Program} {w : World} {K : PySem.W.Frag} {mg : Str → Option Value} {base : Heap} {TL : TLT} {G G1 : Gh} {H H1 : Hp} (h : ThkOk P w K mg base TL G H) (E : Ext G H G1 H1) : ThkOk P w K mg base TL G1 H1 :=
  ⟨h.mono, fun f b G2 H2 A1 outer1 s1 Q Ex Qs Qx E2 => h.run f b G2 H2 A1 outer1 s1 Q Ex Qs Qx (E.trans E2)⟩
abbrev TL0 : TLT := fun _ _ _ => False
theorem thk0 {P : Program} {w : World} {K : PySem.W.Frag} {mg : Str → Option Value} {base : Heap} {G : Gh} {H : Hp} : ThkOk P w K mg base TL0 G H := ⟨fun _ _ _ _ _ _ _ z => z, fun _ _ _ _ _ _ _ _ _ _ _ _ _ _ _ z => z.elim⟩
structure EXT where
  ex : Addr → List (Str × D) → S → Prop
  tl : TLT
instance : CoeFun EXT fun _ => Addr → List (Str × D) → S → Prop := ⟨EXT.ex⟩
abbrev E0T : EXT := ⟨fun _ _ _ => False, TL0⟩
abbrev EXT.off (EX : EXT) : EXT := ⟨fun _ _ _ => False, EX.tl⟩
def WV (EX : EXT) (G0 : Gh) (H0 : Hp) : WX := fun cls d σ H => ∃ G S C dx fs ws, cls = .ref C ∧ d = some dx ∧ Rel G0 H0 G H σ S ∧ G.F dx = some (.xd ws) ∧ repf G.F fs ws ∧ EX C fs S
structure Lk (X : Cx) (EX : EXT) (G0 : Gh) (H0 : Hp) : Prop where
  takes : L2N.Takes X (WV EX G0 H0)
  tabs : G0.T = TabsOf X.K
  thk : ThkOk X.prog X.w X.K X.mg X.base EX.tl G0 H0
theorem takesE0 {X : Cx} {G0 : Gh} {H0 : Hp} {tl : TLT} : L2N.Takes X (WV ⟨fun _ _ _ => False, tl⟩ G0 H0) := fun _ _ ⟨_, _, _, _, _, _, _, _, _, _, _, _, _, _, _, _, w⟩ => by
  obtain ⟨_, _, _, _, _, _, _, _, _, _, _, z⟩ := w
  exact z.elim
theorem Lk.e0 {X : Cx} {G0 : Gh} {H0 : Hp} (h : G0.T = TabsOf X.K) : Lk X E0T G0 H0 := ⟨takesE0, h, thk0⟩
theorem RepL.ext {H0 Hs : Hp} {G G' : Gh} {H H' : Hp} (E : Ext G H G' H') : ∀ {vs : List V} {svs : List SV}, RepL H0 Hs G H vs svs → RepL H0 Hs G' H' vs svs
  | _, _, .nil => .nil
  | _, _, .cons r t n => .cons (r.ext E) (RepL.ext E t) fun b o1 o2 => n b (o1.at r fun b o => (E.mine (r.owns o).1 (r.owns o).2).2) (o2.at t fun b o => (E.mine (t.owns o).1 (t.owns o).2).2)
theorem RepL.length {H0 Hs : Hp} {G : Gh} {H : Hp} : ∀ {vs : List V} {svs : List SV}, RepL H0 Hs G H vs svs → vs.length = svs.length
  | _, _, .nil => rfl
  | _, _, .cons r t _ => by rw [List.length_cons, List.length_cons, RepL.length t]
def SV.look : SV → SV
  | .own d => .pk d
  | .obj _ C fs => .pob C fs
  | .dob q _ => .fn q
  | .tow q _ _ _ => .fn q
  | sv => sv
end VT
namespace VT
open PySem PySem.Spec PyProof.Rows L2
section
variable {G Gs : Gh} {H0 H Hs : Hp} {p a : Addr} {o : HO} {Qs : SV → Prop} {Q : VK} {ds : List D} {vs : List V} {d : D} {v : V}
theorem BagAt.go {G' : Gh} {H' : Hp} {q : Addr} (b : BagAt G H q) (h : ∀ o, H q = some o → H' q = some o) (hF : ∀ b o, G.F b = some o → G'.F b = some o) : BagAt G' H' q := by
  obtain ⟨c, ns, i, r, m, e, ec, z⟩ := b
  exact ⟨c, ns, i, r, m, h _ e, hF _ _ ec, z⟩
theorem BagAt.upd {q : Addr} (b : BagAt G H q) (hp : H p = none) : BagAt G (upd H p o) q := b.go (fun u e => by rw [upd_ne (ne_of_none e hp)]; exact e) fun _ _ z => z
theorem upd_mono {F : Hp} (hn : F p = none) : ∀ b u, F b = some u → upd F p o b = some u := fun b u e => by rw [upd_ne (ne_of_none e hn)]; exact e
theorem ext_freeze (E : Ext Gs Hs G H) (hs : Hs a = none) (ha : H a = some o) (hF : G.F a = none) (hb : G.pb ≠ some a) (no : ∀ ps, o ≠ .tbl ps := by nofun) (nk : ∀ o' vs, o ≠ .frz o' (.tup vs) := by exact fun _ _ z => nomatch z) : Ext Gs Hs ⟨upd G.F a o, G.pb, G.T⟩ H where
  ok := by
    refine ⟨fun b u e => ?_, fun q e => ⟨(E.ok.bag q e).1.go (fun _ z => z) (upd_mono hF), ?_⟩, E.ok.tabs.ext (upd_mono hF) (fun _ _ z => z) fun b ps n e => by show upd G.F a o b = none; rw [upd_ne (ne_of e ha fun z => no ps z.symm)]; exact n, E.ok.key.put nk⟩
    · by_cases h : b = a
      · subst h
        have e : upd G.F b o b = some u := e
        rw [upd_same] at e
        rw [ha]
        exact e
      · have e : upd G.F a o b = some u := e
        rw [upd_ne h] at e
        exact E.ok.sub b u e
    · show upd G.F a o q = none
      rw [upd_ne (fun z => hb (by rw [← z]; exact e))]
      exact (E.ok.bag q e).2
  same := E.same
  tbl := E.tbl
  tt := E.tt
  pb := E.pb
  pnew := E.pnew
  frz := fun b u h => upd_mono hF b u (E.frz b u h)
  new := fun b u h => by
    by_cases z : b = a
    · subst z; exact .inr hs
    · have h : upd G.F a o b = some u := h
      rw [upd_ne z] at h
      exact E.new b u h
end
section
variable {H0 Hs H : Hp} {G : Gh} {v : V} {sv : SV} {ds : List D}
theorem RepV.lst (r : RepV H0 Hs G H v sv) (ok : OkG G H) (e : sv.d = .lst ds) : ∃ a vs, v = .ref a ∧ H a = some (.lst vs) ∧ reps G.F ds vs := by
  cases sv with
  | tr d => cases e; obtain ⟨a, vs, e1, e2, r⟩ := r; exact ⟨a, vs, e1, ok.sub _ _ e2, r⟩
  | own d => cases e; obtain ⟨a, e1, _, _, _, vs, e2, r⟩ := r; exact ⟨a, vs, e1, e2, r⟩
  | brw d => cases e; obtain ⟨a, e1, _, _, vs, e2, r⟩ := r; exact ⟨a, vs, e1, e2, r⟩
  | pk d => cases e; obtain ⟨a, e1, _, vs, e2, r⟩ := r; exact ⟨a, vs, e1, e2, r⟩
  | bag | dob _ _ | tow _ _ _ _ | obj _ _ _ | pob _ _ | bob _ _ | exc _ _ _ _ | tz _ | fn _ => cases e
theorem RepV.dic {ds : List (Key × D)} (r : RepV H0 Hs G H v sv) (ok : OkG G H) (e : sv.d = .dic ds) : ∃ a vs, v = .ref a ∧ Rd H a (.dK vs) ∧ repk G.F ds vs := by
  cases sv with
  | tr d => cases e; obtain ⟨a, o, vs, e1, e2, r⟩ := r; exact ⟨a, vs, e1, .inr ⟨o, ok.sub _ _ e2⟩, r⟩
  | own d => cases e; obtain ⟨a, e1, _, _, _, vs, e2, r⟩ := r; exact ⟨a, vs, e1, .inl e2, r⟩
  | brw d => cases e; obtain ⟨a, e1, _, _, vs, e2, r⟩ := r; exact ⟨a, vs, e1, .inl e2, r⟩
  | pk d => cases e; obtain ⟨a, e1, _, vs, e2, r⟩ := r; exact ⟨a, vs, e1, .inl e2, r⟩
  | bag | dob _ _ | tow _ _ _ _ | obj _ _ _ | pob _ _ | bob _ _ | exc _ _ _ _ | tz _ | fn _ => cases e
theorem RepV.dit {ds : List (List Key × D)} (r : RepV H0 Hs G H v sv) (ok : OkG G H) (e : sv.d = .dit ds) : ∃ a vs, v = .ref a ∧ H a = some (.dT vs) ∧ rept G.F ds vs := by
  cases sv with
  | tr d => cases e; obtain ⟨a, vs, e1, e2, r⟩ := r; exact ⟨a, vs, e1, ok.sub _ _ e2, r⟩
  | own d => cases e; obtain ⟨a, e1, _, _, _, vs, e2, r⟩ := r; exact ⟨a, vs, e1, e2, r⟩
  | brw d => cases e; obtain ⟨a, e1, _, _, vs, e2, r⟩ := r; exact ⟨a, vs, e1, e2, r⟩
  | pk d => cases e; obtain ⟨a, e1, _, vs, e2, r⟩ := r; exact ⟨a, vs, e1, e2, r⟩
  | bag | dob _ _ | tow _ _ _ _ | obj _ _ _ | pob _ _ | bob _ _ | exc _ _ _ _ | tz _ | fn _ => cases e
theorem RepV.tree {d : D} (r : RepV H0 Hs G H v sv) (e : sv.d = d) (h : ∀ F K a, ¬ cont F K a d) (ho : d ≠ .opq) : rep G.F d v := by
  cases sv with
  | tr d => cases e; exact r
  | own d => cases e; obtain ⟨a, e1, _, _, _, c⟩ := r; exact (h _ _ _ c).elim
  | brw d => cases e; obtain ⟨a, e1, _, _, c⟩ := r; exact (h _ _ _ c).elim
  | pk d => cases e; obtain ⟨a, e1, _, c⟩ := r; exact (h _ _ _ c).elim
  | tz ds => cases e; obtain ⟨a, o, vs, e1, _, e2, r⟩ := r; exact ⟨a, vs, e1, .inr ⟨o, e2⟩, r⟩
  | bag | dob _ _ | tow _ _ _ _ | obj _ _ _ | pob _ _ | bob _ _ | exc _ _ _ _ | fn _ => exact (ho e.symm).elim
theorem RepV.tup (r : RepV H0 Hs G H v sv) (ok : OkG G H) (e : sv.d = .tup ds) : ∃ a vs, v = .ref a ∧ Rd H a (.tup vs) ∧ reps G.F ds vs := by
  obtain ⟨a, vs, e1, e2, q⟩ := r.tree e (fun _ _ _ z => z) (fun z => nomatch z)
  exact ⟨a, vs, e1, e2.imp (ok.sub _ _) fun ⟨o, e⟩ => ⟨o, ok.sub _ _ e⟩, q⟩
theorem RepV.int {i : Int} (r : RepV H0 Hs G H v sv) (e : sv.d = .int i) : v = .int i := r.tree e (fun _ _ _ z => z) (fun z => nomatch z)
theorem RepV.bl {i : Bool} (r : RepV H0 Hs G H v sv) (e : sv.d = .bl i) : v = .bl i := r.tree e (fun _ _ _ z => z) (fun z => nomatch z)
theorem RepV.non (r : RepV H0 Hs G H v sv) (e : sv.d = .non) : v = .non := r.tree e (fun _ _ _ z => z) (fun z => nomatch z)
theorem RepV.str {x : Str} (r : RepV H0 Hs G H v sv) (e : sv.d = .str x) : v = .str x ∧ okS x := r.tree e (fun _ _ _ z => z) (fun z => nomatch z)
end
end VT
namespace VT
open PySem PySem.Spec PyProof.Rows L2
def Plain (H : Hp) (a : Addr) : Prop := ∃ u, H a = some u ∧ (∀ ps, u ≠ .tbl ps) ∧ ∀ φ, u ≠ .ext φ
theorem Plain.lst {H : Hp} {a : Addr} {xs : List V} (h : H a = some (.lst xs)) : Plain H a := ⟨_, h, nofun, nofun⟩
theorem Plain.dK {H : Hp} {a : Addr} {xs : List (Key × V)} (h : H a = some (.dK xs)) : Plain H a := ⟨_, h, nofun, nofun⟩
theorem Plain.ins {H : Hp} {a C dx : Addr} {fs : List (Str × V)} (h : H a = some (.ins C dx fs)) : Plain H a := ⟨_, h, nofun, nofun⟩
end VT
namespace VT
open PySem PySem.Spec PyProof.Rows L2
def D.kind : D → Option String
  | .non => some "NoneType"
  | .bl _ => some "bool"
  | .int _ => some "int"
  | .str _ => some "str"
  | .lst _ => some "list"
  | .tup _ => some "tuple"
  | .dic _ | .dit _ => some "dict"
  | _ => none
section
variable {X : Cx} {EX : EXT} {H0 Hs H : Hp} {G : Gh} {v : V} {sv : SV}
theorem RepV.ty {K : PySem.W.Frag} {n : String} (r : RepV H0 Hs G H v sv) (ok : OkG G H) (e : sv.d.kind = some n) : TyX K H v (.type n) := by
  cases hd : sv.d with
  | non => rw [hd] at e; cases e; rw [r.non hd]; exact .base .non
  | bl b => rw [hd] at e; cases e; rw [r.bl hd]; exact .base (.bl b)
  | int b => rw [hd] at e; cases e; rw [r.int hd]; exact .base (.int b)
  | str b => rw [hd] at e; cases e; rw [(r.str hd).1]; exact .base (.str b)
  | lst b => rw [hd] at e; cases e; obtain ⟨a, vs, rfl, ea, _⟩ := r.lst ok hd; exact .base (.lst ea)
  | tup b => rw [hd] at e; cases e; obtain ⟨a, vs, rfl, ea, _⟩ := r.tup ok hd; rcases ea with ea | ⟨o, ea⟩; exact .base (.tup ea); exact .fTuple ea
  | dic b => rw [hd] at e; cases e; obtain ⟨a, vs, rfl, ea, _⟩ := r.dic ok hd; rcases ea with ea | ⟨o, ea⟩; exact .base (.dK ea); exact .fDict ea
  | dit b => rw [hd] at e; cases e; obtain ⟨a, vs, rfl, ea, _⟩ := r.dit ok hd; exact .base (.dT ea)
  | ins _ _ | exn _ _ | fn _ _ => rw [hd] at e; cases e
  | opq => rw [hd] at e; cases e
end
end VT
namespace VT
open PySem PySem.Spec PyProof.Rows L2
def Off (is : List Nat) (σ σ' : L2.St) : Prop := σ'.length = σ.length ∧ ∀ j, j ∉ is → σ'[j]? = σ[j]?
theorem Off.mono {is js : List Nat} {σ σ1 : L2.St} (a : Off is σ σ1) (h : ∀ i ∈ is, i ∈ js) : Off js σ σ1 := ⟨a.1, fun j hj => a.2 j fun z => hj (h j z)⟩
def Later (c : Bool) (G0 : Gh) (H0 : Hp) (G : Gh) (H : Hp) (G2 : Gh) (H2 : Hp) : Prop := if c = true then Ext G H G2 H2 else Ext G0 H0 G2 H2 ∧ ∀ b o, G.F b = some o → G2.F b = some o
theorem Later.ok {c : Bool} {G0 G G2 : Gh} {H0 H H2 : Hp} (l : Later c G0 H0 G H G2 H2) : OkG G2 H2 := by
  cases c with
  | true => exact Ext.ok l
  | false => exact l.1.ok
theorem Later.frz {c : Bool} {G0 G G2 : Gh} {H0 H H2 : Hp} (l : Later c G0 H0 G H G2 H2) : ∀ b o, G.F b = some o → G2.F b = some o := by
  cases c with
  | true => exact Ext.frz l
  | false => exact l.2
def SV.stays (c : Bool) : SV → Prop
  | .tr _ => True
  | .brw _ => True
  | .pk _ => c = true
  | .own _ => c = true
  | .tz _ => True
  | _ => False
end VT
namespace VT
open PySem PySem.Spec PyProof.Rows L2
structure VEnds where
  nx : S → Prop
  rt : SV → Prop
  bk : S → Prop := fun _ => False
  ct : S → Prop := fun _ => False
abbrev GS := VEnds → S → Prop
abbrev Mono (G G' : Gh) : Prop := ∀ b o, G.F b = some o → G'.F b = some o
structure KD (G0 : Gh) (H0 : Hp) (Gs : Gh) (DV : VEnds) (D : Ends) : Prop where
  nx : ∀ σ H G S, Rel G0 H0 G H σ S → Mono Gs G → DV.nx S → D.nx σ H
  rt : ∀ v H G sv, Ext G0 H0 G H → RepV H0 H0 G H v sv → sv.isRet → DV.rt sv → D.rt v H
  bk : ∀ σ H G S, Rel G0 H0 G H σ S → Mono Gs G → DV.bk S → D.bk σ H
  ct : ∀ σ H G S, Rel G0 H0 G H σ S → Mono Gs G → DV.ct S → D.ct σ H
def TSV (G0 : Gh) (H0 : Hp) (g : GS) : TS := fun D σ H => ∃ G S DV, Rel G0 H0 G H σ S ∧ g DV S ∧ KD G0 H0 G DV D
structure VSs (X : Cx) (EX : EXT) (st : List Stmt) (g : GS) : Prop where
  pss : ∀ G0 H0, Lk X EX G0 H0 → PSs X st (TSV G0 H0 g)
end VT
namespace VT
open PySem PySem.Spec PyProof.Rows L2
theorem cont.mono {F F' H : Hp} {a : Addr} {d : D} (m : ∀ b o, F b = some o → F' b = some o) (h : cont F H a d) : cont F' H a d := by
  cases d with
  | lst ds => obtain ⟨vs, e, r⟩ := h; exact ⟨vs, e, reps.mono m _ _ r⟩
  | dic ds => obtain ⟨vs, e, r⟩ := h; exact ⟨vs, e, repk.mono m _ _ r⟩
  | dit ds => obtain ⟨vs, e, r⟩ := h; exact ⟨vs, e, rept.mono m _ _ r⟩
  | _ => exact h.elim
theorem cont.off {F H H' : Hp} {a b : Addr} {d : D} (h : cont F H b d) (k : ∀ o, H b = some o → H' b = some o) : cont F H' b d := by
  cases d with
  | lst ds => obtain ⟨vs, e, r⟩ := h; exact ⟨vs, k _ e, r⟩
  | dic ds => obtain ⟨vs, e, r⟩ := h; exact ⟨vs, k _ e, r⟩
  | dit ds => obtain ⟨vs, e, r⟩ := h; exact ⟨vs, k _ e, r⟩
  | _ => exact h.elim
theorem cont.obj {F H : Hp} {a : Addr} {d : D} (hF : F a = none) (h : cont F H a d) (hn : d.nd = true) : ∃ o, H a = some o ∧ (∀ ps, o ≠ .tbl ps) ∧ (∀ o' vs, o ≠ .frz o' (.tup vs)) ∧ rep (upd F a o) d (.ref a) := by
  cases d with
  | lst ds => obtain ⟨vs, e, r⟩ := h; exact ⟨_, e, nofun, (fun _ _ z => nomatch z), a, vs, rfl, upd_same, reps.mono (upd_mono hF) _ _ r⟩
  | dic ds => cases hn
  | dit ds => obtain ⟨vs, e, r⟩ := h; exact ⟨_, e, nofun, (fun _ _ z => nomatch z), a, vs, rfl, upd_same, rept.mono (upd_mono hF) _ _ r⟩
  | _ => exact h.elim
end VT
namespace VT
open PySem PySem.Spec PyProof.Rows L2
abbrev FSp := List SV → (SV → Prop) → Prop
def SV.isArg : SV → Prop
  | .tr _ => True
  | .brw _ => True
  | .bag => True
  | .bob _ _ => True
  | .exc _ _ _ _ => True
  | .fn _ => True
  | _ => False
def SV.arg : SV → SV
  | .own d => .brw d
  | .pk d => .brw d
  | .obj _ C fs => .bob C fs
  | .pob C fs => .bob C fs
  | .tz ds => .tr (.tup ds)
  | .dob q _ => .fn q
  | .tow q _ _ _ => .fn q
  | sv => sv
theorem SV.isArg.none {sv : SV} (h : sv.isArg) {H : Hp} {v : V} {b : Addr} : ¬ Owns H v sv b := by
  cases sv <;> first | exact h.elim | exact fun o => o.elim
def spV (K : PySem.W.Frag) (F : FSp) : Sp := fun vs H Q _ => ∃ G svs Qs, (OkG G H ∧ G.T = TabsOf K) ∧ RepL H H G H vs svs ∧ (∀ sv ∈ svs, sv.isArg) ∧ F svs Qs ∧ ∀ v H' G' sv, Ext G H G' H' → RepV H H G' H' v sv → sv.isRet → Qs sv → Q v H'
def wrt : D → V → Prop
  | .non, v => v = .non
  | .bl b, v => v = .bl b
  | .int i, v => v = .int i
  | .str x, v => v = .str x ∧ okS x
  | _, _ => False
theorem wrt.rep {d : D} {v : V} {F : Hp} (h : wrt d v) : rep F d v := by
  cases d <;> first | exact h | exact h.elim
section
variable {X : Cx} {EX : EXT} {k : Nat} {f : Addr} {fd : FuncData} {ps : List Str} {F : FSp} {dd : List D} {dvs : List V} {ds : List Value} {x : Str} {p pos : Pos} {e : Expr} {es : List Expr} {ga : GA}
theorem RepL.get {H0 Hs : Hp} {G : Gh} {H : Hp} : ∀ {vs : List V} {svs : List SV} {i : Nat} {sv : SV}, RepL H0 Hs G H vs svs → svs[i]? = some sv → ∃ v, vs[i]? = some v ∧ RepV H0 Hs G H v sv
  | _, _, 0, _, .cons r t _, e => by cases e; exact ⟨_, rfl, r⟩
  | _, _, i + 1, _, .cons r t _, e => RepL.get (i := i) t e
  | _, _, _, _, .nil, e => by simp at e
end
end VT
namespace VT
open PySem PySem.Spec PyProof.Rows L2
structure DefAt (K : PySem.W.Frag) (mg : Str → Option Value) (d : He.DefD) : Prop where
  fd : ∃ fd, FunD K d.name d.qual d.params d.body d.scope (d.dvs K) (d.kws K) (He.fAd K d.at_) fd
  mg : mg d.name = some (.ref (He.fAd K d.at_))
structure FnV (P : Program) (w : World) (K : PySem.W.Frag) (mg : Str → Option Value) (base : Heap) (d : He.DefD) (k : Nat) (ps : List Str) (F : FSp) : Prop where
  ex : ∃ fd, FunD K d.name d.qual d.params d.body d.scope (d.dvs K) (d.kws K) (He.fAd K d.at_) fd ∧ FnOk P w K mg base CX0 k (He.fAd K d.at_) fd ps (spV K F)
  mg : mg d.name = some (.ref (He.fAd K d.at_))
section
variable {P : Program} {w : World} {K : PySem.W.Frag} {mg : Str → Option Value} {base : Heap} {d : He.DefD} {k : Nat} {ps N : List Str} {F : FSp} {g : GS}
theorem FnV.mono {j : Nat} (h : FnV P w K mg base d k ps F) (hj : k ≤ j) : FnV P w K mg base d j ps F := by
  obtain ⟨⟨fd, hf, hk⟩, hm⟩ := h
  exact ⟨⟨fd, hf, hk.mono hj⟩, hm⟩
theorem FnV.imp {F' : FSp} (h : FnV P w K mg base d k ps F) (hF : ∀ svs Q, F' svs Q → F svs Q) : FnV P w K mg base d k ps F' := by
  obtain ⟨⟨fd, hf, hk⟩, hm⟩ := h
  exact ⟨⟨fd, hf, hk.imp fun vs H Q E ⟨G, svs, Qs, ok, r, ha, q, z⟩ => ⟨G, svs, Qs, ok, r, ha, hF _ _ q, z⟩⟩, hm⟩
end
end VT
namespace VT
open PySem PySem.Spec PyProof.Rows L2
inductive All2 {α β : Type} (P : α → β → Prop) : List α → List β → Prop where
  | nil : All2 P [] []
  | cons {a b l m} : P a b → All2 P l m → All2 P (a :: l) (b :: m)
theorem All2.length {α β : Type} {P : α → β → Prop} {l : List α} {m : List β} (h : All2 P l m) : l.length = m.length := by
  induction h with
  | nil => rfl
  | cons _ _ ih => rw [List.length_cons, List.length_cons, ih]
theorem All2.all {α β : Type} {P : α → β → Prop} {R : β → Prop} {l : List α} {m : List β} (h : All2 P l m) (k : ∀ a b, P a b → R b) : ∀ b ∈ m, R b := by
  induction h with
  | nil => intro b hb; cases hb
  | cons x _ ih =>
    intro b hb
    cases hb with
    | head => exact k _ _ x
    | tail _ hb => exact ih b hb
theorem FnV.none {P : Program} {w : World} {K : PySem.W.Frag} {mg : Str → Option Value} {base : Heap} {d : He.DefD} {k : Nat} {ps : List Str} (h : DefAt K mg d) : FnV P w K mg base d k ps fun _ _ => False := by
  obtain ⟨⟨fd, hf⟩, hm⟩ := h
  exact ⟨⟨fd, hf, ⟨fun vs H Q E ⟨_, _, _, _, _, _, z, _⟩ => z.elim, fun A outer s H args us vs Q E _ _ _ _ ⟨_, _, _, _, _, _, z, _⟩ => z.elim⟩⟩, hm⟩
end VT
namespace VT
open PySem PySem.Spec PyProof.Rows L2
def tEx (K : PySem.W.Frag) (g : GS) : TS := fun D σ H => ∃ G0 H0, G0.T = TabsOf K ∧ TSV G0 H0 g D σ H
theorem VSs.ex {X : Cx} {st : List Stmt} {g : GS} (h : VSs X E0T st g) : PSs X st (tEx X.K g) := ⟨fun pins s σ H D I ⟨G0, H0, e, q⟩ => (h.pss G0 H0 (Lk.e0 e)).run pins s σ H D I q⟩
end VT
namespace VT
open PySem PySem.Spec PyProof.Rows L2
structure IsA (sv : SV) (d : D) : Prop where
  look : sv.look = sv
  d : sv.d = d
  st : ∀ c, sv.stays c
structure BagN (G : Gh) (H : Hp) (p c : Addr) (ns : List Int) (i r m : Int) : Prop where
  ok : OkG G H
  pb : G.pb = some p
  at_ : H p = some (.lst [.ref c, .int i, .int r, .int m])
  cells : G.F c = some (.lst (ns.map V.int))
  len : ns.length ≤ 63
  hi : 0 ≤ i
  hr : 0 ≤ r
  hm : 0 ≤ m ∧ m < 2147483648
theorem BagN.ext {G : Gh} {H H' : Hp} {p c : Addr} {ns : List Int} {i r m i' r' m' : Int} (b : BagN G H p c ns i r m) (b' : BagN G H' p c ns i' r' m') (h : ∀ x, x ≠ p → H' x = H x) : Ext G H G H' :=
  ⟨b'.ok, fun x u e q _ => by rw [h x (fun z => q (by rw [z]; exact b.pb))]; exact e, fun x ps e => ⟨ps, by rw [h x (fun z => by rw [z, b.at_] at e; cases e)]; exact e⟩, rfl, fun _ z => z, fun _ z => .inl z, fun _ _ z => z, fun _ _ z => .inl z⟩
end VT
namespace VT
open PySem PySem.Spec PyProof.Rows L2
def FV.sv : FV → SV
  | .tr d => .tr d
  | .own d => .pk d
end VT
namespace VT
open PySem PySem.Spec PyProof.Rows L2
theorem RepF.len {Hs H : Hp} {G : Gh} {fs : List (Str × FV)} {ws : List (Str × V)} (r : RepF Hs G H fs ws) : ws.length = fs.length := by
  induction r with
  | nil => rfl
  | tr _ _ ih => rw [List.length_cons, List.length_cons, ih]
  | own _ _ _ _ _ ih => rw [List.length_cons, List.length_cons, ih]
end VT
namespace VT
open PySem PySem.Spec PyProof.Rows L2
def FV.d : FV → D
  | .tr d => d
  | .own d => d
def frzF (fs : List (Str × FV)) : List (Str × D) := fs.map fun p => (p.1, p.2.d)
section
variable {Gs G : Gh} {H0 Hs H : Hp} {v : V} {q C : Addr} {fs : List (Str × FV)} {ws : List (Str × V)}
theorem RepF.frz (E : Ext Gs Hs G H) (r : RepF Hs G H fs ws) (n : (adrs fs ws).Nodup) : ∃ G', Ext Gs Hs G' H ∧ (∀ x o, G.F x = some o → G'.F x = some o) ∧ G'.pb = G.pb ∧ repf G'.F (frzF fs) ws ∧ ∀ b, b ∉ adrs fs ws → G'.F b = G.F b := by
  induction r with
  | nil => exact ⟨G, E, fun _ _ h => h, rfl, rfl, fun _ _ => rfl⟩
  | @tr g d v fs ws r _ ih =>
    obtain ⟨G', E', m, ep, q, same⟩ := ih n
    exact ⟨G', E', m, ep, ⟨v, ws, rfl, rep.mono m _ _ r, q⟩, same⟩
  | @own g d b fs ws h1 h2 h3 h4 _ ih =>
    obtain ⟨n1, n2⟩ := List.nodup_cons.mp n
    obtain ⟨G', E', m, ep, q, same⟩ := ih n2
    have hF : G'.F b = none := by rw [same b n1]; exact h2
    obtain ⟨o, ho, no, nk, rd⟩ := (h4.1.mono m).obj hF h4.2
    have m2 : ∀ x u, G'.F x = some u → upd G'.F b o x = some u := upd_mono hF
    refine ⟨⟨upd G'.F b o, G'.pb, G'.T⟩, ext_freeze E' h1 ho hF (by rw [ep]; exact h3) no nk, fun x u h => m2 x u (m x u h), ep, ⟨.ref b, ws, rfl, rd, repf.mono m2 _ _ q⟩, fun x hx => ?_⟩
    have hxb : x ≠ b := fun z => hx (by rw [z]; exact List.mem_cons_self ..)
    show upd G'.F b o x = G.F x
    rw [upd_ne hxb]
    exact same x fun z => hx (List.mem_cons_of_mem _ z)
end
end VT
namespace VT
open PySem PySem.Spec PyProof.Rows L2
def prG (K : PySem.W.Frag) (p : Addr) : Addr := match PySem.W.recIn K p "property" with
  | some (.ref g :: _) => g
  | _ => 0
def prHas (K : PySem.W.Frag) (p : Addr) : Bool := match PySem.W.recIn K p "property" with
  | some (.ref _ :: _) => true
  | _ => false
def prB (K : PySem.W.Frag) (C : Addr) (m : Str) : Bool := decide (PySem.W.findIn K (.ref C) m = some (some (.ref (He.ma K C m)))) && (decide (PySem.W.specialIn K (.ref (He.ma K C m)) "__get__" = some (some (.builtin "property.__get__"))) &&
  (decide (PySem.W.takesIn K (.ref (He.ma K C m)) = some true) && prHas K (He.ma K C m)))
end VT
namespace VT
open PySem PySem.Spec PyProof.Rows L2
def fnA (K : PySem.W.Frag) (a : Addr) : He.FnW := match K.lookup a with
  | some ⟨_, _, .func fd, _⟩ => some (fd.name, fd.qualname, fd.params, fd.body, fd.scope, fd.globals, fd.closure, fd.builtins)
  | _ => none
def okA (K : PySem.W.Frag) (d : He.DefD) (a : Addr) : Bool := PySem.W.keepIn K (.ref a) && (match K.lookup a with
  | some ⟨_, _, .func fd, _⟩ => PySem.W.codeIn K fd.code d.qual && (He.dflB K fd.defaults (d.dvs K) && He.kwdB K fd.kwdefaults (d.kws K))
  | _ => false)
end VT
namespace VT
open PySem PySem.Spec PyProof.Rows L2
structure FG (K : PySem.W.Frag) (x qual : Str) (params : Arguments) (body : List Stmt) (scope : Scope) (cl : List (Str × Addr)) (dvs : List V) (kws : List (Str × V)) (f : Addr) (fd : FuncData) : Prop where
  ex : ∃ (osl : Array (Option Value)) (od an : Option Addr) (oc dV kV doc pm cdv ct : Value),
    fd = PySem.W.fnX x qual params body scope cl dV kV doc pm an cdv ct ∧ K.lookup f = some ⟨oc, od, .func fd, osl⟩ ∧ PySem.W.codeIn K cdv qual = true ∧ DflV K dV dvs ∧ KwdV K kV kws
  kp : PySem.W.keepIn K (.ref f) = true
section
variable {K : PySem.W.Frag} {x qual : Str} {params : Arguments} {body : List Stmt} {scope : Scope} {cl : List (Str × Addr)} {dvs : List V} {kws : List (Str × V)} {f : Addr} {fd : FuncData} {ps ks : List Str} {n : Nat} {ix : List Nat}
theorem FG.of (F : FunD K x qual params body scope dvs kws f fd) : FG K x qual params body scope [] dvs kws f fd := by
  obtain ⟨⟨oc, od, dV, kV, doc, pm, an, cdv, ct, osl, e1, e2, e3, e4, e5⟩, kp⟩ := F
  exact ⟨⟨osl, od, an, oc, dV, kV, doc, pm, cdv, ct, e1, e2, e3, e4, e5⟩, kp⟩
end
abbrev FXp := List SV → (SV → Prop) → XP → Prop
@[simp] def lift (F : FSp) : FXp := fun svs Q _ => F svs Q
def spX (K : PySem.W.Frag) (F : FXp) : Sp := fun vs H Q E => ∃ G svs Qs Qx, (OkG G H ∧ G.T = TabsOf K) ∧ RepL H H G H vs svs ∧ (∀ sv ∈ svs, sv.isArg) ∧ F svs Qs Qx ∧
  (∀ v H' G' sv, Ext G H G' H' → RepV H H G' H' v sv → sv.isRet → Qs sv → Q v H') ∧ ∀ cls d H', XOf G H Qx cls d H' → E cls d H'
structure FnX (P : Program) (w : World) (K : PySem.W.Frag) (mg : Str → Option Value) (base : Heap) (d : He.DefD) (f : Addr) (k : Nat) (ps : List Str) (F : FXp) : Prop where
  ex : ∃ fd cl, FG K d.name d.qual d.params d.body d.scope cl (d.dvs K) (d.kws K) f fd ∧ FnOk P w K mg base (L2N.CX P w) k f fd ps (spX K F)
section
variable {P : Program} {w : World} {K : PySem.W.Frag} {mg : Str → Option Value} {base : Heap} {d : He.DefD} {f : Addr} {j k : Nat} {N ps : List Str} {F F' : FXp} {g : EXT → GS}
theorem FnX.imp (h : FnX P w K mg base d f k ps F) (hF : ∀ svs Q Qx, F' svs Q Qx → F svs Q Qx) : FnX P w K mg base d f k ps F' := by
  obtain ⟨fd, cl, hf, hk⟩ := h
  exact ⟨fd, cl, hf, hk.imp fun vs H Q E ⟨G, svs, Qs, Qx, ok, r, ha, q, z⟩ => ⟨G, svs, Qs, Qx, ok, r, ha, hF _ _ _ q, z⟩⟩
theorem FnV.x {F : FSp} (h : FnV P w K mg base d k ps F) : FnX P w K mg base d (He.fAd K d.at_) k ps (lift F) := by
  obtain ⟨⟨fd, hf, hk⟩, hm⟩ := h
  refine ⟨fd, [], .of hf, ⟨fun vs H Q E ⟨G, svs, Qs, Qx, ok, r, ha, q, z, _⟩ => hk.len vs H Q E ⟨G, svs, Qs, ok, r, ha, q, z⟩, fun A outer s H args us vs Q E hr e0 hb rv ⟨G, svs, Qs, Qx, ok, r, ha, q, z, _⟩ => ?_⟩⟩
  refine codeAny_mono (hk.run A outer s H args us vs Q E hr e0 hb rv ⟨G, svs, Qs, ok, r, ha, q, z⟩) fun r s' hq => ?_
  cases r with
  | error e => exact False.elim hq
  | ok fl =>
    cases fl with
    | ret u => exact hq
    | next => exact hq
    | brk => exact hq
    | cont => exact hq
end
end VT
namespace VT
open PySem PySem.Spec PyProof.Rows L2
inductive Wrs (T : TBL) : List D → List V → Prop
  | nil : Wrs T [] []
  | cons {d : D} {v : V} {ds : List D} {vs : List V} : wrt d v → Wrs T ds vs → Wrs T (d :: ds) (v :: vs)
  | tup {a : Addr} {xs ds : List D} {vs : List V} : (a, xs) ∈ T.tups → Wrs T ds vs → Wrs T (.tup xs :: ds) (.ref a :: vs)
end VT
namespace VT
open PySem PySem.Spec PyProof.Rows L2
def spIniX (K : PySem.W.Frag) (C : Addr) (F : FXp) : Sp := fun vs H Q E => ∃ G H1 x dx vs' svs Qs Qx, H = upd (upd H1 dx (.own x)) x (.ins C dx []) ∧ H1 x = none ∧ H1 dx = none ∧ dx ≠ x ∧ (OkG G H1 ∧ G.T = TabsOf K) ∧ vs = .ref x :: vs' ∧ RepL H1 H1 G H1 vs' svs ∧ (∀ sv ∈ svs, sv.isArg) ∧ F svs Qs Qx ∧
  (∀ H' G' fs, Ext G H1 G' H' → RepV H1 H1 G' H' (.ref x) (.obj x C fs) → Qs (.tr (.ins C (frzF fs))) → Q .non H') ∧ ∀ cls d H', XOf G H1 Qx cls d H' → E cls d H'
structure IniX (P : Program) (w : World) (K : PySem.W.Frag) (mg : Str → Option Value) (base : Heap) (d : He.DefD) (C f : Addr) (k : Nat) (ps : List Str) (F : FXp) : Prop where
  ex : ∃ fd cl, FG K d.name d.qual d.params d.body d.scope cl (d.dvs K) (d.kws K) f fd ∧ FnOk P w K mg base (L2N.CX P w) k f fd ps (spIniX K C F)
section
variable {P : Program} {w : World} {K : PySem.W.Frag} {mg : Str → Option Value} {base : Heap} {d : He.DefD} {C f : Addr} {j k : Nat} {N ps : List Str} {F F' : FXp} {g : EXT → GS}
theorem IniX.imp (h : IniX P w K mg base d C f k ps F) (hF : ∀ svs Q Qx, F' svs Q Qx → F svs Q Qx) : IniX P w K mg base d C f k ps F' := by
  obtain ⟨fd, cl, hf, hk⟩ := h
  exact ⟨fd, cl, hf, hk.imp fun vs H Q E ⟨G, H1, x, dx, vs', svs, Qs, Qx, e1, e2, e3, e4, ok, ev, r, ha, q, z⟩ => ⟨G, H1, x, dx, vs', svs, Qs, Qx, e1, e2, e3, e4, ok, ev, r, ha, hF _ _ _ q, z⟩⟩
end
end VT
namespace VT
open PySem PySem.Spec PyProof.Rows L2
structure SupScope (N ps : List Str) (sc : Scope) : Prop where
  kind : sc.kind = .function
  co : sc.isCoroutine = false
  gen : sc.isGenerator = false
  nd : N.Nodup
  pre : N.take ps.length = ps
  par : ∀ x ∈ ps, sc.names.lookup x = some .local
  nocell : ∀ y ∈ sc.names, y.2 ≠ .cell
  free : ∀ y ∈ sc.names, y.2 = .free → y.1 = ("__class__" : Str)
end VT
namespace VT
open PySem PySem.Spec PyProof.Rows L2
structure XBase (B newId initId : String) (bmB : List Value) : Prop where
  sf : StoreFacts B bmB "object.__setattr__" "object"
  fb : ExcBaseFacts B newId initId bmB
  kf : PySem.W.KxsFacts B initId
theorem xb_VE : XBase "ValueError" "ValueError.__new__" "ValueError.__init__" [.type "ValueError", .type "Exception", .type "BaseException", .type "object"] := ⟨PySem.F.store_ValueError, PySem.F.excBase_ValueError, PySem.W.kxs_ValueError⟩
theorem xb_LE : XBase "LookupError" "LookupError.__new__" "LookupError.__init__" [.type "LookupError", .type "Exception", .type "BaseException", .type "object"] := ⟨PySem.F.store_LookupError, PySem.F.excBase_LookupError, PySem.W.kxs_LookupError⟩
theorem xb_IE : XBase "IndexError" "IndexError.__new__" "IndexError.__init__" [.type "IndexError", .type "LookupError", .type "Exception", .type "BaseException", .type "object"] := ⟨PySem.F.store_IndexError, PySem.F.excBase_IndexError, PySem.W.kxs_IndexError⟩
structure XCls (K : PySem.W.Frag) (B newId initId : String) (bmB : List Value) (C : Addr) : Prop where
  ini : PySem.W.excInitIn K C bmB newId = true
  over : PySem.W.excOver K C bmB = true
  sa : PySem.W.findIn K (.ref C) "__setattr__" = some (some (.builtin "object.__setattr__"))
  sub : PySem.W.subIn K (.ref C) (.type "BaseException") = some true
  subB : PySem.W.subIn K (.ref C) (.type B) = some true
  ty : PySem.W.typeIn K (.ref C) = some (.type "type")
  keep : PySem.W.keepIn K (.ref C) = true
  dict : ∃ cd, PySem.W.clsIn K C = some cd ∧ cd.hasDict = true
end VT
namespace VT
open PySem PySem.Spec PyProof.Rows L2
def ccA (K : PySem.W.Frag) (f : Addr) : Addr := match K.lookup f with
  | some ⟨_, _, .func fd, _⟩ => (match fd.closure with
    | [(_, c)] => c
    | _ => 0)
  | _ => 0
def valS (d : He.DefD) (cc : Addr) : He.FnW := some (d.name, d.qual, d.params, .stmts d.body, d.scope, mainGlobals, [("__class__", cc)], builtinsNs)
theorem fgS {K : PySem.W.Frag} {d : He.DefD} {a : Addr} (e : fnA K a = valS d (ccA K a)) (c : okA K d a = true) : ∃ fd, FG K d.name d.qual d.params d.body d.scope [("__class__", ccA K a)] (d.dvs K) (d.kws K) a fd := by
  unfold okA at c
  rw [Bool.and_eq_true] at c
  obtain ⟨kp, c2⟩ := c
  unfold fnA at e
  cases q : K.lookup a with
  | none => rw [q] at c2; cases c2
  | some ob =>
    obtain ⟨oc, od, dt, osl⟩ := ob
    rw [q] at c2 e
    cases dt with
    | func fd =>
      generalize ccA K a = cc at e
      obtain ⟨m1, m2, m3, m4, m5, m6, m7, m8, m9, m10, m11, m12, m13, m14, m15⟩ := fd
      have e2 : (some (m1, m2, m3, m4, m5, m6, m7, m15) : He.FnW) = some (d.name, d.qual, d.params, FuncBody.stmts d.body, d.scope, mainGlobals, [(("__class__" : Str), cc)], builtinsNs) := e
      simp only [Option.some.injEq, Prod.mk.injEq] at e2
      obtain ⟨rfl, rfl, rfl, rfl, rfl, rfl, rfl, rfl⟩ := e2
      have c3 : (PySem.W.codeIn K m13 d.qual && (He.dflB K m8 (d.dvs K) && He.kwdB K m9 (d.kws K))) = true := c2
      rw [Bool.and_eq_true, Bool.and_eq_true] at c3
      obtain ⟨k1, k3, k4⟩ := c3
      exact ⟨_, ⟨osl, od, m12, oc, m8, m9, m10, m11, m13, m14, rfl, q, k1, He.dflB_ok k3, He.kwdB_ok k4⟩, kp⟩
    | _ => cases c2
def fileB (P : Program) (K : PySem.W.Frag) (cd : Value) : Bool := match cd with
  | .ref c => (match K.lookup c with
    | some ⟨_, _, .fields vs, _⟩ => (match vs[2]? with
      | some (Value.str file _) => ((P.main.file : Str) == file)
      | _ => false)
    | _ => false)
  | _ => false
def supB (P : Program) (K : PySem.W.Frag) (f D : Addr) : Bool := (match K.lookup f with
    | some ⟨_, _, .func fd, _⟩ => fileB P K fd.code
    | _ => false) && ((match K.lookup (ccA K f) with
    | some ⟨_, _, .cell (some (.ref D')), _⟩ => D' == D
    | _ => false) && ((PySem.W.clsIn K D).isSome && (decide (PySem.W.nsIn K cStatics "thirdparty.any" = some none) && !(P.main.scope.names.lookup ("super" : Str)).isSome)))
structure SupK (P : Program) (K : PySem.W.Frag) (mg : Str → Option Value) (f D : Addr) : Prop where
  ok : supB P K f D = true
  mg : mg "super" = none
theorem SupK.cell {P : Program} {K : PySem.W.Frag} {mg : Str → Option Value} {f D : Addr} (T : SupK P K mg f D) : ∃ oc, K.lookup (ccA K f) = some oc ∧ oc.data = .cell (some (.ref D)) := by
  have h := T.ok
  unfold supB at h
  simp only [Bool.and_eq_true] at h
  obtain ⟨_, h2, _⟩ := h
  split at h2
  · rename_i D' _ lk
    rw [beq_iff_eq] at h2
    rw [← h2]
    exact ⟨_, lk, rfl⟩
  · cases h2
section
variable {P : Program} {w : World} {K : PySem.W.Frag} {mg : Str → Option Value} {base : Heap} {d : He.DefD} {f C D : Addr} {fl cn t : Str} {j j2 : Nat} {p0 p1 p2 p3 p4 p5 p6 p7 p8 p9 p10 p11 p12 p13 : Pos} {ar : Arg}
structure XKind (K : PySem.W.Frag) (C D f : Addr) : Prop where
  xc : ∃ B newId initId bmB, XBase B newId initId bmB ∧ XCls K B newId initId bmB C ∧ PySem.W.ks_superIn K C D "__init__" = some (some (.builtin initId))
  sub : PySem.W.mroIn K C (.ref D) = some true
  code : PySem.W.findIn K (.ref C) "code" = some none
  init : PySem.W.findIn K (.ref C) "__init__" = some (some (.ref f))
  fn : PySem.W.typeIn K (.ref f) = some (.type "function")
end
end VT
namespace VT
open PySem PySem.Spec PyProof.Rows L2
structure Lks where
  fa : List He.Fa
  fn : List He.DefD
  pr : List (Str × Str × He.DefD) := []
  bs : List (PySem.W.Frag → Bool) := []
def prAt (K : PySem.W.Frag) (p : Str × Str × He.DefD) : Addr := prG K (He.ma K (He.ga K p.1) p.2.1)
def Lks.seen (L : Lks) (K : PySem.W.Frag) : Bool × List He.FnW :=
  ((L.fa.all fun f => f.ok K) && ((L.fn.all fun d => d.ok K) && ((L.pr.all fun p => prB K (He.ga K p.1) p.2.1 && okA K p.2.2 (prAt K p)) && L.bs.all fun b => b K)), (L.fn.map fun d => He.fnW K d.at_) ++ L.pr.map fun p => fnA K (prAt K p))
def Lks.due (L : Lks) : Bool × List He.FnW := (true, L.fn.map He.DefD.val ++ L.pr.map fun p => p.2.2.val)
def Lks.Ok (L : Lks) (K : PySem.W.Frag) : Prop := L.seen K = L.due
section
variable {L : Lks} {K : PySem.W.Frag}
theorem Lks.Ok.all (c : L.Ok K) : (∀ f ∈ L.fa, f.ok K = true) ∧ (∀ d ∈ L.fn, d.ok K = true) ∧ (∀ p ∈ L.pr, prB K (He.ga K p.1) p.2.1 = true ∧ okA K p.2.2 (prAt K p) = true) ∧ ∀ b ∈ L.bs, b K = true := by
  have c1 : (L.seen K).1 = true := congrArg (fun z : Bool × List He.FnW => z.1) c
  unfold Lks.seen at c1
  simp only [Bool.and_eq_true, List.all_eq_true] at c1
  exact c1
theorem Lks.Ok.bool (c : L.Ok K) (i : Nat) {b : PySem.W.Frag → Bool} (h : L.bs[i]? = some b := by rfl) : b K = true := c.all.2.2.2 b (List.mem_of_getElem? h)
theorem Lks.Ok.fns (c : L.Ok K) : (L.fn.map fun d => He.fnW K d.at_) = L.fn.map He.DefD.val ∧ (L.pr.map fun p => fnA K (prAt K p)) = L.pr.map fun p => p.2.2.val := by
  have c2 : (L.seen K).2 = L.due.2 := congrArg (fun z : Bool × List He.FnW => z.2) c
  exact List.append_inj c2 (by simp)
end
structure FnG (P : Program) (w : World) (K : PySem.W.Frag) (mg : Str → Option Value) (base : Heap) (d : He.DefD) (k : Nat) (ps : List Str) (F : FXp) : Prop where
  x : FnX P w K mg base d (He.fAd K d.at_) k ps F
  mg : mg d.name = some (.ref (He.fAd K d.at_))
theorem FnV.g {P : Program} {w : World} {K : PySem.W.Frag} {mg : Str → Option Value} {base : Heap} {d : He.DefD} {k : Nat} {ps : List Str} {F : FSp} (h : FnV P w K mg base d k ps F) : FnG P w K mg base d k ps (lift F) := ⟨h.x, h.mg⟩
def clsBody : Stmt → List Stmt
  | .ClassDef _ _ _ b _ _ _ _ _ _ _ => b
  | _ => []
end VT
namespace VT
open PySem PySem.Spec PyProof.Rows L2
theorem IsA.arg {sv : SV} {d : D} (h : IsA sv d) : IsA sv.arg d := by
  obtain ⟨h1, h2, h3⟩ := h
  cases sv with
  | tr x => exact ⟨rfl, h2, fun _ => trivial⟩
  | own x => cases h1
  | brw x => exact ⟨rfl, h2, fun _ => trivial⟩
  | pk x => cases h3 false
  | tz x => exact ⟨rfl, h2, fun _ => trivial⟩
  | _ => exact (h3 false).elim
end VT
namespace VT
open PySem PySem.Spec PyProof.Rows L2
abbrev cellO (o : Obj) : HO := .frz o (.frz o (.ext fun _ => True))
def freeH (cs : List (Addr × Obj)) (H : Hp) : Hp := fun b => match cs.lookup b with
  | some _ => none
  | none => H b
section
variable {cs : List (Addr × Obj)} {H H' : Hp} {b : Addr} {o : Obj} {u : HO}
theorem free_off (h : cs.lookup b = none) : freeH cs H b = H b := by unfold freeH; rw [h]
theorem nc_own (x : Addr) : ∀ o, HO.own x ≠ cellO o := fun o z => by cases z
theorem nc_tup (x : List V) : ∀ o, HO.tup x ≠ cellO o := fun o z => by cases z
theorem nc_lst (x : List V) : ∀ o, HO.lst x ≠ cellO o := fun o z => by cases z
theorem nc_dT (x : List (List Key × V)) : ∀ o, HO.dT x ≠ cellO o := fun o z => by cases z
theorem nc_xd (x : List (Str × V)) : ∀ o, HO.xd x ≠ cellO o := fun o z => by cases z
theorem nc_ins (C dx : Addr) (x : List (Str × V)) : ∀ o, HO.ins C dx x ≠ cellO o := fun o z => by cases z
theorem nc_frz (o' : Obj) (x : List V) : ∀ o, HO.frz o' (.tup x) ≠ cellO o := fun o z => by cases z
theorem nc_frzK (o' : Obj) (x : List (Key × V)) : ∀ o, HO.frz o' (.dK x) ≠ cellO o := fun o z => by cases z
theorem nc_code (c : Addr) (q : Str) : ∀ o, LamX.CodeO c q ≠ cellO o := fun o z => by unfold LamX.CodeO at z; cases z
theorem nc_lam (f c : Addr) (dV : Value) (b : LamB) : ∀ o, lamO f c dV b ≠ cellO o := fun o z => by unfold lamO at z; cases z
theorem nc_exn (o' : Obj) (a C dx : Addr) : ∀ o, HO.frz o' (exnO a C dx) ≠ cellO o := fun o z => by unfold exnO at z; cases z
abbrev Out (cs : List (Addr × Obj)) (H : Hp) : Prop := ∀ c o, cs.lookup c = some o → H c = none
abbrev Kn (cs : List (Addr × Obj)) (H : Hp) : Prop := ∀ c o, cs.lookup c = some o → H c = some (cellO o)
theorem Out.off (h : Out cs H) (e : H b = some u) : cs.lookup b = none := by
  cases q : cs.lookup b with
  | none => rfl
  | some o => rw [h b o q] at e; cases e
theorem Kn.off (h : Kn cs H) (e : H b = some u) (n : ∀ o, u ≠ cellO o) : cs.lookup b = none := by
  cases q : cs.lookup b with
  | none => rfl
  | some o => rw [h b o q] at e; exact (n o (Option.some.inj e).symm).elim
theorem Kn.free (h : Kn cs H) (e : H b = some u) (n : ∀ o, u ≠ cellO o) : freeH cs H b = some u := by rw [free_off (h.off e n)]; exact e
end
abbrev Gh.free (cs : List (Addr × Obj)) (G : Gh) : Gh := ⟨freeH cs G.F, G.pb, G.T⟩
section
variable {F F' : Hp}
mutual
theorem rep.nc (h : ∀ b u, F b = some u → (∀ o, u ≠ cellO o) → F' b = some u) : ∀ (d : D) (v : V), rep F d v → rep F' d v
  | .non, _, r => r
  | .bl _, _, r => r
  | .int _, _, r => r
  | .str _, _, r => r
  | .lst ds, _, ⟨a, vs, e, q, r⟩ => ⟨a, vs, e, h _ _ q (nc_lst _), reps.nc h ds vs r⟩
  | .tup ds, _, ⟨a, vs, e, q, r⟩ => ⟨a, vs, e, q.imp (fun q => h _ _ q (nc_tup _)) fun ⟨o, q⟩ => ⟨o, h _ _ q (nc_frz _ _)⟩, reps.nc h ds vs r⟩
  | .dic kvs, _, ⟨a, o, ws, e, q, r⟩ => ⟨a, o, ws, e, h _ _ q (nc_frzK _ _), repk.nc h kvs ws r⟩
  | .dit kvs, _, ⟨a, ws, e, q, r⟩ => ⟨a, ws, e, h _ _ q (nc_dT _), rept.nc h kvs ws r⟩
  | .ins C fs, _, ⟨a, dx, ws, e, q, q2, r⟩ => ⟨a, dx, ws, e, h _ _ q (nc_ins _ _ _), h _ _ q2 (nc_own _), repf.nc h fs ws r⟩
  | .exn C fs, _, ⟨a, dx, ws, o, e, q, q2, r⟩ => ⟨a, dx, ws, o, e, h _ _ q (nc_exn _ _ _ _), h _ _ q2 (nc_xd _), repf.nc h fs ws r⟩
  | .fn _ _, _, ⟨e, c, dV, h1, h2, h3⟩ => ⟨e, c, dV, h _ _ h1 (nc_lam _ _ _ _), h _ _ h2 (nc_code _ _), h3.imp id fun ⟨a, T, b, h4⟩ => ⟨a, T, b, h _ _ h4 (nc_tup _)⟩⟩
  | .opq, _, r => r
theorem reps.nc (h : ∀ b u, F b = some u → (∀ o, u ≠ cellO o) → F' b = some u) : ∀ (ds : List D) (vs : List V), reps F ds vs → reps F' ds vs
  | [], _, r => r
  | d :: ds, _, ⟨v, r, e, q, z⟩ => ⟨v, r, e, rep.nc h d v q, reps.nc h ds r z⟩
theorem repk.nc (h : ∀ b u, F b = some u → (∀ o, u ≠ cellO o) → F' b = some u) : ∀ (ds : List (Key × D)) (vs : List (Key × V)), repk F ds vs → repk F' ds vs
  | [], _, r => r
  | (k, d) :: ds, _, ⟨v, r, e, q, z⟩ => ⟨v, r, e, rep.nc h d v q, repk.nc h ds r z⟩
theorem rept.nc (h : ∀ b u, F b = some u → (∀ o, u ≠ cellO o) → F' b = some u) : ∀ (ds : List (List Key × D)) (vs : List (List Key × V)), rept F ds vs → rept F' ds vs
  | [], _, r => r
  | (k, d) :: ds, _, ⟨v, r, e, q, z⟩ => ⟨v, r, e, rep.nc h d v q, rept.nc h ds r z⟩
theorem repf.nc (h : ∀ b u, F b = some u → (∀ o, u ≠ cellO o) → F' b = some u) : ∀ (ds : List (Str × D)) (vs : List (Str × V)), repf F ds vs → repf F' ds vs
  | [], _, r => r
  | (k, d) :: ds, _, ⟨v, r, e, q, z⟩ => ⟨v, r, e, rep.nc h d v q, repf.nc h ds r z⟩
end
end
end VT
namespace VT
open PySem PySem.Spec PyProof.Rows L2
structure XE where
  x : Str
  d : He.DefD
  b : Nat
  fl : Option Str
structure XBd where
  B : String
  newId : String
  initId : String
  bm : List Value
def xbd : Nat → XBd
  | 0 => ⟨"ValueError", "ValueError.__new__", "ValueError.__init__", [.type "ValueError", .type "Exception", .type "BaseException", .type "object"]⟩
  | 1 => ⟨"LookupError", "LookupError.__new__", "LookupError.__init__", [.type "LookupError", .type "Exception", .type "BaseException", .type "object"]⟩
  | _ => ⟨"IndexError", "IndexError.__new__", "IndexError.__init__", [.type "IndexError", .type "LookupError", .type "Exception", .type "BaseException", .type "object"]⟩
theorem xbd_ok : ∀ n, XBase (xbd n).B (xbd n).newId (xbd n).initId (xbd n).bm
  | 0 => xb_VE
  | 1 => xb_LE
  | _ + 2 => xb_IE
def xcB (K : PySem.W.Frag) (C : Addr) (b : XBd) : Bool :=
  PySem.W.excInitIn K C b.bm b.newId && (PySem.W.excOver K C b.bm && (decide (PySem.W.findIn K (.ref C) "__setattr__" = some (some (.builtin "object.__setattr__"))) && (decide (PySem.W.subIn K (.ref C) (.type "BaseException") = some true) && (decide (PySem.W.subIn K (.ref C) (.type b.B) = some true) &&
    (decide (PySem.W.typeIn K (.ref C) = some (.type "type")) && (PySem.W.keepIn K (.ref C) && (match PySem.W.clsIn K C with | some cd => cd.hasDict | none => false)))))))
theorem xcB_ok {K : PySem.W.Frag} {C : Addr} {b : XBd} (h : xcB K C b = true) : XCls K b.B b.newId b.initId b.bm C := by
  unfold xcB at h
  simp only [Bool.and_eq_true, decide_eq_true_eq] at h
  obtain ⟨h1, h2, h3, h4, h5, h6, h7, h8⟩ := h
  refine ⟨h1, h2, h3, h4, h5, h6, h7, ?_⟩
  split at h8
  · rename_i cd e
    exact ⟨cd, e, h8⟩
  · cases h8
def XE.C (e : XE) (K : PySem.W.Frag) : Addr := He.ga K e.x
def XE.f (e : XE) (K : PySem.W.Frag) : Addr := He.ma K (He.ga K e.x) "__init__"
def XE.ok (P : Program) (K : PySem.W.Frag) (e : XE) : Bool :=
  xcB K (e.C K) (xbd e.b) && (decide (PySem.W.ks_superIn K (e.C K) (e.C K) "__init__" = some (some (.builtin (xbd e.b).initId))) && (decide (PySem.W.mroIn K (e.C K) (.ref (e.C K)) = some true) && (decide (PySem.W.findIn K (.ref (e.C K)) "code" = some none) &&
    (decide (PySem.W.findIn K (.ref (e.C K)) "__init__" = some (some (.ref (e.f K)))) && (decide (PySem.W.typeIn K (.ref (e.f K)) = some (.type "function")) && (okA K e.d (e.f K) && (supB P K (e.f K) (e.C K) && (xfB K (e.C K) && (match e.fl with | some fl => decide (PySem.W.findIn K (.ref (e.C K)) fl = some none) | none => true)))))))))
def fnS (K : PySem.W.Frag) (a : Addr) : He.FnW := match K.lookup a with
  | some ⟨_, _, .func fd, _⟩ => some (fd.name, fd.qualname, fd.params, fd.body, fd.scope, fd.globals, fd.closure.map (fun p => (p.1, 0)), fd.builtins)
  | _ => none
theorem fnS_of {K : PySem.W.Frag} {a : Addr} {d : He.DefD} (e : fnS K a = valS d 0) : fnA K a = valS d (ccA K a) := by
  unfold fnS at e
  unfold fnA ccA
  cases q : K.lookup a with
  | none => rw [q] at e; cases e
  | some ob =>
    obtain ⟨oc, od, dt, osl⟩ := ob
    rw [q] at e
    cases dt with
    | func fd =>
      obtain ⟨m1, m2, m3, m4, m5, m6, m7, m8, m9, m10, m11, m12, m13, m14, m15⟩ := fd
      have e2 : (some (m1, m2, m3, m4, m5, m6, m7.map (fun p => (p.1, 0)), m15) : He.FnW) = some (d.name, d.qual, d.params, FuncBody.stmts d.body, d.scope, mainGlobals, [(("__class__" : Str), 0)], builtinsNs) := e
      simp only [Option.some.injEq, Prod.mk.injEq] at e2
      obtain ⟨rfl, rfl, rfl, rfl, rfl, rfl, e7, rfl⟩ := e2
      match m7, e7 with
      | [(z, c)], e7 =>
        simp at e7
        subst e7
        rfl
      | [], e7 => simp at e7
      | _ :: _ :: _, e7 => simp at e7
    | _ => cases e
structure LksX where
  l : Lks
  P : Program
  xs : List XE
def LksX.seen (L : LksX) (K : PySem.W.Frag) : (Bool × List He.FnW) × Bool × List He.FnW := (L.l.seen K, L.xs.all (fun e => e.ok L.P K), L.xs.map fun e => fnS K (e.f K))
def LksX.due (L : LksX) : (Bool × List He.FnW) × Bool × List He.FnW := (L.l.due, true, L.xs.map fun e => valS e.d 0)
def LksX.Ok (L : LksX) (K : PySem.W.Frag) : Prop := L.seen K = L.due
structure XOk (P : Program) (K : PySem.W.Frag) (e : XE) : Prop where
  fn : fnS K (e.f K) = valS e.d 0
  ok : e.ok P K = true
theorem LksX.Ok.x {L : LksX} {K : PySem.W.Frag} (c : L.Ok K) (i : Nat) {e : XE} (h : L.xs[i]? = some e := by rfl) : XOk L.P K e := by
  have c2 : L.xs.all (fun e => e.ok L.P K) = true := congrArg (fun z : (Bool × List He.FnW) × Bool × List He.FnW => z.2.1) c
  have c3 : (L.xs.map fun e => fnS K (e.f K)) = L.xs.map fun e => valS e.d 0 := congrArg (fun z : (Bool × List He.FnW) × Bool × List He.FnW => z.2.2) c
  have e3 := congrArg (fun l => l[i]?) c3
  simp only [List.getElem?_map, h] at e3
  exact ⟨Option.some.inj e3, List.all_eq_true.mp c2 e (List.mem_of_getElem? h)⟩
section
variable {P : Program} {K : PySem.W.Frag} {e : XE}
theorem XOk.all (h : XOk P K e) : XKind K (e.C K) (e.C K) (e.f K) ∧ okA K e.d (e.f K) = true ∧ supB P K (e.f K) (e.C K) = true ∧ XfC K (e.C K) ∧ ∀ fl, e.fl = some fl → PySem.W.findIn K (.ref (e.C K)) fl = some none := by
  have k := h.ok
  unfold XE.ok at k
  simp only [Bool.and_eq_true, decide_eq_true_eq] at k
  obtain ⟨h1, h2, h3, h4, h5, h6, h7, h8, h9, h10⟩ := k
  refine ⟨⟨⟨_, _, _, _, xbd_ok e.b, xcB_ok h1, h2⟩, h3, h4, h5, h6⟩, h7, h8, xfB_ok h9, fun fl hf => ?_⟩
  rw [hf] at h10
  exact of_decide_eq_true h10
theorem XOk.fg (h : XOk P K e) : ∃ fd, FG K e.d.name e.d.qual e.d.params e.d.body e.d.scope [("__class__", ccA K (e.f K))] (e.d.dvs K) (e.d.kws K) (e.f K) fd := fgS (fnS_of h.fn) h.all.2.1
end
end VT
namespace VT
open PySem PySem.Spec PyProof.Rows L2
section
variable {X : Cx} {EX : EXT} {pins : List (Addr × Obj)} {σ : L2.St} {H0 Hs H : Hp} {G : Gh} {s : Shared} {k : Nat} {v : V} {u : Value} {sv : SV} {alts : List (Addr × FXp)}
def exB (x : Str) (K : PySem.W.Frag) : Bool := decide (PySem.W.exmAny K (.ref (He.ga K x)) [.ref (He.ga K "HeardError"), .ref (He.ga K "Missing"), .ref (He.ga K "NothingLeft")] = some true)
end
end VT
namespace VT
open PySem PySem.Spec PyProof.Rows L2
def iskB (x : Str) (K : PySem.W.Frag) : Bool := decide (PySem.W.findIn K (.ref (He.ga K x)) "__class__" = some (some (.builtin "object.__class__"))) && (decide (PySem.W.specialIn K (.builtin "object.__class__") "__get__" = some (some (.builtin "getset_descriptor.__get__"))) &&
  (decide (PySem.W.takesIn K (.builtin "object.__class__") = some true) && decide (PySem.W.mroIn K (He.ga K x) (.type "object") = some true)))
def inkB (x y : Str) (b : Bool) (K : PySem.W.Frag) : Bool := decide (PySem.W.kitOne K (.ref (He.ga K x)) (.ref (He.ga K y)) = some b)
end VT
namespace VT
open PySem PySem.Spec PyProof.Rows L2
def uV : Value → V
  | .bool b => .bl b
  | .int i _ => .int i
  | .str x _ => .str x
  | _ => .non
def tupV (o : Obj) : List V := match o.data with
  | .seq its _ => its.toList.map uV
  | _ => []
abbrev tupO (o : Obj) : HO := .frz o (.tup (tupV o))
structure TupB (ds : List D) (o : Obj) : Prop where
  cls : o.cls = .type "tuple"
  dict : o.dict = none
  data : ∃ its n, o.data = .seq its n ∧ Vals (tupV o) its.toList
  reps : reps (fun _ => none) ds (tupV o)
  len : (tupV o).length ≤ sizeLine
def repB : List D → List Value → Bool
  | [], [] => true
  | .non :: ds, .none :: us => repB ds us
  | .bl b :: ds, .bool c :: us => decide (b = c) && repB ds us
  | .int i :: ds, .int j _ :: us => decide (i = j) && repB ds us
  | .str x :: ds, .str y _ :: us => decide (x = y) && (decide (okS x) && repB ds us)
  | _, _ => false
theorem repB_ok : ∀ {ds : List D} {us : List Value}, repB ds us = true → reps (fun _ => none) ds (us.map uV) ∧ Vals (us.map uV) us
  | [], us, h => by
    cases us with
    | nil => exact ⟨rfl, .nil⟩
    | cons u us => cases h
  | d :: ds, us, h => by
    unfold repB at h
    split at h
    · rename_i e
      cases e
    · rename_i e
      cases e
      obtain ⟨a, b⟩ := repB_ok h
      exact ⟨⟨_, _, rfl, rfl, a⟩, .cons rfl b⟩
    · rename_i e
      cases e
      simp only [Bool.and_eq_true, decide_eq_true_eq] at h
      obtain ⟨a, b⟩ := repB_ok h.2
      exact ⟨⟨_, _, rfl, by rw [h.1]; rfl, a⟩, .cons rfl b⟩
    · rename_i e
      cases e
      simp only [Bool.and_eq_true, decide_eq_true_eq] at h
      obtain ⟨a, b⟩ := repB_ok h.2
      exact ⟨⟨_, _, rfl, by rw [h.1]; rfl, a⟩, .cons ⟨_, rfl⟩ b⟩
    · rename_i e
      cases e
      simp only [Bool.and_eq_true, decide_eq_true_eq] at h
      obtain ⟨a, b⟩ := repB_ok h.2.2
      exact ⟨⟨_, _, rfl, ⟨by rw [h.1]; rfl, h.2.1⟩, a⟩, .cons ⟨_, rfl⟩ b⟩
    · cases h
def tupB (ds : List D) (o : Obj) : Bool := match o with
  | ⟨.type c, none, .seq its _, _⟩ => decide (c = "tuple") && (repB ds its.toList && decide (its.size ≤ 1000))
  | _ => false
theorem tupB_ok {ds : List D} {o : Obj} (h : tupB ds o = true) : TupB ds o := by
  unfold tupB at h
  split at h
  · simp only [Bool.and_eq_true, decide_eq_true_eq] at h
    obtain ⟨h1, h2, h3⟩ := h
    subst h1
    obtain ⟨a, b⟩ := repB_ok h2
    refine ⟨rfl, rfl, ⟨_, _, rfl, b⟩, a, ?_⟩
    show (List.map uV _).length ≤ _
    rw [List.length_map, Array.length_toList]
    exact Nat.le_trans h3 (by decide)
  · cases h
section
variable {P : Program} {w : World} {ext : List (Addr × Obj)} {H H' : Hp} {b : Addr} {o : Obj} {u : HO} {h h' : Heap} {fs : List Addr}
abbrev KnT (ext : List (Addr × Obj)) (H : Hp) : Prop := ∀ c o, ext.lookup c = some o → H c = some (tupO o)
theorem KnT.free (h : KnT ext H) (e : H b = some u) (n : ∀ o, u ≠ tupO o) : freeH ext H b = some u := by
  cases q : ext.lookup b with
  | none => rw [free_off q]; exact e
  | some o => rw [h b o q] at e; exact (n o (Option.some.inj e).symm).elim
end
def newsM : List Addr → Nat → List Addr
  | [], _ => []
  | a :: r, m => if Nat.testBit m a then newsM r m else a :: newsM r (m ||| (1 <<< a))
def maskM : List Addr → Nat → Nat
  | [], m => m
  | a :: r, m => maskM r (m ||| (1 <<< a))
def lvlM (g : Addr → Option Obj) : Nat → List Addr → Nat → List Addr
  | 0, fr, _ => fr
  | n + 1, fr, m => fr ++ lvlM g n (newsM (fr.flatMap fun a => match g a with | some o => He.refsD o | none => []) m) (maskM (newsM (fr.flatMap fun a => match g a with | some o => He.refsD o | none => []) m) m)
def asY (g : Addr → Option Obj) (n : Nat) : List Addr := cStatics :: lvlM g n [mainGlobals] (1 <<< mainGlobals)
def dropK (l : List (Addr × List D)) (K : PySem.W.Frag) : PySem.W.Frag := List.filter (fun q : Addr × Obj => !l.any fun p => decide (p.1 = q.1)) K
theorem lookup_mem {α : Type} {a : Addr} {o : α} : ∀ {l : List (Addr × α)}, l.lookup a = some o → (a, o) ∈ l
  | [], h => by cases h
  | (b, u) :: l, h => by
    by_cases e : a = b
    · subst e
      have h : some u = some o := by simpa [List.lookup] using h
      cases h
      exact List.mem_cons_self ..
    · have h : l.lookup a = some o := by
        rw [List.lookup_cons] at h
        rwa [show (a == b) = false from beq_false_of_ne e] at h
      exact List.mem_cons_of_mem _ (lookup_mem h)
theorem dropK_at {g : Addr → Option Obj} {as : List Addr} {l : List (Addr × List D)} {a : Addr} {o : Obj} (h : (dropK l (He.frT g as)).lookup a = some o) : g a = some o ∧ He.emptyTab o = false := by
  have h1 := (List.mem_filter.mp (lookup_mem h)).1
  have h2 := List.mem_filter.mp h1
  exact ⟨He.frG_mem h2.1, by simpa using h2.2⟩
def frZ (g : Addr → Option Obj) (n : Nat) : PySem.W.Frag := let K0 := He.frT g (asY g n); dropK (tupIn K0) K0
def tabE (g : Addr → Option Obj) (K : PySem.W.Frag) : Bool := (lamIn K).all fun x => match g (He.cT K (x, none)).2 with
  | some o => He.emptyTab o
  | none => false
def tupE (g : Addr → Option Obj) (K : PySem.W.Frag) : Bool := (tupIn K).all fun p => match g p.1, K.lookup p.1 with
  | some o, none => tupB p.2 o
  | _, _ => false
abbrev obsZ {β : Type} (n : Nat) (o : PySem.W.Frag → β) (g : Addr → Option Obj) : β × Bool := (o (frZ g n), tabE g (frZ g n) && tupE g (frZ g n))
def hookZ {β : Type} (n : Nat) (o : PySem.W.Frag → β) (v : β) : PySem.W.Hook where
  α := β × Bool
  obs := fun s => obsZ n o s.heap.get?
  val := fun _ => (v, true)
  says := fun _ h => ∃ K : PySem.W.Frag, K.In h ∧ o K = v ∧ (∀ x ∈ lamIn K, h.get? (He.cT K (x, none)).2 = some { cls := .none, data := .fields #[] } ∧ K.lookup (He.cT K (x, none)).2 = none) ∧
    ∀ p ∈ tupIn K, ∃ o, h.get? p.1 = some o ∧ K.lookup p.1 = none ∧ TupB p.2 o
  of := fun w h e => by
    refine ⟨frZ h.heap.get? n, fun a o q => (dropK_at q).1, congrArg (fun z : β × Bool => z.1) e, fun x hx => ?_, fun p hp => ?_⟩
    · have e2 : (tabE h.heap.get? (frZ h.heap.get? n) && tupE h.heap.get? (frZ h.heap.get? n)) = true := congrArg (fun z : β × Bool => z.2) e
      rw [Bool.and_eq_true] at e2
      have e3 := List.all_eq_true.mp e2.1 x hx
      cases q : h.heap.get? (He.cT (frZ h.heap.get? n) (x, none)).2 with
      | none => rw [q] at e3; cases e3
      | some o =>
        rw [q] at e3
        refine ⟨congrArg some (He.emptyTab_eq e3), ?_⟩
        cases z : (frZ h.heap.get? n).lookup (He.cT (frZ h.heap.get? n) (x, none)).2 with
        | none => rfl
        | some u =>
          obtain ⟨z1, z2⟩ := dropK_at z
          rw [q] at z1
          cases z1
          rw [show He.emptyTab o = true from e3] at z2
          cases z2
    · have e2 : (tabE h.heap.get? (frZ h.heap.get? n) && tupE h.heap.get? (frZ h.heap.get? n)) = true := congrArg (fun z : β × Bool => z.2) e
      rw [Bool.and_eq_true] at e2
      have e3 := List.all_eq_true.mp e2.2 p hp
      split at e3
      · rename_i o q1 q2
        exact ⟨o, q1, q2, tupB_ok e3⟩
      · cases e3
  keeps := fun _ _ _ ⟨K, hK, c, t, u⟩ k => ⟨K, PySem.W.Frag.In.keeps hK k, c, fun x hx => ⟨k _ _ (t x hx).1, (t x hx).2⟩, fun p hp => let ⟨o, h1, h2, h3⟩ := u p hp; ⟨o, k _ _ h1, h2, h3⟩⟩
end VT
namespace VT
open PySem PySem.Spec PyProof.Rows L2
theorem Wrs.len {T : TBL} : ∀ {ds : List D} {vs : List V}, Wrs T ds vs → vs.length = ds.length
  | _, _, .nil => rfl
  | _, _, .cons _ t => by rw [List.length_cons, List.length_cons, t.len]
  | _, _, .tup _ t => by rw [List.length_cons, List.length_cons, t.len]
end VT
namespace VT
open PySem PySem.Spec PyProof.Rows L2
structure SupD (P : Program) (K : PySem.W.Frag) (mg : Str → Option Value) (d : He.DefD) (f D : Addr) (N ps : List Str) (sf : Str) : Prop where
  fg : ∃ fd, FG K d.name d.qual d.params d.body d.scope [("__class__", ccA K f)] (d.dvs K) (d.kws K) f fd
  sup : SupK P K mg f D
  sc : SupScope N ps d.scope
  hd : ∃ ar, (d.params.posonlyargs ++ d.params.args).head? = some ar ∧ ar.arg = sf
  ks : d.scope.names.lookup ("super" : Str) = some .globalImplicit
  kc : d.scope.names.lookup ("__class__" : Str) = some .free
  ka : d.scope.names.lookup sf = some .local
  n0 : N[0]? = some sf
end VT
namespace VT
open PySem PySem.Spec PyProof.Rows L2
structure LksZ where
  l : LksX
  ss : List He.DefD
def LksZ.seen (L : LksZ) (K : PySem.W.Frag) : ((Bool × List He.FnW) × Bool × List He.FnW) × Bool × List He.FnW := (L.l.seen K, L.ss.all (fun d => okA K d (He.fAd K d.at_) && supB L.l.P K (He.fAd K d.at_) (He.ga K d.at_.1)), L.ss.map fun d => fnS K (He.fAd K d.at_))
def LksZ.due (L : LksZ) : ((Bool × List He.FnW) × Bool × List He.FnW) × Bool × List He.FnW := (L.l.due, true, L.ss.map fun d => valS d 0)
def LksZ.Ok (L : LksZ) (K : PySem.W.Frag) : Prop := L.seen K = L.due
structure SupOk (P : Program) (K : PySem.W.Frag) (d : He.DefD) : Prop where
  fn : fnS K (He.fAd K d.at_) = valS d 0
  ok : okA K d (He.fAd K d.at_) = true
  sup : supB P K (He.fAd K d.at_) (He.ga K d.at_.1) = true
theorem LksZ.Ok.sup {L : LksZ} {K : PySem.W.Frag} (c : L.Ok K) (i : Nat) {d : He.DefD} (h : L.ss[i]? = some d := by rfl) : SupOk L.l.P K d := by
  have c2 : L.ss.all (fun d => okA K d (He.fAd K d.at_) && supB L.l.P K (He.fAd K d.at_) (He.ga K d.at_.1)) = true := congrArg (fun z : ((Bool × List He.FnW) × Bool × List He.FnW) × Bool × List He.FnW => z.2.1) c
  have c3 : (L.ss.map fun d => fnS K (He.fAd K d.at_)) = L.ss.map fun d => valS d 0 := congrArg (fun z : ((Bool × List He.FnW) × Bool × List He.FnW) × Bool × List He.FnW => z.2.2) c
  have e3 := congrArg (fun l => l[i]?) c3
  simp only [List.getElem?_map, h] at e3
  have e2 := List.all_eq_true.mp c2 d (List.mem_of_getElem? h)
  rw [Bool.and_eq_true] at e2
  exact ⟨Option.some.inj e3, e2.1, e2.2⟩
theorem SupOk.d {P : Program} {K : PySem.W.Frag} {mg : Str → Option Value} {d : He.DefD} {N ps : List Str} {sf : Str} (h : SupOk P K d) (hs : mg "super" = none) (sc : SupScope N ps d.scope) (hd : ∃ ar, (d.params.posonlyargs ++ d.params.args).head? = some ar ∧ ar.arg = sf)
    (ks : d.scope.names.lookup ("super" : Str) = some .globalImplicit) (kc : d.scope.names.lookup ("__class__" : Str) = some .free) (ka : d.scope.names.lookup sf = some .local) (n0 : N[0]? = some sf) : SupD P K mg d (He.fAd K d.at_) (He.ga K d.at_.1) N ps sf :=
  ⟨fgS (fnS_of h.fn) h.ok, ⟨h.sup, hs⟩, sc, hd, ks, kc, ka, n0⟩
end VT
namespace VT
open PySem PySem.Spec PyProof.Rows L2
def smG (K : PySem.W.Frag) (T : String) (p : Addr) : Addr := match PySem.W.recIn K p T with
  | some (.ref g :: _) => g
  | _ => 0
def smHas (K : PySem.W.Frag) (T G : String) (C : Addr) (m : Str) : Bool := match PySem.W.findCls K (.ref C) (.type "type") m with
  | some (.get (.builtin b) (.ref p) .none (.ref D)) => decide (b = G) && (decide (p = He.ma K C m) && (decide (D = C) && match PySem.W.recIn K p T with
    | some (.ref _ :: _) => true
    | _ => false))
  | _ => false
def smB (K : PySem.W.Frag) (T G : String) (C : Addr) (m : Str) : Bool := PySem.W.readsIn K C (.type "type") && (decide (PySem.W.specialIn K (.ref C) "__getattribute__" = some (some (.builtin "type.__getattribute__"))) && smHas K T G C m)
end VT
namespace VT
open PySem PySem.Spec PyProof.Rows L2
structure LksW where
  z : LksZ
  st : List (Bool × Str × Str × He.DefD) := []
def stT (b : Bool) : String := if b then "classmethod" else "staticmethod"
def stGet (b : Bool) : String := if b then "classmethod.__get__" else "staticmethod.__get__"
def stAd (K : PySem.W.Frag) (p : Bool × Str × Str × He.DefD) : Addr := smG K (stT p.1) (He.ma K (He.ga K p.2.1) p.2.2.1)
def stSeen (K : PySem.W.Frag) (p : Bool × Str × Str × He.DefD) : Bool := smB K (stT p.1) (stGet p.1) (He.ga K p.2.1) p.2.2.1 && (PySem.W.fnIn K (stAd K p) && okA K p.2.2.2 (stAd K p))
def LksW.bools (L : LksW) (K : PySem.W.Frag) : Bool :=
  (L.z.l.l.fa.all fun f => f.ok K) && ((L.z.l.l.fn.all fun d => d.ok K) && ((L.z.l.l.pr.all fun p => prB K (He.ga K p.1) p.2.1 && okA K p.2.2 (prAt K p)) && ((L.z.l.l.bs.all fun b => b K) && ((L.z.l.xs.all fun e => e.ok L.z.l.P K) &&
    ((L.z.ss.all fun d => okA K d (He.fAd K d.at_) && supB L.z.l.P K (He.fAd K d.at_) (He.ga K d.at_.1)) && L.st.all fun p => stSeen K p)))))
def LksW.fns (L : LksW) (K : PySem.W.Frag) : List He.FnW :=
  (L.z.l.l.fn.map fun d => He.fnW K d.at_) ++ ((L.z.l.l.pr.map fun p => fnA K (prAt K p)) ++ ((L.z.l.xs.map fun e => fnS K (e.f K)) ++ ((L.z.ss.map fun d => fnS K (He.fAd K d.at_)) ++ L.st.map fun p => fnA K (stAd K p))))
def LksW.dues (L : LksW) : List He.FnW :=
  L.z.l.l.fn.map He.DefD.val ++ ((L.z.l.l.pr.map fun p => p.2.2.val) ++ ((L.z.l.xs.map fun e => valS e.d 0) ++ ((L.z.ss.map fun d => valS d 0) ++ L.st.map fun p => p.2.2.2.val)))
def LksW.seen (L : LksW) (K : PySem.W.Frag) : Bool × List He.FnW := (L.bools K, L.fns K)
def LksW.due (L : LksW) : Bool × List He.FnW := (true, L.dues)
def LksW.Ok (L : LksW) (K : PySem.W.Frag) : Prop := L.seen K = L.due
section
variable {L : LksW} {K : PySem.W.Frag}
theorem LksW.Ok.bs (c : L.Ok K) : L.bools K = true := congrArg (fun z : Bool × List He.FnW => z.1) c
theorem LksW.Ok.parts (c : L.Ok K) : (L.z.l.l.fn.map fun d => He.fnW K d.at_) = L.z.l.l.fn.map He.DefD.val ∧ (L.z.l.l.pr.map fun p => fnA K (prAt K p)) = (L.z.l.l.pr.map fun p => p.2.2.val) ∧ (L.z.l.xs.map fun e => fnS K (e.f K)) = (L.z.l.xs.map fun e => valS e.d 0) ∧
    (L.z.ss.map fun d => fnS K (He.fAd K d.at_)) = (L.z.ss.map fun d => valS d 0) ∧ (L.st.map fun p => fnA K (stAd K p)) = L.st.map fun p => p.2.2.2.val := by
  have c2 : L.fns K = L.dues := congrArg (fun z : Bool × List He.FnW => z.2) c
  obtain ⟨h1, c2⟩ := List.append_inj c2 (by simp)
  obtain ⟨h2, c2⟩ := List.append_inj c2 (by simp)
  obtain ⟨h3, c2⟩ := List.append_inj c2 (by simp)
  obtain ⟨h4, h5⟩ := List.append_inj c2 (by simp)
  exact ⟨h1, h2, h3, h4, h5⟩
theorem LksW.Ok.z (c : L.Ok K) : L.z.Ok K := by
  have b := c.bs
  unfold LksW.bools at b
  rw [Bool.and_eq_true, Bool.and_eq_true, Bool.and_eq_true, Bool.and_eq_true, Bool.and_eq_true, Bool.and_eq_true] at b
  obtain ⟨b1, b2, b3, b4, b5, b6, _⟩ := b
  obtain ⟨h1, h2, h3, h4, _⟩ := c.parts
  show (((_, _), _, _), _, _) = (((_, _), _, _), _, _)
  rw [h1, h2, h3, h4]
  have e : ((L.z.l.l.fa.all fun f => f.ok K) && ((L.z.l.l.fn.all fun d => d.ok K) && ((L.z.l.l.pr.all fun p => prB K (He.ga K p.1) p.2.1 && okA K p.2.2 (prAt K p)) && L.z.l.l.bs.all fun b => b K))) = true := by rw [b1, b2, b3, b4]; rfl
  rw [e, b5, b6]
end
end VT
namespace VT
open PySem
open Sem (wp)
def pz : GenState → GenState
  | .suspended _ l c p fs cl => .suspended (fun _ => .unsupported "") l c p fs cl
  | x => x
def Slp : GenState → Prop
  | .suspended .. => True
  | _ => False
def Nog (fs : List Frame) : Prop := splitAtGen fs = none
def NogS : GenState → Prop
  | .suspended _ _ _ _ fs _ => Nog fs
  | _ => True
def NogE : End → Prop
  | .susp _ _ _ _ _ _ fs => Nog fs
  | _ => True
theorem NogE.st {e : End} (h : NogE e) : NogS e.genState := by
  cases e with
  | ret _ => trivial
  | susp v g l k c p fs => exact h
structure Rl (G a b : Array GenState) : Prop where
  size : a.size = b.size
  old : ∀ (i : Nat) y, G[i]? = some y → Slp y → a[i]? = some (pz y) ∧ b[i]? = some y
  new : ∀ (i : Nat) x, a[i]? = some x → (∃ y, G[i]? = some y ∧ Slp y) ∨ (b[i]? = some x ∧ NogS x)
theorem Rl.at {G a b : Array GenState} (r : Rl G a b) {g : Nat} {x : GenState} (h : a[g]? = some x) (hu : ∀ l c p fs cl, x ≠ .suspended (fun _ => .unsupported "") l c p fs cl) : b[g]? = some x ∧ NogS x ∧ ∀ y, G[g]? = some y → ¬ Slp y := by
  have no : ∀ y, G[g]? = some y → ¬ Slp y := fun y hy hs => by
    have e := (r.old g y hy hs).1
    rw [h] at e
    cases y with
    | suspended k l c p fs cl => exact hu l c p fs cl (Option.some.inj e)
    | _ => exact hs
  rcases r.new g x h with ⟨y, hy, hs⟩ | ⟨h1, h2⟩
  · exact (no y hy hs).elim
  · exact ⟨h1, h2, no⟩
end VT
namespace VT
open PySem PySem.Spec PyProof.Rows L2 GenW
structure GD where
  P : Program
  w : World
  K : PySem.W.Frag
  mg : Str → Option Value
  base : Heap
  N : List Str
  env : Env
  A : Around
  outer : List Env
  pn : List (Addr × Obj)
end VT
namespace VT
open PySem PySem.Spec PyProof.Rows L2 GenW
structure GOk (U : GD) : Prop where
  kind : U.env.scope.kind = .function
  glob : U.env.globals = mainGlobals
  blt : U.env.builtins = builtinsNs
  hd : (U.A.deeper U.env).handled = none
  frames : (U.A.deeper U.env).frames = some (U.env :: U.outer)
  fr : U.env.frame = some U.env.locals
  nc : ∀ x, U.env.cells.lookup x = none
  nk : ∀ x, U.env.kindOf x ≠ some .cell ∧ U.env.kindOf x ≠ some .free
  out : ∀ b ∈ frs U.outer, b < U.env.locals
  bl : U.base.objs.size ≤ U.env.locals
def LocG (U : GD) (σ : L2.St) (h : Heap) : Prop := ∃ m, h.Ns U.env.locals m ∧ ∀ (i : Nat) (x : Str) (v : V), U.N[i]? = some x → σ[i]? = some (some v) → Vis U.env.scope x → ∃ u, RelV v u ∧ Look U.env h m x u
theorem LocG.at {U : GD} (g : GOk U) {σ : L2.St} {h h' : Heap} (l : LocG U σ h) (e : ∀ o, h.get? U.env.locals = some o → h'.get? U.env.locals = some o) : LocG U σ h' := by
  obtain ⟨m, ⟨o, es, ep, ho, r⟩, hv⟩ := l
  refine ⟨m, ⟨o, es, ep, e o ho, r⟩, fun i x v h1 h2 h3 => ?_⟩
  obtain ⟨u, hu, hl⟩ := hv i x v h1 h2 h3
  refine ⟨u, hu, ?_⟩
  rcases hl with hl | ⟨hk, _⟩
  · exact .inl hl
  · exact (hk.elim (g.nk x).1 (g.nk x).2).elim
end VT
namespace VT
open PySem PySem.W PySem.Calls HandSHeadRun
theorem run_of {r : OpenRow} {q : Program} {L : LksW} {n M : Nat} {loose : List Str} {w : World}
    (h1 : ∀ os : OsState, (endF (stepQ (denQ tabQ) r.prog w) M r.prog w os).map (fun s => (looksF r.prog (boot_heap w.params) s.abs, seenQ q loose (importedModules r.prog.main.body) (fun s => xlAt q [] s && recOk r.toRowW.records s) s.abs)) = some (true, openGood q loose))
    (h2 : ∀ os : OsState, (endF (stepQ (denQ tabQ) r.prog w) M r.prog w os).map (fun s => (L.bools (frZ (getT s) n), tabE (getT s) (frZ (getT s) n) && tupE (getT s) (frZ (getT s) n))) = some (true, true))
    (h3 : ∀ os : OsState, (endF (stepQ (denQ tabQ) r.prog w) M r.prog w os).map (fun s => L.fns (frZ (getT s) n)) = some L.dues) :
    RunEq r q (hookZ n L.seen L.due) (fun s => obsZ n L.seen (getT s)) M loose w := fun os => by
  have a := h1 os
  have b := h2 os
  have c := h3 os
  generalize endF (stepQ (denQ tabQ) r.prog w) M r.prog w os = o at a b c ⊢
  cases o with
  | none => cases a
  | some s =>
    have a := Option.some.inj a
    have b := Option.some.inj b
    have c : L.fns (frZ (getT s) n) = L.dues := Option.some.inj c
    have a1 := congrArg Prod.fst a
    have a2 := congrArg Prod.snd a
    have b1 := congrArg Prod.fst b
    have b2 := congrArg Prod.snd b
    show some (looksF r.prog (boot_heap w.params) s.abs, seenQ q loose (importedModules r.prog.main.body) (fun s => xlAt q [] s && recOk r.toRowW.records s) s.abs, ((L.bools (frZ (getT s) n), L.fns (frZ (getT s) n)), tabE (getT s) (frZ (getT s) n) && tupE (getT s) (frZ (getT s) n))) = some (true, openGood q loose, ((true, L.dues), true))
    simp only at a1 a2 b1 b2
    rw [a1, a2, b1, b2, c]
end VT
namespace VT
open PySem PySem.Spec PyProof.Rows L2
def KwTo {α : Type} (D : Addr) : List (Str × Value) → Sem α → Sem α → Prop
  | [], t, r => t = r
  | q :: l, t, r => ∃ (β γ : Type) (k1 : Option Value → Sem β) (k2 : β → Sem γ) (k3 : γ → Sem α) (a : β), t = ((nsGet D q.1 >>= k1) >>= k2) >>= k3 ∧ k1 (some q.2) = pure a ∧ KwTo D l (k2 a >>= k3) r
theorem KwTo.run {α : Type} {K : PySem.W.Frag} {M : Model} {D : Addr} {A : Around} {E : Value → Shared → Prop} {Q : α → Shared → Prop} {s : Shared} (X : K.In s.heap) : ∀ {l : List (Str × Value)} {t r : Sem α}, (∀ q ∈ l, PySem.W.nsIn K D q.1 = some (some q.2)) → KwTo D l t r → wpAny M A r Q E s → wpAny M A t Q E s
  | [], t, r, _, e, z => by rw [show t = r from e]; exact z
  | q :: l, t, r, hl, e, z => by
    obtain ⟨β, γ, k1, k2, k3, a, e1, e2, e3⟩ := e
    have l1 : PySem.W.Looks M s.heap (nsGet D q.1 >>= k1) a := (PySem.W.looks_nsIn X (hl q (List.mem_cons_self ..))).andThen (PySem.W.Looks.of_pure e2)
    rw [e1, bind_assoc]
    exact wpAny_bind (l1 _ _ _ _ (fun _ _ h => h) (KwTo.run X (fun p hp => hl p (List.mem_cons_of_mem _ hp)) e3 z))
end VT
namespace VT
open PySem PySem.W PySem.Calls HandSHeadRun
theorem run_of7 {r : OpenRow} {q : Program} {L : LksW} {n M : Nat} {loose : List Str} {w : World}
    (h1 : ∀ os : OsState, (endF (stepQ (denQ tabQ) r.prog w) M r.prog w os).map (fun s => (looksF r.prog (boot_heap w.params) s.abs, seenQ q loose (importedModules r.prog.main.body) (fun s => xlAt q [] s && recOk r.toRowW.records s) s.abs)) = some (true, openGood q loose))
    (a1 : ∀ os : OsState, (endF (stepQ (denQ tabQ) r.prog w) M r.prog w os).map (fun s => L.z.l.l.fa.all fun f => f.ok (frZ (getT s) n)) = some true)
    (a2 : ∀ os : OsState, (endF (stepQ (denQ tabQ) r.prog w) M r.prog w os).map (fun s => L.z.l.l.fn.all fun d => d.ok (frZ (getT s) n)) = some true)
    (a3 : ∀ os : OsState, (endF (stepQ (denQ tabQ) r.prog w) M r.prog w os).map (fun s => L.z.l.l.pr.all fun p => prB (frZ (getT s) n) (He.ga (frZ (getT s) n) p.1) p.2.1 && okA (frZ (getT s) n) p.2.2 (prAt (frZ (getT s) n) p)) = some true)
    (a4 : ∀ os : OsState, (endF (stepQ (denQ tabQ) r.prog w) M r.prog w os).map (fun s => L.z.l.l.bs.all fun b => b (frZ (getT s) n)) = some true)
    (a5 : ∀ os : OsState, (endF (stepQ (denQ tabQ) r.prog w) M r.prog w os).map (fun s => L.z.l.xs.all fun e => e.ok L.z.l.P (frZ (getT s) n)) = some true)
    (a6 : ∀ os : OsState, (endF (stepQ (denQ tabQ) r.prog w) M r.prog w os).map (fun s => L.z.ss.all fun d => okA (frZ (getT s) n) d (He.fAd (frZ (getT s) n) d.at_) && supB L.z.l.P (frZ (getT s) n) (He.fAd (frZ (getT s) n) d.at_) (He.ga (frZ (getT s) n) d.at_.1)) = some true)
    (a7 : ∀ os : OsState, (endF (stepQ (denQ tabQ) r.prog w) M r.prog w os).map (fun s => L.st.all fun p => stSeen (frZ (getT s) n) p) = some true)
    (a8 : ∀ os : OsState, (endF (stepQ (denQ tabQ) r.prog w) M r.prog w os).map (fun s => tabE (getT s) (frZ (getT s) n) && tupE (getT s) (frZ (getT s) n)) = some true)
    (h3 : ∀ os : OsState, (endF (stepQ (denQ tabQ) r.prog w) M r.prog w os).map (fun s => L.fns (frZ (getT s) n)) = some L.dues) :
    RunEq r q (hookZ n L.seen L.due) (fun s => obsZ n L.seen (getT s)) M loose w := by
  refine run_of h1 (fun os => ?_) h3
  have b1 := a1 os
  have b2 := a2 os
  have b3 := a3 os
  have b4 := a4 os
  have b5 := a5 os
  have b6 := a6 os
  have b7 := a7 os
  have b8 := a8 os
  generalize endF (stepQ (denQ tabQ) r.prog w) M r.prog w os = o at b1 b2 b3 b4 b5 b6 b7 b8 ⊢
  cases o with
  | none => cases b1
  | some s =>
    have b1 := Option.some.inj b1
    have b2 := Option.some.inj b2
    have b3 := Option.some.inj b3
    have b4 := Option.some.inj b4
    have b5 := Option.some.inj b5
    have b6 := Option.some.inj b6
    have b7 := Option.some.inj b7
    have b8 := Option.some.inj b8
    show some (L.bools (frZ (getT s) n), tabE (getT s) (frZ (getT s) n) && tupE (getT s) (frZ (getT s) n)) = some (true, true)
    simp only at b1 b2 b3 b4 b5 b6 b7 b8
    rw [b8]
    unfold LksW.bools
    rw [b1, b2, b3, b4, b5, b6, b7]
    rfl
end VT
namespace VT
open PySem PySem.Spec PyProof.Rows L2
section
variable {X : Cx} {EX : EXT} {pins : List (Addr × Obj)} {σ : L2.St} {H H0 Hs : Hp} {G : Gh} {s : Shared} {C dx a : Addr} {f x : Str} {p p2 pos : Pos} {e : Expr} {ge : GE} {v : V} {sv : SV} {fs : List (Str × VT.D)}
def xisB (x : Str) (K : PySem.W.Frag) : Bool := xfB K (He.ga K x) && iskB x K
end
def inbB (x : Str) (T : String) (b : Bool) (K : PySem.W.Frag) : Bool := decide (PySem.W.kitOne K (.ref (He.ga K x)) (.type T) = some b)
end VT
namespace K60
open PySem PySem.Spec PyProof.Rows L2 VT
def top (i : Nat) : Stmt := PySem.Challenge.pw_heardwire_k60_errors_and_their_classes.main.body.getD i (.Pass ⟨0, 0, 0, 0⟩)
def d_NothingLeft___init__ : He.DefD := ⟨("NothingLeft", some "__init__"), "__init__", "NothingLeft.__init__", defArgs (((clsBody (top 3)).getD 0 (.Pass ⟨0, 0, 0, 0⟩))), defBody (((clsBody (top 3)).getD 0 (.Pass ⟨0, 0, 0, 0⟩))), defScope (((clsBody (top 3)).getD 0 (.Pass ⟨0, 0, 0, 0⟩))), [], []⟩
def xe_NothingLeft : XE := ⟨"NothingLeft", d_NothingLeft___init__, 2, none⟩
def d_InvalidName___init__ : He.DefD := ⟨("InvalidName", some "__init__"), "__init__", "InvalidName.__init__", defArgs (((clsBody (top 4)).getD 0 (.Pass ⟨0, 0, 0, 0⟩))), defBody (((clsBody (top 4)).getD 0 (.Pass ⟨0, 0, 0, 0⟩))), defScope (((clsBody (top 4)).getD 0 (.Pass ⟨0, 0, 0, 0⟩))), [], []⟩
def xe_InvalidName : XE := ⟨"InvalidName", d_InvalidName___init__, 0, some "given"⟩
def d_InvalidHabit___init__ : He.DefD := ⟨("InvalidHabit", some "__init__"), "__init__", "InvalidHabit.__init__", defArgs (((clsBody (top 5)).getD 0 (.Pass ⟨0, 0, 0, 0⟩))), defBody (((clsBody (top 5)).getD 0 (.Pass ⟨0, 0, 0, 0⟩))), defScope (((clsBody (top 5)).getD 0 (.Pass ⟨0, 0, 0, 0⟩))), [], []⟩
def xe_InvalidHabit : XE := ⟨"InvalidHabit", d_InvalidHabit___init__, 0, some "word"⟩
def d_InvalidSender___init__ : He.DefD := ⟨("InvalidSender", some "__init__"), "__init__", "InvalidSender.__init__", defArgs (((clsBody (top 6)).getD 0 (.Pass ⟨0, 0, 0, 0⟩))), defBody (((clsBody (top 6)).getD 0 (.Pass ⟨0, 0, 0, 0⟩))), defScope (((clsBody (top 6)).getD 0 (.Pass ⟨0, 0, 0, 0⟩))), [], []⟩
def xe_InvalidSender : XE := ⟨"InvalidSender", d_InvalidSender___init__, 0, some "at"⟩
def d_DuplicateName___init__ : He.DefD := ⟨("DuplicateName", some "__init__"), "__init__", "DuplicateName.__init__", defArgs (((clsBody (top 7)).getD 0 (.Pass ⟨0, 0, 0, 0⟩))), defBody (((clsBody (top 7)).getD 0 (.Pass ⟨0, 0, 0, 0⟩))), defScope (((clsBody (top 7)).getD 0 (.Pass ⟨0, 0, 0, 0⟩))), [], []⟩
def xe_DuplicateName : XE := ⟨"DuplicateName", d_DuplicateName___init__, 0, some "name"⟩
def d_TooMany___init__ : He.DefD := ⟨("TooMany", some "__init__"), "__init__", "TooMany.__init__", defArgs (((clsBody (top 8)).getD 0 (.Pass ⟨0, 0, 0, 0⟩))), defBody (((clsBody (top 8)).getD 0 (.Pass ⟨0, 0, 0, 0⟩))), defScope (((clsBody (top 8)).getD 0 (.Pass ⟨0, 0, 0, 0⟩))), [], []⟩
def xe_TooMany : XE := ⟨"TooMany", d_TooMany___init__, 0, some "most"⟩
def d_InvalidEntry___init__ : He.DefD := ⟨("InvalidEntry", some "__init__"), "__init__", "InvalidEntry.__init__", defArgs (((clsBody (top 9)).getD 0 (.Pass ⟨0, 0, 0, 0⟩))), defBody (((clsBody (top 9)).getD 0 (.Pass ⟨0, 0, 0, 0⟩))), defScope (((clsBody (top 9)).getD 0 (.Pass ⟨0, 0, 0, 0⟩))), [], []⟩
def xe_InvalidEntry : XE := ⟨"InvalidEntry", d_InvalidEntry___init__, 0, some "at"⟩
def d_InvalidOrder___init__ : He.DefD := ⟨("InvalidOrder", some "__init__"), "__init__", "InvalidOrder.__init__", defArgs (((clsBody (top 10)).getD 0 (.Pass ⟨0, 0, 0, 0⟩))), defBody (((clsBody (top 10)).getD 0 (.Pass ⟨0, 0, 0, 0⟩))), defScope (((clsBody (top 10)).getD 0 (.Pass ⟨0, 0, 0, 0⟩))), [], []⟩
def xe_InvalidOrder : XE := ⟨"InvalidOrder", d_InvalidOrder___init__, 0, some "given"⟩
def d_InvalidPlan___init__ : He.DefD := ⟨("InvalidPlan", some "__init__"), "__init__", "InvalidPlan.__init__", defArgs (((clsBody (top 11)).getD 0 (.Pass ⟨0, 0, 0, 0⟩))), defBody (((clsBody (top 11)).getD 0 (.Pass ⟨0, 0, 0, 0⟩))), defScope (((clsBody (top 11)).getD 0 (.Pass ⟨0, 0, 0, 0⟩))), [], []⟩
def xe_InvalidPlan : XE := ⟨"InvalidPlan", d_InvalidPlan___init__, 0, some "name"⟩
def d_InvalidNumber___init__ : He.DefD := ⟨("InvalidNumber", some "__init__"), "__init__", "InvalidNumber.__init__", defArgs (((clsBody (top 12)).getD 0 (.Pass ⟨0, 0, 0, 0⟩))), defBody (((clsBody (top 12)).getD 0 (.Pass ⟨0, 0, 0, 0⟩))), defScope (((clsBody (top 12)).getD 0 (.Pass ⟨0, 0, 0, 0⟩))), [], []⟩
def xe_InvalidNumber : XE := ⟨"InvalidNumber", d_InvalidNumber___init__, 0, some "given"⟩
def d_InvalidLimit___init__ : He.DefD := ⟨("InvalidLimit", some "__init__"), "__init__", "InvalidLimit.__init__", defArgs (((clsBody (top 13)).getD 0 (.Pass ⟨0, 0, 0, 0⟩))), defBody (((clsBody (top 13)).getD 0 (.Pass ⟨0, 0, 0, 0⟩))), defScope (((clsBody (top 13)).getD 0 (.Pass ⟨0, 0, 0, 0⟩))), [], []⟩
def xe_InvalidLimit : XE := ⟨"InvalidLimit", d_InvalidLimit___init__, 0, some "given"⟩
def d_InvalidText___init__ : He.DefD := ⟨("InvalidText", some "__init__"), "__init__", "InvalidText.__init__", defArgs (((clsBody (top 14)).getD 0 (.Pass ⟨0, 0, 0, 0⟩))), defBody (((clsBody (top 14)).getD 0 (.Pass ⟨0, 0, 0, 0⟩))), defScope (((clsBody (top 14)).getD 0 (.Pass ⟨0, 0, 0, 0⟩))), [], []⟩
def xe_InvalidText : XE := ⟨"InvalidText", d_InvalidText___init__, 0, none⟩
def d_InvalidPage___init__ : He.DefD := ⟨("InvalidPage", some "__init__"), "__init__", "InvalidPage.__init__", defArgs (((clsBody (top 15)).getD 0 (.Pass ⟨0, 0, 0, 0⟩))), defBody (((clsBody (top 15)).getD 0 (.Pass ⟨0, 0, 0, 0⟩))), defScope (((clsBody (top 15)).getD 0 (.Pass ⟨0, 0, 0, 0⟩))), [], []⟩
def xe_InvalidPage : XE := ⟨"InvalidPage", d_InvalidPage___init__, 0, some "line"⟩
def d_OtherNames___init__ : He.DefD := ⟨("OtherNames", some "__init__"), "__init__", "OtherNames.__init__", defArgs (((clsBody (top 16)).getD 0 (.Pass ⟨0, 0, 0, 0⟩))), defBody (((clsBody (top 16)).getD 0 (.Pass ⟨0, 0, 0, 0⟩))), defScope (((clsBody (top 16)).getD 0 (.Pass ⟨0, 0, 0, 0⟩))), [], []⟩
def xe_OtherNames : XE := ⟨"OtherNames", d_OtherNames___init__, 0, none⟩
def d_NoOrder___init__ : He.DefD := ⟨("NoOrder", some "__init__"), "__init__", "NoOrder.__init__", defArgs (((clsBody (top 17)).getD 0 (.Pass ⟨0, 0, 0, 0⟩))), defBody (((clsBody (top 17)).getD 0 (.Pass ⟨0, 0, 0, 0⟩))), defScope (((clsBody (top 17)).getD 0 (.Pass ⟨0, 0, 0, 0⟩))), [], []⟩
def xe_NoOrder : XE := ⟨"NoOrder", d_NoOrder___init__, 0, none⟩
def d_Full___init__ : He.DefD := ⟨("Full", some "__init__"), "__init__", "Full.__init__", defArgs (((clsBody (top 18)).getD 0 (.Pass ⟨0, 0, 0, 0⟩))), defBody (((clsBody (top 18)).getD 0 (.Pass ⟨0, 0, 0, 0⟩))), defScope (((clsBody (top 18)).getD 0 (.Pass ⟨0, 0, 0, 0⟩))), [], []⟩
def xe_Full : XE := ⟨"Full", d_Full___init__, 0, some "most"⟩
def d_UnknownName___init__ : He.DefD := ⟨("UnknownName", some "__init__"), "__init__", "UnknownName.__init__", defArgs (((clsBody (top 19)).getD 0 (.Pass ⟨0, 0, 0, 0⟩))), defBody (((clsBody (top 19)).getD 0 (.Pass ⟨0, 0, 0, 0⟩))), defScope (((clsBody (top 19)).getD 0 (.Pass ⟨0, 0, 0, 0⟩))), [], []⟩
def xe_UnknownName : XE := ⟨"UnknownName", d_UnknownName___init__, 1, some "name"⟩
def d_UnknownMessage___init__ : He.DefD := ⟨("UnknownMessage", some "__init__"), "__init__", "UnknownMessage.__init__", defArgs (((clsBody (top 20)).getD 0 (.Pass ⟨0, 0, 0, 0⟩))), defBody (((clsBody (top 20)).getD 0 (.Pass ⟨0, 0, 0, 0⟩))), defScope (((clsBody (top 20)).getD 0 (.Pass ⟨0, 0, 0, 0⟩))), [], []⟩
def xe_UnknownMessage : XE := ⟨"UnknownMessage", d_UnknownMessage___init__, 1, some "number"⟩
def d_UnknownLog___init__ : He.DefD := ⟨("UnknownLog", some "__init__"), "__init__", "UnknownLog.__init__", defArgs (((clsBody (top 21)).getD 0 (.Pass ⟨0, 0, 0, 0⟩))), defBody (((clsBody (top 21)).getD 0 (.Pass ⟨0, 0, 0, 0⟩))), defScope (((clsBody (top 21)).getD 0 (.Pass ⟨0, 0, 0, 0⟩))), [], []⟩
def xe_UnknownLog : XE := ⟨"UnknownLog", d_UnknownLog___init__, 1, some "number"⟩
def d__law_field : He.DefD := ⟨("_law_field", none), "_law_field", "_law_field", defArgs (top 27), defBody (top 27), defScope (top 27), [], []⟩
def d_law : He.DefD := ⟨("law", none), "law", "law", defArgs (top 28), defBody (top 28), defScope (top 28), [], []⟩
def d__law_draw : He.DefD := ⟨("_law_draw", none), "_law_draw", "_law_draw", defArgs (top 24), defBody (top 24), defScope (top 24), [], []⟩
def d__law_bag : He.DefD := ⟨("_law_bag", none), "_law_bag", "_law_bag", defArgs (top 23), defBody (top 23), defScope (top 23), [], []⟩
def d__law_pick : He.DefD := ⟨("_law_pick", none), "_law_pick", "_law_pick", defArgs (top 25), defBody (top 25), defScope (top 25), [], []⟩
def d__law_same : He.DefD := ⟨("_law_same", none), "_law_same", "_law_same", defArgs (top 26), defBody (top 26), defScope (top 26), [], []⟩
def lk : VT.LksW where
  z := { l := { l := { fa := [.free "IndexError", .free "KeyError", .free "LookupError", .free "ValueError", .free "abs", .free "all", .free "bool", .free "int", .free "isinstance", .free "len", .free "list", .free "range", .free "str", .free "super", .free "tuple", .free "zip", .glo "HeardError", .glo "Missing", .glo "NothingLeft", .glo "InvalidName", .glo "InvalidHabit", .glo "InvalidSender", .glo "DuplicateName", .glo "TooMany", .glo "InvalidEntry", .glo "InvalidOrder", .glo "InvalidPlan", .glo "InvalidNumber", .glo "InvalidLimit", .glo "InvalidText", .glo "InvalidPage", .glo "OtherNames", .glo "NoOrder", .glo "Full", .glo "UnknownName", .glo "UnknownMessage", .glo "UnknownLog", .glo "_law_bag", .glo "_law_draw", .glo "_law_field", .glo "_law_pick", .glo "_law_same", .glo "law"], fn := [d__law_bag, d__law_draw, d__law_field, d__law_pick, d__law_same, d_law], pr := [], bs := [xisB "NothingLeft", inkB "NothingLeft" "HeardError" false, inbB "NothingLeft" "IndexError" true, inbB "NothingLeft" "KeyError" false, inbB "NothingLeft" "LookupError" true, inkB "NothingLeft" "Missing" false, inbB "NothingLeft" "ValueError" false, exB "NothingLeft", xisB "InvalidName", inkB "InvalidName" "HeardError" true, inbB "InvalidName" "IndexError" false, inkB "InvalidName" "InvalidHabit" false, inbB "InvalidName" "KeyError" false, inbB "InvalidName" "LookupError" false, inkB "InvalidName" "Missing" false, inbB "InvalidName" "ValueError" true, exB "InvalidName", xisB "InvalidHabit", inkB "InvalidHabit" "HeardError" true, inbB "InvalidHabit" "IndexError" false, inbB "InvalidHabit" "KeyError" false, inbB "InvalidHabit" "LookupError" false, inkB "InvalidHabit" "Missing" false, inbB "InvalidHabit" "ValueError" true, exB "InvalidHabit", xisB "InvalidSender", inkB "InvalidSender" "HeardError" true, inbB "InvalidSender" "IndexError" false, inbB "InvalidSender" "KeyError" false, inbB "InvalidSender" "LookupError" false, inkB "InvalidSender" "Missing" false, inbB "InvalidSender" "ValueError" true, exB "InvalidSender", xisB "DuplicateName", inkB "DuplicateName" "HeardError" true, inbB "DuplicateName" "IndexError" false, inbB "DuplicateName" "KeyError" false, inbB "DuplicateName" "LookupError" false, inkB "DuplicateName" "Missing" false, inkB "DuplicateName" "UnknownName" false, inbB "DuplicateName" "ValueError" true, exB "DuplicateName", xisB "TooMany", inkB "TooMany" "Full" false, inkB "TooMany" "HeardError" true, inbB "TooMany" "IndexError" false, inbB "TooMany" "KeyError" false, inbB "TooMany" "LookupError" false, inkB "TooMany" "Missing" false, inbB "TooMany" "ValueError" true, exB "TooMany", xisB "InvalidEntry", inkB "InvalidEntry" "HeardError" true, inbB "InvalidEntry" "IndexError" false, inbB "InvalidEntry" "KeyError" false, inbB "InvalidEntry" "LookupError" false, inkB "InvalidEntry" "Missing" false, inbB "InvalidEntry" "ValueError" true, exB "InvalidEntry", xisB "InvalidOrder", inkB "InvalidOrder" "HeardError" true, inbB "InvalidOrder" "IndexError" false, inbB "InvalidOrder" "KeyError" false, inbB "InvalidOrder" "LookupError" false, inkB "InvalidOrder" "Missing" false, inbB "InvalidOrder" "ValueError" true, exB "InvalidOrder", xisB "InvalidPlan", inkB "InvalidPlan" "HeardError" true, inbB "InvalidPlan" "IndexError" false, inbB "InvalidPlan" "KeyError" false, inbB "InvalidPlan" "LookupError" false, inkB "InvalidPlan" "Missing" false, inbB "InvalidPlan" "ValueError" true, exB "InvalidPlan", xisB "InvalidNumber", inkB "InvalidNumber" "HeardError" true, inbB "InvalidNumber" "IndexError" false, inkB "InvalidNumber" "InvalidLimit" false, inbB "InvalidNumber" "KeyError" false, inbB "InvalidNumber" "LookupError" false, inkB "InvalidNumber" "Missing" false, inbB "InvalidNumber" "ValueError" true, exB "InvalidNumber", xisB "InvalidLimit", inkB "InvalidLimit" "HeardError" true, inbB "InvalidLimit" "IndexError" false, inbB "InvalidLimit" "KeyError" false, inbB "InvalidLimit" "LookupError" false, inkB "InvalidLimit" "Missing" false, inbB "InvalidLimit" "ValueError" true, exB "InvalidLimit", xisB "InvalidText", inkB "InvalidText" "HeardError" true, inbB "InvalidText" "IndexError" false, inbB "InvalidText" "KeyError" false, inbB "InvalidText" "LookupError" false, inkB "InvalidText" "Missing" false, inbB "InvalidText" "ValueError" true, exB "InvalidText", xisB "InvalidPage", inkB "InvalidPage" "HeardError" true, inbB "InvalidPage" "IndexError" false, inbB "InvalidPage" "KeyError" false, inbB "InvalidPage" "LookupError" false, inkB "InvalidPage" "Missing" false, inbB "InvalidPage" "ValueError" true, exB "InvalidPage", xisB "OtherNames", inkB "OtherNames" "HeardError" true, inbB "OtherNames" "IndexError" false, inbB "OtherNames" "KeyError" false, inbB "OtherNames" "LookupError" false, inkB "OtherNames" "Missing" false, inbB "OtherNames" "ValueError" true, exB "OtherNames", xisB "NoOrder", inkB "NoOrder" "HeardError" true, inbB "NoOrder" "IndexError" false, inbB "NoOrder" "KeyError" false, inbB "NoOrder" "LookupError" false, inkB "NoOrder" "Missing" false, inbB "NoOrder" "ValueError" true, exB "NoOrder", xisB "Full", inkB "Full" "HeardError" true, inbB "Full" "IndexError" false, inbB "Full" "KeyError" false, inbB "Full" "LookupError" false, inkB "Full" "Missing" false, inkB "Full" "TooMany" false, inbB "Full" "ValueError" true, exB "Full", xisB "UnknownName", inkB "UnknownName" "HeardError" false, inbB "UnknownName" "IndexError" false, inbB "UnknownName" "KeyError" false, inbB "UnknownName" "LookupError" true, inkB "UnknownName" "Missing" true, inkB "UnknownName" "UnknownLog" false, inbB "UnknownName" "ValueError" false, exB "UnknownName", xisB "UnknownMessage", inkB "UnknownMessage" "HeardError" false, inbB "UnknownMessage" "IndexError" false, inbB "UnknownMessage" "KeyError" false, inbB "UnknownMessage" "LookupError" true, inkB "UnknownMessage" "Missing" true, inkB "UnknownMessage" "UnknownName" false, inbB "UnknownMessage" "ValueError" false, exB "UnknownMessage", xisB "UnknownLog", inkB "UnknownLog" "HeardError" false, inbB "UnknownLog" "IndexError" false, inbB "UnknownLog" "KeyError" false, inbB "UnknownLog" "LookupError" true, inkB "UnknownLog" "Missing" true, inbB "UnknownLog" "ValueError" false, exB "UnknownLog"] }, P := (PySem.Challenge.rw_heardwire_k60_errors_and_their_classes).prog, xs := [xe_NothingLeft, xe_InvalidName, xe_InvalidHabit, xe_InvalidSender, xe_DuplicateName, xe_TooMany, xe_InvalidEntry, xe_InvalidOrder, xe_InvalidPlan, xe_InvalidNumber, xe_InvalidLimit, xe_InvalidText, xe_InvalidPage, xe_OtherNames, xe_NoOrder, xe_Full, xe_UnknownName, xe_UnknownMessage, xe_UnknownLog] }, ss := [] }
  st := []
abbrev R : PySem.W.OpenRow := PySem.W.OpenLaw.row PySem.Challenge.rw_heardwire_k60_errors_and_their_classes
abbrev hk : PySem.W.Hook := VT.hookZ 5 lk.seen lk.due
def ob (s : PySem.W.SharedT) : (Bool × List He.FnW) × Bool := VT.obsZ 5 lk.seen (HandSHeadRun.getT s)
def loose : List PySem.Str := (["HeardError", "Missing", "NothingLeft", "InvalidName", "InvalidHabit", "InvalidSender", "DuplicateName", "TooMany", "InvalidEntry", "InvalidOrder", "InvalidPlan", "InvalidNumber", "InvalidLimit", "InvalidText", "InvalidPage", "OtherNames", "NoOrder", "Full", "UnknownName", "UnknownMessage", "UnknownLog", "_law_bag", "_law_draw", "_law_pick", "_law_same", "_law_field"] : List PySem.Str)
section
open PySem.W PySem.Calls HandSHeadRun
theorem run1 (w : World) : ∀ os : OsState, (endF (stepQ (denQ tabQ) R.prog w) 16000 R.prog w os).map (fun s => (looksF R.prog (boot_heap w.params) s.abs, seenQ (PySem.W.view R.prog [28]) loose (importedModules R.prog.main.body) (fun s => xlAt (PySem.W.view R.prog [28]) [] s && recOk R.toRowW.records s) s.abs)) = some (true, openGood (PySem.W.view R.prog [28]) loose) := by
  intro os
  kernel_rfl
theorem run2_a1 (w : World) : ∀ os : OsState, (endF (stepQ (denQ tabQ) R.prog w) 16000 R.prog w os).map (fun s => lk.z.l.l.fa.all fun f => f.ok (VT.frZ (getT s) 5)) = some true := by
  intro os
  kernel_rfl
theorem run2_a2 (w : World) : ∀ os : OsState, (endF (stepQ (denQ tabQ) R.prog w) 16000 R.prog w os).map (fun s => lk.z.l.l.fn.all fun d => d.ok (VT.frZ (getT s) 5)) = some true := by
  intro os
  kernel_rfl
theorem run2_a3 (w : World) : ∀ os : OsState, (endF (stepQ (denQ tabQ) R.prog w) 16000 R.prog w os).map (fun s => lk.z.l.l.pr.all fun p => VT.prB (VT.frZ (getT s) 5) (He.ga (VT.frZ (getT s) 5) p.1) p.2.1 && VT.okA (VT.frZ (getT s) 5) p.2.2 (VT.prAt (VT.frZ (getT s) 5) p)) = some true := by
  intro os
  kernel_rfl
theorem run2_a4 (w : World) : ∀ os : OsState, (endF (stepQ (denQ tabQ) R.prog w) 16000 R.prog w os).map (fun s => lk.z.l.l.bs.all fun b => b (VT.frZ (getT s) 5)) = some true := by
  intro os
  kernel_rfl
theorem run2_a5 (w : World) : ∀ os : OsState, (endF (stepQ (denQ tabQ) R.prog w) 16000 R.prog w os).map (fun s => lk.z.l.xs.all fun e => e.ok lk.z.l.P (VT.frZ (getT s) 5)) = some true := by
  intro os
  kernel_rfl
theorem run2_a6 (w : World) : ∀ os : OsState, (endF (stepQ (denQ tabQ) R.prog w) 16000 R.prog w os).map (fun s => lk.z.ss.all fun d => VT.okA (VT.frZ (getT s) 5) d (He.fAd (VT.frZ (getT s) 5) d.at_) && VT.supB lk.z.l.P (VT.frZ (getT s) 5) (He.fAd (VT.frZ (getT s) 5) d.at_) (He.ga (VT.frZ (getT s) 5) d.at_.1)) = some true := by
  intro os
  kernel_rfl
theorem run2_a7 (w : World) : ∀ os : OsState, (endF (stepQ (denQ tabQ) R.prog w) 16000 R.prog w os).map (fun s => lk.st.all fun p => VT.stSeen (VT.frZ (getT s) 5) p) = some true := by
  intro os
  kernel_rfl
theorem run2_a8 (w : World) : ∀ os : OsState, (endF (stepQ (denQ tabQ) R.prog w) 16000 R.prog w os).map (fun s => VT.tabE (getT s) (VT.frZ (getT s) 5) && VT.tupE (getT s) (VT.frZ (getT s) 5)) = some true := by
  intro os
  kernel_rfl
theorem run3 (w : World) : ∀ os : OsState, (endF (stepQ (denQ tabQ) R.prog w) 16000 R.prog w os).map (fun s => lk.fns (VT.frZ (getT s) 5)) = some lk.dues := by
  intro os
  kernel_rfl
end
theorem run (w : World) : HandSHeadRun.RunEq R (PySem.W.view R.prog [28]) hk ob 16000 loose w := VT.run_of7 (run1 w) (run2_a1 w) (run2_a2 w) (run2_a3 w) (run2_a4 w) (run2_a5 w) (run2_a6 w) (run2_a7 w) (run2_a8 w) (run3 w)
end K60
namespace VT
open PySem PySem.Spec PyProof.Rows L2
section
variable {F F' : Hp}
theorem reps.append : ∀ {ds es : List D} {vs ws : List V}, reps F ds vs → reps F es ws → reps F (ds ++ es) (vs ++ ws)
  | [], _, _, _, r, s => by rw [show _ = [] from r]; exact s
  | _ :: _, _, _, _, ⟨v, r, e, q, z⟩, s => by rw [e]; exact ⟨v, _, rfl, q, reps.append z s⟩
theorem reps.drop : ∀ {ds : List D} {vs : List V} (n : Nat), reps F ds vs → reps F (ds.drop n) (vs.drop n)
  | _, _, 0, r => r
  | [], _, _ + 1, r => by rw [show _ = [] from r]; rfl
  | _ :: _, _, n + 1, ⟨v, r, e, q, z⟩ => by rw [e]; exact reps.drop n z
theorem reps.set : ∀ {ds : List D} {vs : List V} (n : Nat) {d : D} {v : V}, reps F ds vs → rep F d v → reps F (ds.set n d) (vs.set n v)
  | [], _, _, _, _, r, _ => by rw [show _ = [] from r]; rfl
  | _ :: _, _, 0, _, _, ⟨v, r, e, q, z⟩, h => by rw [e]; exact ⟨_, _, rfl, h, z⟩
  | _ :: _, _, n + 1, _, _, ⟨v, r, e, q, z⟩, h => by rw [e]; exact ⟨v, _, rfl, q, reps.set n z h⟩
theorem reps.reverse : ∀ {ds : List D} {vs : List V}, reps F ds vs → reps F ds.reverse vs.reverse
  | [], _, r => by rw [show _ = [] from r]; rfl
  | _ :: _, _, ⟨v, r, e, q, z⟩ => by
    rw [e, List.reverse_cons, List.reverse_cons]
    exact reps.append (reps.reverse z) ⟨v, [], rfl, q, rfl⟩
theorem reps.map_bl : ∀ {ns : List Bool} {vs : List V}, reps F (ns.map D.bl) vs → vs = ns.map V.bl
  | [], _, r => r
  | _ :: ns, _, ⟨v, r, e, q, z⟩ => by
    rw [e, show v = _ from q, reps.map_bl (ns := ns) z]
    rfl
end
theorem kt_tups {K : PySem.W.Frag} (h : (TabsOf K).kt = true) : ∀ p ∈ (TabsOf K).tups, ∃ ds, p.2 = .non :: ds := by
  intro p hp
  have h : ktIn K = true := h
  have hp : p ∈ tupIn K := hp
  unfold tupIn at hp
  rw [if_pos h] at hp
  have hp := (List.mem_filter.mp hp).1
  rw [List.nil_append] at hp
  obtain ⟨c, hc, rfl⟩ := List.mem_map.mp hp
  rw [List.mem_singleton.mp hc]
  exact ⟨_, rfl⟩
theorem TabsF.ext0 {T : TBL} {F H H' : Hp} (h : TabsF T F H) (hH : ∀ b ps, H b = some (.tbl ps) → H' b = some (.tbl ps)) : TabsF T F H' := h.ext (fun _ _ z => z) hH fun _ _ z _ => z
section
variable {G G' G1 G2 : Gh} {H H' H1 H2 : Hp}
theorem Ext.refl (ok : OkG G H) : Ext G H G H := ⟨ok, fun _ _ h _ _ => h, fun _ ps h => ⟨ps, h⟩, rfl, fun _ h => h, fun _ h => .inl h, fun _ _ h => h, fun _ _ h => .inl h⟩
end
theorem rdUp {F H : Hp} {a : Addr} {u : HO} (h : ∀ b o, F b = some o → H b = some o) (q : Rd F a u) : Rd H a u := q.imp (h _ _) fun ⟨o, q⟩ => ⟨o, h _ _ q⟩
section
variable {G G' G1 G2 : Gh} {H0 Hs Hs' H H' H1 H2 : Hp} {v : V} {sv : SV} {a : Addr} {d : D}
theorem RepF.peek {fs : List (Str × FV)} {ws : List (Str × V)} (r : RepF Hs G H fs ws) : RepP (fun _ => True) G H fs ws := by
  induction r with
  | nil => exact .nil
  | tr q _ ih => exact .tr q ih
  | own h1 h2 h3 h4 _ ih => exact .own trivial h3 h4.1 ih
theorem RepV.back (h : ∀ b, Hs b = none → Hs' b = none) (r : RepV H0 Hs G H v sv) : RepV H0 Hs' G H v sv := by
  cases sv with
  | own d =>
    obtain ⟨a, e, h1, h2⟩ := r
    exact ⟨a, e, h a h1, h2⟩
  | obj q C fs => exact r.at (fun _ => nofun) (fun _ => nofun) nofun (fun _ _ => nofun) (fun _ _ => nofun) (fun _ _ z => z) fun b o => ⟨⟨h b (r.owns o).1.1, (r.owns o).1.2⟩, rfl⟩
  | dob q kvs => exact r.at (fun _ => nofun) (fun _ => nofun) nofun (fun _ _ => nofun) (fun _ _ => nofun) (fun _ _ z => z) fun b o => ⟨⟨h b (r.owns o).1.1, (r.owns o).1.2⟩, rfl⟩
  | tow q c ds d2 => exact r.at (fun _ => nofun) (fun _ => nofun) nofun (fun _ _ => nofun) (fun _ _ => nofun) (fun _ _ z => z) fun b o => ⟨⟨h b (r.owns o).1.1, (r.owns o).1.2⟩, rfl⟩
  | _ => exact r
end
abbrev GT := S → (Bool → Prop) → Prop
abbrev KQ (H0 : Hp) (G : Gh) (H : Hp) (Qs : SV → Prop) (Q : VK) : Prop := ∀ v H' G' sv, Ext G H G' H' → RepV H0 H G' H' v sv → Qs sv → Q v H'
def TV (G0 : Gh) (H0 : Hp) (g : GE) : TE := fun σ H Q => ∃ G S Qs, Rel G0 H0 G H σ S ∧ g S Qs ∧ KQ H0 G H Qs Q
def TTV (G0 : Gh) (H0 : Hp) (g : GT) : TT := fun σ H Q => ∃ G S Qs, Rel G0 H0 G H σ S ∧ g S Qs ∧ ∀ b H' G', Ext G H G' H' → Qs b → Q b H'
def TAV (G0 : Gh) (H0 : Hp) (g : GA) : TA := fun σ H Q => ∃ G S Qs, Rel G0 H0 G H σ S ∧ g S Qs ∧ ∀ vs H' G' svs, Ext G H G' H' → RepL H0 H G' H' vs svs → Qs svs → Q vs H'
theorem Lk.blk {X Y : Cx} {EX : EXT} {G0 : Gh} {H0 : Hp} (l : Lk X EX G0 H0) (h : (Y.prog, Y.w, Y.K, Y.mg, Y.base) = (X.prog, X.w, X.K, X.mg, X.base)) : Lk Y EX.off G0 H0 := by
  simp only [Prod.mk.injEq] at h
  obtain ⟨h1, h2, h3, h4, h5⟩ := h
  exact ⟨takesE0, by rw [h3]; exact l.tabs, by rw [h1, h2, h3, h4, h5]; exact l.thk⟩
structure VE (X : Cx) (EX : EXT) (e : Expr) (g : GE) : Prop where
  pe : ∀ G0 H0, Lk X EX G0 H0 → PE X e (TV G0 H0 g)
structure VC (X : Cx) (EX : EXT) (e : Expr) (g : GT) : Prop where
  pt : ∀ G0 H0, Lk X EX G0 H0 → PT X e (TTV G0 H0 g)
structure VW (X : Cx) (EX : EXT) (e : Expr) (g : GT) : Prop where
  pw : ∀ G0 H0, Lk X EX G0 H0 → PW X e (TTV G0 H0 g)
structure VA (X : Cx) (EX : EXT) (es : List Expr) (g : GA) : Prop where
  pa : ∀ G0 H0, Lk X EX G0 H0 → PA X es (TAV G0 H0 g)
section
variable {X : Cx} {EX : EXT} {e : Expr}
theorem peMono {t t' : TE} (h : PE X e t) (k : ∀ σ H Q, t' σ H Q → t σ H Q) : PE X e t' := ⟨fun pins s σ H Q I q => h.run pins s σ H Q I (k σ H Q q)⟩
theorem ptMono {t t' : TT} (h : PT X e t) (k : ∀ σ H Q, t' σ H Q → t σ H Q) : PT X e t' := ⟨fun pins s σ H Q I q => h.run pins s σ H Q I (k σ H Q q)⟩
theorem pwMono {t t' : TT} (h : PW X e t) (k : ∀ σ H Q, t' σ H Q → t σ H Q) : PW X e t' := ⟨fun wh pins s σ H Q I q => h.run wh pins s σ H Q I (k σ H Q q)⟩
theorem paMono {es : List Expr} {t t' : TA} (h : PA X es t) (k : ∀ σ H Q, t' σ H Q → t σ H Q) : PA X es t' := ⟨fun pos pins s σ H Q I q => h.run pos pins s σ H Q I (k σ H Q q)⟩
end
theorem RepL.back {H0 Hs Hs' : Hp} {G : Gh} {H : Hp} (h : ∀ b, Hs b = none → Hs' b = none) : ∀ {vs : List V} {svs : List SV}, RepL H0 Hs G H vs svs → RepL H0 Hs' G H vs svs
  | _, _, .nil => .nil
  | _, _, .cons r t n => .cons (r.back h) (RepL.back h t) n
theorem RepL.cons' {H0 Hs : Hp} {G1 G2 : Gh} {H1 H2 : Hp} {v : V} {sv : SV} {vs : List V} {svs : List SV} (E1 : ∀ b, H1 b = none → Hs b = none) (E2 : Ext G1 H1 G2 H2) (r : RepV H0 Hs G1 H1 v sv) (t : RepL H0 H1 G2 H2 vs svs) : RepL H0 Hs G2 H2 (v :: vs) (sv :: svs) :=
  .cons (r.ext E2) (t.back E1) fun b o1 o2 => (r.owns (o1.at r fun b o => (E2.mine (r.owns o).1 (r.owns o).2).2)).2.ne (t.owns o2).1.1
def gName (i : Nat) : GE := fun S Q => ∃ sv, S[i]? = some (some sv) ∧ Q sv.look
@[simp] def gC (d : D) : GE := fun _ Q => Q (.tr d)
section
variable {X : Cx} {EX : EXT}
theorem ve_name (i : Nat) {x : Str} {pos : Pos} (hN : X.N[i]? = some x := by rfl) (hv : Vis X.env.scope x := by first | exact Or.inl rfl | exact Or.inr (Or.inl rfl) | exact Or.inr (Or.inr rfl)) (hd : (x == ("__debug__" : Str)) = false := by decide)
    (hcd : (x == ("__classdict__" : Str)) = false := by decide) : VE X EX (.Name x pos) (gName i) := by
  refine ⟨fun G0 H0 tk => peMono (pe_var hN hv hd hcd) fun σ H Q ⟨G, S, Qs, R, ⟨sv, e, q⟩, k⟩ => ?_⟩
  obtain ⟨v, e1, r⟩ := R.slot i sv e
  refine ⟨v, e1, k v H G sv.look (.refl R.ok) ?_ q⟩
  cases sv with
  | tr d => exact r
  | own d => obtain ⟨a, e, h1, h2, h3, h4⟩ := r; exact ⟨a, e, h3, h4⟩
  | obj q C fs => obtain ⟨a, dx, ws, e, ea, _, h1, _, _, rf, _⟩ := r; exact ⟨a, dx, ws, e, ea, h1.2.2, rf.peek⟩
  | tow q c ds d2 => exact r.1
  | dob q kvs => exact r.1
  | _ => exact r
theorem ve_c {e : Expr} {v : V} {d : D} (h : PE X e (tC v)) (r : ∀ F, rep F d v) : VE X EX e (gC d) :=
  ⟨fun G0 H0 tk => peMono h fun σ H Q ⟨G, S, Qs, R, q, k⟩ => k v H G (.tr d) (.refl R.ok) (r G.F) q⟩
theorem ve_int {i j pos} : VE X EX (.Constant (.int i) j pos) (gC (.int i)) := ve_c pe_int fun _ => rfl
theorem ve_bl {b j pos} : VE X EX (.Constant (.bool b) j pos) (gC (.bl b)) := ve_c pe_bl fun _ => rfl
theorem ve_non {j pos} : VE X EX (.Constant .none j pos) (gC .non) := ve_c pe_non fun _ => rfl
theorem ve_str {x j pos} (h : okS x := by decide +kernel) : VE X EX (.Constant (.str x) j pos) (gC (.str x)) := ve_c pe_str fun _ => ⟨rfl, h⟩
end
abbrev KB (H0 : Hp) (G : Gh) (H : Hp) (Qs : SV → Prop) (Q : VK) : Prop := KQ H0 G H Qs Q
def OpW (X : Cx) (f : Value → Value → Sem Value) (g : D → D → (SV → Prop) → Prop) : Prop :=
  ∀ (H0 Ha Hb : Hp) (G : Gh) (H : Hp) (x y : V) (sx sy : SV) (Qs : SV → Prop) (Q : VK), OkG G H → RepV H0 Ha G H x sx → RepV H0 Hb G H y sy → g sx.d sy.d Qs → KQ H0 G H Qs Q → ∃ r, OpR X f r ∧ r x y H Q
@[simp] def gOp (g : D → D → (SV → Prop) → Prop) (ga gb : GE) : GE := fun S Q => ga S fun x => gb S fun y => g x.d y.d Q
section
variable {X : Cx} {EX : EXT} {a b c : Expr} {ga gb gc : GE} {pos : Pos}
theorem opr_any {f : Value → Value → Sem Value} : OpR X f (fun x y H Q => ∃ r, OpR X f r ∧ r x y H Q) := fun pins s σ H x y v u Q I rx ry ⟨_, h, q⟩ => h pins s σ H x y v u Q I rx ry q
theorem kq_back {H0 : Hp} {G G1 : Gh} {H H1 : Hp} {Qs : SV → Prop} {Q : VK} (E : Ext G H G1 H1) (k : KQ H0 G H Qs Q) : KQ H0 G1 H1 Qs Q :=
  fun v H' G' sv E' r q => k v H' G' sv (E.trans E') (r.back fun _ z => E.dom z) q
theorem gOp_t {f : Value → Value → Sem Value} {g : D → D → (SV → Prop) → Prop} (ho : OpW X f g) {G0 : Gh} {H0 : Hp} {σ : L2.St} {H : Hp} {Q : VK} (h : TV G0 H0 (gOp g ga gb) σ H Q) :
    tOp (fun x y H Q => ∃ r, OpR X f r ∧ r x y H Q) (TV G0 H0 ga) (TV G0 H0 gb) σ H Q := by
  obtain ⟨G, S, Qs, R, q, k⟩ := h
  refine ⟨G, S, _, R, q, fun x H1 G1 sx E1 r1 q1 => ?_⟩
  refine ⟨G1, S, _, R.go E1, q1, fun y H2 G2 sy E2 r2 q2 => ?_⟩
  exact ho H0 _ _ G2 H2 x y sx sy Qs Q E2.ok (r1.ext E2) r2 q2 (kq_back (E1.trans E2) k)
theorem ve_op {op : Operator} {g : D → D → (SV → Prop) → Prop} (ho : OpW X (binaryOp op) g) (ha : VE X EX a ga) (hb : VE X EX b gb) : VE X EX (.BinOp a op b pos) (gOp g ga gb) :=
  ⟨fun G0 H0 tk => peMono (pe_op opr_any (ha.pe G0 H0 tk) (hb.pe G0 H0 tk)) fun _ _ _ h => gOp_t ho h⟩
theorem ve_cmp {op : CmpOp} {g : D → D → (SV → Prop) → Prop} (ho : OpW X (compareOp op) g) (ha : VE X EX a ga) (hb : VE X EX b gb) (hm : behindInMarks op b = false := by first | exact nobehind _ (by decide) (by decide) | rfl) : VE X EX (.Compare a [op] [b] pos) (gOp g ga gb) :=
  ⟨fun G0 H0 tk => peMono (pe_cmpR opr_any (ha.pe G0 H0 tk) (hb.pe G0 H0 tk) hm) fun _ _ _ h => gOp_t ho h⟩
@[simp] def gChain (g g' : D → D → (SV → Prop) → Prop) (ga gb gc : GE) : GE := fun S Q => ga S fun x => gb S fun y => g x.d y.d fun z => ∃ k, z = .tr (.bl k) ∧ if k = true then gc S fun w => g' y.d w.d Q else Q (.tr (.bl false))
@[simp] def gTest (g : GE) : GT := fun S Q => g S fun z => ∃ k, z = .tr (.bl k) ∧ Q k
theorem vc_cmp {op : CmpOp} {g : D → D → (SV → Prop) → Prop} (ho : OpW X (compareOp op) g) (ha : VE X EX a ga) (hb : VE X EX b gb) (hm : behindInMarks op b = false := by first | exact nobehind _ (by decide) (by decide) | rfl) : VC X EX (.Compare a [op] [b] pos) (gTest (gOp g ga gb)) := by
  refine ⟨fun G0 H0 tk => ptMono (pt_cmpR opr_any (ha.pe G0 H0 tk) (hb.pe G0 H0 tk) hm) fun σ H Q ⟨G, S, Qs, R, q, k⟩ => ?_⟩
  refine ⟨G, S, _, R, q, fun x H1 G1 sx E1 r1 q1 => ?_⟩
  refine ⟨G1, S, _, R.go E1, q1, fun y H2 G2 sy E2 r2 q2 => ?_⟩
  refine ho H0 _ _ G2 H2 x y sx sy _ _ E2.ok (r1.ext E2) r2 q2 fun z H3 G3 sz E3 r3 q3 => ?_
  obtain ⟨b, rfl, q3⟩ := q3
  exact ⟨b, r3, k b H3 G3 ((E1.trans E2).trans E3) q3⟩
@[simp] def gAndT (t u : GT) : GT := fun S Q => t S fun c => if c = true then u S Q else Q false
@[simp] def gOrT (t u : GT) : GT := fun S Q => t S fun c => if c = true then Q true else u S Q
@[simp] def gNotT (t : GT) : GT := fun S Q => t S fun c => Q (!c)
variable {gA gB : GT} {rest : List Expr}
theorem VW.vc {e : Expr} (h : VW X EX e gA) : VC X EX e gA := ⟨fun G0 H0 tk => (h.pw G0 H0 tk).pt⟩
theorem vw_and1 (ha : VC X EX a gA) : VW X EX (.BoolOp .And [a] pos) gA := ⟨fun G0 H0 tk => pw_and1 (ha.pt G0 H0 tk)⟩
theorem vw_or1 (ha : VC X EX a gA) : VW X EX (.BoolOp .Or [a] pos) gA := ⟨fun G0 H0 tk => pw_or1 (ha.pt G0 H0 tk)⟩
theorem vw_and (ha : VC X EX a gA) (hb : VW X EX (.BoolOp .And (b :: rest) pos) gB) : VW X EX (.BoolOp .And (a :: b :: rest) pos) (gAndT gA gB) := by
  refine ⟨fun G0 H0 tk => pwMono (pw_and (ha.pt G0 H0 tk) (hb.pw G0 H0 tk)) fun σ H Q ⟨G, S, Qs, R, q, k⟩ => ?_⟩
  refine ⟨G, S, _, R, q, fun c H1 G1 E1 q1 => ?_⟩
  cases c with
  | true =>
    rw [if_pos rfl] at q1 ⊢
    exact ⟨G1, S, _, R.go E1, q1, fun b H2 G2 E2 q2 => k b H2 G2 (E1.trans E2) q2⟩
  | false =>
    rw [if_neg Bool.false_ne_true] at q1 ⊢
    exact k _ _ _ E1 q1
theorem vw_or (ha : VC X EX a gA) (hb : VW X EX (.BoolOp .Or (b :: rest) pos) gB) : VW X EX (.BoolOp .Or (a :: b :: rest) pos) (gOrT gA gB) := by
  refine ⟨fun G0 H0 tk => pwMono (pw_or (ha.pt G0 H0 tk) (hb.pw G0 H0 tk)) fun σ H Q ⟨G, S, Qs, R, q, k⟩ => ?_⟩
  refine ⟨G, S, _, R, q, fun c H1 G1 E1 q1 => ?_⟩
  cases c with
  | true =>
    rw [if_pos rfl] at q1 ⊢
    exact k _ _ _ E1 q1
  | false =>
    rw [if_neg Bool.false_ne_true] at q1 ⊢
    exact ⟨G1, S, _, R.go E1, q1, fun b H2 G2 E2 q2 => k b H2 G2 (E1.trans E2) q2⟩
theorem vc_not (ha : VC X EX a gA) : VC X EX (.UnaryOp .Not a pos) (gNotT gA) := by
  refine ⟨fun G0 H0 tk => ptMono (pt_not (ha.pt G0 H0 tk)) fun σ H Q ⟨G, S, Qs, R, q, k⟩ => ?_⟩
  exact ⟨G, S, _, R, q, fun c H1 G1 E1 q1 => k _ _ _ E1 q1⟩
@[simp] def gAndV (ga gb : GE) : GE := fun S Q => ga S fun x => ∃ c, x = .tr (.bl c) ∧ if c = true then gb S Q else Q (.tr (.bl false))
@[simp] def gOrV (ga gb : GE) : GE := fun S Q => ga S fun x => ∃ c, x = .tr (.bl c) ∧ if c = true then Q (.tr (.bl true)) else gb S Q
@[simp] def gNotV (ga : GE) : GE := fun S Q => ga S fun x => ∃ c, x = .tr (.bl c) ∧ Q (.tr (.bl (!c)))
theorem ve_one {op} (h : VE X EX a ga) : VE X EX (.BoolOp op [a] pos) ga := ⟨fun G0 H0 tk => pe_one (h.pe G0 H0 tk)⟩
theorem ve_and (ha : VE X EX a ga) (hb : VE X EX (.BoolOp .And (b :: rest) pos) gb) : VE X EX (.BoolOp .And (a :: b :: rest) pos) (gAndV ga gb) := by
  refine ⟨fun G0 H0 tk => peMono (pe_and (ha.pe G0 H0 tk) (hb.pe G0 H0 tk)) fun σ H Q ⟨G, S, Qs, R, q, k⟩ => ?_⟩
  refine ⟨G, S, _, R, q, fun v H1 G1 sv E1 r1 q1 => ?_⟩
  obtain ⟨c, rfl, q1⟩ := q1
  refine ⟨c, r1, ?_⟩
  cases c with
  | true =>
    rw [if_pos rfl] at q1 ⊢
    exact ⟨G1, S, Qs, R.go E1, q1, kq_back E1 k⟩
  | false =>
    rw [if_neg Bool.false_ne_true] at q1 ⊢
    exact k (V.bl false) H1 G1 (.tr (.bl false)) E1 rfl q1
@[simp] def gIf (t : GT) (ga gb : GE) : GE := fun S Q => t S fun c => if c = true then ga S Q else gb S Q
theorem ve_if {c : Expr} (hc : VC X EX c gA) (ha : VE X EX a ga) (hb : VE X EX b gb) : VE X EX (.IfExp c a b pos) (gIf gA ga gb) := by
  refine ⟨fun G0 H0 tk => peMono (pe_ifExp (hc.pt G0 H0 tk) (ha.pe G0 H0 tk) (hb.pe G0 H0 tk)) fun σ H Q ⟨G, S, Qs, R, q, k⟩ => ?_⟩
  refine ⟨G, S, _, R, q, fun c H1 G1 E1 q1 => ?_⟩
  cases c with
  | true =>
    rw [if_pos rfl] at q1 ⊢
    exact ⟨G1, S, Qs, R.go E1, q1, kq_back E1 k⟩
  | false =>
    rw [if_neg Bool.false_ne_true] at q1 ⊢
    exact ⟨G1, S, Qs, R.go E1, q1, kq_back E1 k⟩
@[simp] def gaNil : GA := fun _ Q => Q []
@[simp] def gaCons (ga : GE) (gr : GA) : GA := fun S Q => ga S fun x => gr S fun xs => Q (x :: xs)
theorem va_nil : VA X EX [] gaNil := ⟨fun G0 H0 tk => paMono pa_nil fun σ H Q ⟨G, S, Qs, R, q, k⟩ => k [] H G [] (.refl R.ok) .nil q⟩
theorem va_cons {e : Expr} {es : List Expr} {g : GE} {gr : GA} (ha : VE X EX e g) (hr : VA X EX es gr) (hs : starEach (e :: es) X.env = (false, eval e X.env) :: starEach es X.env := by rfl) : VA X EX (e :: es) (gaCons g gr) := by
  refine ⟨fun G0 H0 tk => paMono (pa_cons (ha.pe G0 H0 tk) (hr.pa G0 H0 tk) hs) fun σ H Q ⟨G, S, Qs, R, q, k⟩ => ?_⟩
  refine ⟨G, S, _, R, q, fun v H1 G1 sv E1 r1 q1 => ?_⟩
  refine ⟨G1, S, _, R.go E1, q1, fun vs H2 G2 svs E2 r2 q2 => ?_⟩
  exact k _ _ _ _ (E1.trans E2) (RepL.cons' (fun _ z => E1.dom z) E2 r1 r2) q2
end
end VT
namespace VT
open PySem PySem.Spec PyProof.Rows L2
theorem tabs_put {T : TBL} {F H : Hp} {a : Addr} {u o : HO} (h : TabsF T F H) (ha : H a = some u) (n1 : ∀ ps, u ≠ .tbl ps) : TabsF T F (upd H a o) :=
  h.ext0 fun b ps e => by rw [upd_ne (ne_of e ha fun z => n1 ps z.symm)]; exact e
theorem tabs_new {T : TBL} {F H : Hp} {p : Addr} {o : HO} (h : TabsF T F H) (hp : H p = none) : TabsF T F (upd H p o) := h.ext0 fun b u e => by rw [upd_ne (ne_of_none e hp)]; exact e
section
variable {G Gs : Gh} {H0 H Hs : Hp} {p a : Addr} {o : HO} {Qs : SV → Prop} {Q : VK} {ds : List D} {vs : List V} {d : D} {v : V}
theorem OkG.nF (ok : OkG G H) (hp : H p = none) : G.F p = none := by
  cases e : G.F p with
  | none => rfl
  | some o => rw [ok.sub p o e] at hp; cases hp
theorem OkG.npb (ok : OkG G H) (hp : H p = none) : G.pb ≠ some p := fun z => by
  obtain ⟨⟨c, ns, i, r, m, e, _⟩, _⟩ := ok.bag p z
  rw [e] at hp; cases hp
theorem ext_new (ok : OkG G H) (hp : H p = none) (o : HO) : Ext G H G (upd H p o) where
  ok := ⟨fun b u e => by rw [upd_ne (ne_of_none (ok.sub b u e) hp)]; exact ok.sub b u e, fun q e => ⟨(ok.bag q e).1.upd hp, (ok.bag q e).2⟩, tabs_new ok.tabs hp, ok.key⟩
  same := fun b u e _ _ => by rw [upd_ne (ne_of_none e hp)]; exact e
  tbl := fun b ps e => ⟨ps, by rw [upd_ne (ne_of_none e hp)]; exact e⟩
  tt := rfl
  pb := fun _ h => h
  pnew := fun _ h => .inl h
  frz := fun _ _ h => h
  new := fun _ _ h => .inl h
theorem ext_frz (ok : OkG G H) (hp : H p = none) (o : HO) (nk : ∀ o' vs, o ≠ .frz o' (.tup vs) := by exact fun _ _ z => nomatch z) : Ext G H ⟨upd G.F p o, G.pb, G.T⟩ (upd H p o) where
  ok := by
    refine ⟨fun b u e => ?_, fun q e => ⟨((ok.bag q e).1.upd hp).go (fun _ z => z) (upd_mono (ok.nF hp)), ?_⟩, ok.tabs.ext (upd_mono (ok.nF hp)) (fun b ps e => by rw [upd_ne (ne_of_none e hp)]; exact e) fun b ps n e => by show upd G.F p o b = none; rw [upd_ne (ne_of_none e hp)]; exact n, ok.key.put nk⟩
    · by_cases h : b = p
      · subst h
        have e : upd G.F b o b = some u := e
        rw [upd_same] at e
        rw [upd_same]
        exact e
      · have e : upd G.F p o b = some u := e
        rw [upd_ne h] at e
        rw [upd_ne h]
        exact ok.sub b u e
    · show upd G.F p o q = none
      rw [upd_ne (fun z => ok.npb hp (by rw [← z]; exact e))]
      exact (ok.bag q e).2
  same := fun b u e _ _ => by rw [upd_ne (ne_of_none e hp)]; exact e
  tbl := fun b ps e => ⟨ps, by rw [upd_ne (ne_of_none e hp)]; exact e⟩
  tt := rfl
  pb := fun _ h => h
  pnew := fun _ h => .inl h
  frz := upd_mono (ok.nF hp)
  new := fun b u h => by
    by_cases z : b = p
    · subst z; exact .inr hp
    · have h : upd G.F p o b = some u := h
      rw [upd_ne z] at h
      exact .inl h
theorem kq_lst (k : KQ H0 G H Qs Q) (ok : OkG G H) (hp : H p = none) (r : reps G.F ds vs) (q : Qs (.own (.lst ds))) : Q (.ref p) (upd H p (.lst vs)) :=
  k _ _ G (.own (.lst ds)) (ext_new ok hp _) ⟨p, rfl, hp, ok.nF hp, ok.npb hp, vs, upd_same, r⟩ q
theorem kq_tup (k : KQ H0 G H Qs Q) (ok : OkG G H) (hp : H p = none) (r : reps G.F ds vs) (q : Qs (.tr (.tup ds))) : Q (.ref p) (upd H p (.tup vs)) :=
  k _ _ ⟨upd G.F p (.tup vs), G.pb, G.T⟩ (.tr (.tup ds)) (ext_frz ok hp _) ⟨p, vs, rfl, .inl upd_same, reps.mono (upd_mono (ok.nF hp)) _ _ r⟩ q
theorem kq_tr (k : KQ H0 G H Qs Q) (ok : OkG G H) (r : rep G.F d v) (q : Qs (.tr d)) : Q v H := k _ _ G (.tr d) (.refl ok) r q
end
theorem length_append (x y : Str) : (x ++ y).length = x.length + y.length := by
  obtain ⟨x⟩ := x
  obtain ⟨y⟩ := y
  exact Array.size_append
section
variable {X : Cx} {EX : EXT}
def gI (C : Int → Int → Prop) (f : Int → Int → D) : D → D → (SV → Prop) → Prop
  | .int i, .int j, Q => C i j ∧ Q (.tr (f i j))
  | _, _, _ => False
theorem ow_I {f : Value → Value → Sem Value} {C C' : Int → Int → Prop} {g : Int → Int → V} {d : Int → Int → D} (h : OpR X f (rI C g)) (hc : ∀ i j, C' i j → C i j) (hd : ∀ F i j, C' i j → rep F (d i j) (g i j)) : OpW X f (gI C' d) := by
  intro H0 Ha Hb G H x y sx sy Qs Q ok rx ry q k
  unfold gI at q
  split at q
  · rename_i i j hx hy
    cases rx.int hx
    cases ry.int hy
    exact ⟨_, h, i, j, rfl, rfl, hc i j q.1, kq_tr k ok (hd _ i j q.1) q.2⟩
  · exact q.elim
theorem ow_I0 {f : Value → Value → Sem Value} {g : Int → Int → V} {d : Int → Int → D} (h : OpR X f (rI0 g)) (hd : ∀ F i j, rep F (d i j) (g i j)) : OpW X f (gI (fun _ _ => True) d) := by
  intro H0 Ha Hb G H x y sx sy Qs Q ok rx ry q k
  unfold gI at q
  split at q
  · rename_i i j hx hy
    cases rx.int hx
    cases ry.int hy
    exact ⟨_, h, i, j, rfl, rfl, kq_tr k ok (hd _ i j) q.2⟩
  · exact q.elim
abbrev gPow := gI CPow fun i j => .int (i ^ j.toNat)
theorem ow_pow : OpW X (binaryOp .Pow) gPow := ow_I op_pow (fun _ _ h => h) fun _ _ _ _ => rfl
abbrev gLt := gI (fun _ _ => True) fun i j => .bl (decide (i < j))
theorem ow_lt : OpW X (compareOp .Lt) gLt := ow_I0 op_lt fun _ _ _ => rfl
end
end VT
namespace VT
open PySem PySem.Spec PyProof.Rows L2
mutual
/-- no dict, no object -/
def D.dat : D → Bool
  | .non | .bl _ | .int _ | .str _ => true
  | .lst xs | .tup xs => dats xs
  | _ => false
def dats : List D → Bool
  | [] => true
  | x :: xs => x.dat && dats xs
end
mutual
def D.dep : D → Nat
  | .lst xs | .tup xs => deps xs + 1
  | _ => 0
def deps : List D → Nat
  | [] => 0
  | x :: xs => max x.dep (deps xs)
end
mutual
def deq : D → D → Bool
  | .non, .non => true
  | .bl a, .bl b => a == b
  | .bl a, .int j => (if a then 1 else 0) == j
  | .int i, .bl b => i == (if b then 1 else 0)
  | .int i, .int j => i == j
  | .str x, .str y => x == y
  | .lst xs, .lst ys => deqs xs ys
  | .tup xs, .tup ys => deqs xs ys
  | _, _ => false
def deqs : List D → List D → Bool
  | [], [] => true
  | x :: xs, y :: ys => deq x y && deqs xs ys
  | _, _ => false
end
mutual
def toPy : D → PyData
  | .non => .none
  | .bl b => .bool b
  | .int i => .int i
  | .str x => .str x
  | .lst xs => .list (toPys xs)
  | .tup xs => .tuple (toPys xs)
  | _ => .none
def toPys : List D → List PyData
  | [] => []
  | x :: xs => toPy x :: toPys xs
end
mutual
theorem dep_py : ∀ d : D, (toPy d).depth = d.dep
  | .lst xs => by simp only [toPy, PyData.depth, D.dep, dep_pys xs]
  | .tup xs => by simp only [toPy, PyData.depth, D.dep, dep_pys xs]
  | .non | .bl _ | .int _ | .str _ => by simp only [toPy, PyData.depth, D.dep]
  | .dic _ | .dit _ | .ins _ _ | .exn _ _ | .fn _ _ | .opq => by simp only [toPy, PyData.depth, PyData.depthKv, D.dep]
theorem dep_pys : ∀ ds : List D, PyData.depthAll (toPys ds) = deps ds
  | [] => by simp only [toPys, PyData.depthAll, deps]
  | d :: ds => by simp only [toPys, PyData.depthAll, deps, dep_py d, dep_pys ds]
end
mutual
theorem eqv_py : ∀ d e : D, d.dat = true → e.dat = true → PyData.eqv (toPy d) (toPy e) = deq d e
  | .lst xs, .lst ys, h, k => by simp only [toPy, PyData.eqv, deq]; exact eqv_pys xs ys h k
  | .tup xs, .tup ys, h, k => by simp only [toPy, PyData.eqv, deq]; exact eqv_pys xs ys h k
  | .non, .non, _, _ | .non, .bl _, _, _ | .non, .int _, _, _ | .non, .str _, _, _ | .non, .lst _, _, _ | .non, .tup _, _, _ => by simp only [toPy, PyData.eqv, deq]
  | .bl _, .non, _, _ | .bl _, .bl _, _, _ | .bl _, .int _, _, _ | .bl _, .str _, _, _ | .bl _, .lst _, _, _ | .bl _, .tup _, _, _ => by simp only [toPy, PyData.eqv, deq]
  | .int _, .non, _, _ | .int _, .bl _, _, _ | .int _, .int _, _, _ | .int _, .str _, _, _ | .int _, .lst _, _, _ | .int _, .tup _, _, _ => by simp only [toPy, PyData.eqv, deq]
  | .str _, .non, _, _ | .str _, .bl _, _, _ | .str _, .int _, _, _ | .str _, .str _, _, _ | .str _, .lst _, _, _ | .str _, .tup _, _, _ => by simp only [toPy, PyData.eqv, deq]
  | .lst _, .non, _, _ | .lst _, .bl _, _, _ | .lst _, .int _, _, _ | .lst _, .str _, _, _ | .lst _, .tup _, _, _ => by simp only [toPy, PyData.eqv, deq]
  | .tup _, .non, _, _ | .tup _, .bl _, _, _ | .tup _, .int _, _, _ | .tup _, .str _, _, _ | .tup _, .lst _, _, _ => by simp only [toPy, PyData.eqv, deq]
  | .dic _, _, h, _ | .dit _, _, h, _ | .ins _ _, _, h, _ | .exn _ _, _, h, _ | .fn _ _, _, h, _ | .opq, _, h, _ => by simp [D.dat] at h
  | _, .dic _, _, h | _, .dit _, _, h | _, .ins _ _, _, h | _, .exn _ _, _, h | _, .fn _ _, _, h | _, .opq, _, h => by simp [D.dat] at h
theorem eqv_pys : ∀ ds es : List D, dats ds = true → dats es = true → PyData.eqvAll (toPys ds) (toPys es) = deqs ds es
  | [], [], _, _ => by simp only [toPys, PyData.eqvAll, deqs]
  | [], _ :: _, _, _ => by simp only [toPys, PyData.eqvAll, deqs]
  | _ :: _, [], _, _ => by simp only [toPys, PyData.eqvAll, deqs]
  | d :: ds, e :: es, h, k => by
    rw [dats, Bool.and_eq_true] at h k
    simp only [toPys, PyData.eqvAll, deqs]
    rw [eqv_py d e h.1 k.1, eqv_pys ds es h.2 k.2]
end
section
variable {K : PySem.W.Frag} {F H : Hp}
mutual
theorem rep_dp (hF : ∀ b o, F b = some o → H b = some o) : ∀ (d : D) (v : V), d.dat = true → rep F d v → Dp K H v (toPy d) ∧ (toPy d).canLay0 = true
  | .non, _, _, r => by rw [show _ = _ from r]; exact ⟨.non, rfl⟩
  | .bl _, _, _, r => by rw [show _ = _ from r]; exact ⟨.bl _, rfl⟩
  | .int _, _, _, r => by rw [show _ = _ from r]; exact ⟨.int _, rfl⟩
  | .str _, _, _, r => by rw [show _ = _ from r.1]; exact ⟨.str _, r.2.1⟩
  | .lst ds, _, h, ⟨a, vs, e, q, r⟩ => by
    obtain ⟨h1, h2⟩ := reps_dp hF ds vs h r
    rw [e]
    exact ⟨.lst (SqL.of (hF _ _ q)) h1, h2⟩
  | .tup ds, _, h, ⟨a, vs, e, q, r⟩ => by
    obtain ⟨h1, h2⟩ := reps_dp hF ds vs h r
    rw [e]
    exact ⟨.tup (Or.inl (q.imp (hF _ _) fun ⟨o, e⟩ => ⟨o, hF _ _ e⟩)) h1, h2⟩
  | .dic _, _, h, _ | .dit _, _, h, _ | .ins _ _, _, h, _ | .exn _ _, _, h, _ | .fn _ _, _, h, _ | .opq, _, h, _ => by simp [D.dat] at h
theorem reps_dp (hF : ∀ b o, F b = some o → H b = some o) : ∀ (ds : List D) (vs : List V), dats ds = true → reps F ds vs → DpAll K H vs (toPys ds) ∧ PyData.canLayAll0 (toPys ds) = true
  | [], _, _, r => by rw [show _ = _ from r]; exact ⟨.nil, rfl⟩
  | d :: ds, _, h, ⟨v, r, e, q, z⟩ => by
    rw [dats, Bool.and_eq_true] at h
    obtain ⟨h1, h2⟩ := rep_dp hF d v h.1 q
    obtain ⟨h3, h4⟩ := reps_dp hF ds r h.2 z
    rw [e]
    refine ⟨.cons h1 h3, ?_⟩
    rw [toPys, PyData.canLayAll0, h2, h4]
    rfl
end
end
section
variable {X : Cx} {EX : EXT} {H0 Hs H : Hp} {G : Gh} {v : V} {sv : SV}
theorem RepV.dp {K : PySem.W.Frag} (r : RepV H0 Hs G H v sv) (ok : OkG G H) (h : sv.d.dat = true) : Dp K H v (toPy sv.d) ∧ (toPy sv.d).canLay0 = true := by
  have top : ∀ (d : D) (a : Addr), d.dat = true → cont G.F H a d → Dp K H (.ref a) (toPy d) ∧ (toPy d).canLay0 = true := fun d a h c => by
    cases d with
    | lst ds =>
      obtain ⟨vs, e, r⟩ := c
      obtain ⟨h1, h2⟩ := reps_dp ok.sub ds vs h r
      exact ⟨.lst (SqL.of e) h1, h2⟩
    | dic _ => simp [D.dat] at h
    | dit _ => simp [D.dat] at h
    | _ => exact c.elim
  cases sv with
  | tr d => exact rep_dp ok.sub d v h r
  | own d => obtain ⟨a, e, _, _, _, c⟩ := r; rw [e]; exact top d a h c
  | brw d => obtain ⟨a, e, _, _, c⟩ := r; rw [e]; exact top d a h c
  | pk d => obtain ⟨a, e, _, c⟩ := r; rw [e]; exact top d a h c
  | tz ds => exact rep_dp ok.sub (.tup ds) v h (let ⟨a, o, vs, e1, _, e2, r⟩ := r; ⟨a, vs, e1, .inr ⟨o, e2⟩, r⟩)
  | bag | dob _ _ | tow _ _ _ _ | obj _ _ _ | pob _ _ | bob _ _ | exc _ _ _ _ | fn _ => simp [SV.d, D.dat] at h
@[simp] def gEq (neg : Bool) (x y : D) (Q : SV → Prop) : Prop := x.dat = true ∧ y.dat = true ∧ x.dep ≤ 64 ∧ y.dep ≤ 64 ∧ Q (.tr (.bl (if neg then !deq x y else deq x y)))
theorem shaped_of {d : D} (h : (toPy d).canLay0 = true) (k : d.dep ≤ 64) : SeqAt.shaped (toPy d) = true := by
  unfold SeqAt.shaped
  rw [h, dep_py]
  simpa using k
theorem ow_eq (hu : X.A.units + 64 < cLine) : OpW X (compareOp .Eq) (gEq false) := by
  intro H0 Ha Hb G H x y sx sy Qs Q ok rx ry ⟨d1, d2, h1, h2, q⟩ k
  obtain ⟨p1, l1⟩ := rx.dp (K := X.K) ok d1
  obtain ⟨p2, l2⟩ := ry.dp (K := X.K) ok d2
  refine ⟨_, op_eqD hu, _, _, p1, p2, shaped_of l1 h1, shaped_of l2 h2, ?_⟩
  rw [eqv_py _ _ d1 d2]
  exact kq_tr (d := .bl _) k ok rfl q
theorem ow_ne (hu : X.A.units + 64 < cLine) : OpW X (compareOp .NotEq) (gEq true) := by
  intro H0 Ha Hb G H x y sx sy Qs Q ok rx ry ⟨d1, d2, h1, h2, q⟩ k
  obtain ⟨p1, l1⟩ := rx.dp (K := X.K) ok d1
  obtain ⟨p2, l2⟩ := ry.dp (K := X.K) ok d2
  refine ⟨_, op_neD hu, _, _, p1, p2, shaped_of l1 h1, shaped_of l2 h2, ?_⟩
  rw [eqv_py _ _ d1 d2]
  exact kq_tr (d := .bl _) k ok rfl q
def D.isNon : D → Bool
  | .non => true
  | _ => false
@[simp] def gIsN (neg : Bool) (x y : D) (Q : SV → Prop) : Prop := x ≠ .opq ∧ y = .non ∧ Q (.tr (.bl (if neg then !x.isNon else x.isNon)))
theorem RepV.isN (r : RepV H0 Hs G H v sv) (h : sv.d ≠ .opq) : decide (v = .non) = sv.d.isNon := by
  have top : ∀ (d : D) (a : Addr), cont G.F H a d → decide (V.ref a = .non) = d.isNon := fun d a c => by
    cases d <;> first | exact c.elim | rfl
  cases sv with
  | tr d =>
    show _ = d.isNon
    cases d with
    | non => rw [show v = .non from r]; rfl
    | bl _ => rw [show v = _ from r]; rfl
    | int _ => rw [show v = _ from r]; rfl
    | str _ => rw [show v = _ from r.1]; rfl
    | lst _ => obtain ⟨a, _, e, _⟩ := r; rw [e]; rfl
    | tup _ => obtain ⟨a, _, e, _⟩ := r; rw [e]; rfl
    | dic _ => obtain ⟨a, _, _, e, _⟩ := r; rw [e]; rfl
    | dit _ => obtain ⟨a, _, e, _⟩ := r; rw [e]; rfl
    | ins _ _ => obtain ⟨a, _, _, e, _⟩ := r; rw [e]; rfl
    | exn _ _ => obtain ⟨a, _, _, _, e, _⟩ := r; rw [e]; rfl
    | fn _ _ => rw [r.1]; rfl
    | opq => exact (h rfl).elim
  | own d => obtain ⟨a, e, _, _, _, c⟩ := r; rw [e]; exact top d a c
  | brw d => obtain ⟨a, e, _, _, c⟩ := r; rw [e]; exact top d a c
  | pk d => obtain ⟨a, e, _, c⟩ := r; rw [e]; exact top d a c
  | tz ds => obtain ⟨a, o, vs, e, _⟩ := r; rw [e]; rfl
  | bag | dob _ _ | tow _ _ _ _ | obj _ _ _ | pob _ _ | bob _ _ | exc _ _ _ _ | fn _ => exact (h rfl).elim
theorem ow_is : OpW X (compareOp .Is) (gIsN false) := by
  intro H0 Ha Hb G H x y sx sy Qs Q ok rx ry ⟨h1, h2, q⟩ k
  refine ⟨_, op_isN, ry.non h2, ?_⟩
  rw [rx.isN h1]
  exact kq_tr (d := .bl _) k ok rfl q
def D.flat : D → Bool
  | .non | .bl _ | .int _ | .str _ => true
  | _ => false
def sign? (x : Str) : Option Nat := match x.cps.toList with
  | [c] => some c
  | _ => none
def gIn (neg : Bool) (x y : D) (Q : SV → Prop) : Prop := match y with
  | .lst ys => x.dat = true ∧ dats ys = true ∧ x.dep ≤ 60 ∧ deps ys ≤ 60 ∧ Q (.tr (.bl (if neg then !ys.any (fun z => deq z x) else ys.any fun z => deq z x)))
  | .tup ys => x.flat = true ∧ ys.all D.flat = true ∧ Q (.tr (.bl (if neg then !ys.any (fun z => deq z x) else ys.any fun z => deq z x)))
  | .str z => ∃ s, x = .str s ∧ match sign? s with
    | some c => Q (.tr (.bl (if neg then !decide (c ∈ z.cps.toList) else decide (c ∈ z.cps.toList))))
    | none => Q (.tr (.bl (if neg then !!(Builtin.Str.occurrences z s 0 z.length 1).isEmpty else !(Builtin.Str.occurrences z s 0 z.length 1).isEmpty)))
  | _ => False
theorem flat_V {F : Hp} : ∀ {d : D} {v : V}, d.flat = true → rep F d v → flatV v = true
  | .non, _, _, r => by rw [show _ = _ from r]; rfl
  | .bl _, _, _, r => by rw [show _ = _ from r]; rfl
  | .int _, _, _, r => by rw [show _ = _ from r]; rfl
  | .str _, _, _, r => by rw [show _ = _ from r.1]; rfl
  | .lst _, _, h, _ | .tup _, _, h, _ | .dic _, _, h, _ | .dit _, _, h, _ | .ins _ _, _, h, _ | .exn _ _, _, h, _ | .fn _ _, _, h, _ | .opq, _, h, _ => by simp [D.flat] at h
theorem flat_eq {F : Hp} {d e : D} {v w : V} (hd : d.flat = true) (he : e.flat = true) (r : rep F d v) (q : rep F e w) : eqV v w = deq d e := by
  cases d <;> first
    | (simp [D.flat] at hd; done)
    | (cases e <;> first
        | (simp [D.flat] at he; done)
        | (first | (have r := r.1; rw [r]) | (have r : _ = _ := r; rw [r])
           first | (have q := q.1; rw [q]) | (have q : _ = _ := q; rw [q])
           simp only [eqV, deq]))
theorem flats_any {F : Hp} {x : D} {v : V} (hx : x.flat = true) (r : rep F x v) : ∀ {ds : List D} {vs : List V}, ds.all D.flat = true → reps F ds vs → inV v vs = (ds.any fun z => deq z x) ∧ vs.all flatV = true
  | [], _, _, q => by rw [show _ = _ from q]; exact ⟨rfl, rfl⟩
  | d :: ds, _, h, ⟨w, t, e, q, z⟩ => by
    rw [List.all_cons, Bool.and_eq_true] at h
    obtain ⟨h1, h2⟩ := flats_any hx r h.2 z
    rw [e]
    constructor
    · show (eqV w v || inV v t) = _
      rw [h1, flat_eq h.1 hx q r, List.any_cons]
    · rw [List.all_cons, flat_V h.1 q, h2]
      rfl
theorem sign_eq {s : Str} {c : Nat} (h : sign? s = some c) : s = ⟨#[c]⟩ := by
  obtain ⟨⟨l⟩⟩ := s
  unfold sign? at h
  match l, h with
  | [c'], h => rw [show c' = c from Option.some.inj h]
theorem toPys_any (x : D) (hx : x.dat = true) : ∀ ds : List D, dats ds = true → ((toPys ds).any fun z => PyData.eqv z (toPy x)) = ds.any fun z => deq z x
  | [], _ => rfl
  | d :: ds, h => by
    rw [dats, Bool.and_eq_true] at h
    rw [toPys, List.any_cons, List.any_cons, eqv_py d x h.1 hx, toPys_any x hx ds h.2]
theorem ow_in (hu : X.A.units + 64 < cLine) (hu' : X.A.units + 65 < cLine) : OpW X (compareOp .In) (gIn false) := by
  intro H0 Ha Hb G H x y sx sy Qs Q ok rx ry q k
  unfold gIn at q
  split at q
  · rename_i ys hy
    obtain ⟨d1, d2, h1, h2, q⟩ := q
    obtain ⟨p1, l1⟩ := rx.dp (K := X.K) ok d1
    have hyd : sy.d.dat = true := by rw [hy]; exact d2
    obtain ⟨p2, l2⟩ := ry.dp (K := X.K) ok hyd
    rw [hy] at p2 l2
    refine ⟨_, op_inD hu', _, _, p1, p2, shaped_of l1 (by omega), shaped_of (d := .lst ys) l2 (by rw [D.dep]; omega), ?_⟩
    rw [toPys_any _ d1 _ d2]
    exact kq_tr (d := .bl _) k ok rfl q
  · rename_i ys hy
    obtain ⟨d1, d2, q⟩ := q
    have t1 := rx.tree rfl (fun F K a c => by cases hh : sx.d <;> first | (rw [hh] at c; exact c) | (rw [hh] at d1; simp [D.flat] at d1)) (fun z => by rw [z] at d1; simp [D.flat] at d1)
    obtain ⟨a, vs, rfl, ea, r⟩ := ry.tup ok hy
    obtain ⟨e1, e2⟩ := flats_any d1 t1 d2 r
    refine ⟨_, op_in_seq, a, vs, rfl, .inr (.inl ea), flat_V d1 t1, e2, ?_⟩
    rw [e1]
    exact kq_tr (d := .bl _) k ok rfl q
  · rename_i z hz
    obtain ⟨s, hs, q⟩ := q
    obtain ⟨rfl, _⟩ := rx.str hs
    obtain ⟨rfl, _⟩ := ry.str hz
    split at q
    · rename_i c hc
      have e := sign_eq hc
      subst e
      exact ⟨_, op_in_sign, c, z, rfl, rfl, kq_tr (d := .bl _) k ok rfl q⟩
    · exact ⟨_, op_in_str, s, z, rfl, rfl, kq_tr (d := .bl _) k ok rfl q⟩
  · exact q.elim
theorem ow_notin (hu : X.A.units + 64 < cLine) (hu' : X.A.units + 65 < cLine) : OpW X (compareOp .NotIn) (gIn true) := by
  intro H0 Ha Hb G H x y sx sy Qs Q ok rx ry q k
  unfold gIn at q
  split at q
  · rename_i ys hy
    obtain ⟨d1, d2, h1, h2, q⟩ := q
    obtain ⟨p1, l1⟩ := rx.dp (K := X.K) ok d1
    have hyd : sy.d.dat = true := by rw [hy]; exact d2
    obtain ⟨p2, l2⟩ := ry.dp (K := X.K) ok hyd
    rw [hy] at p2 l2
    refine ⟨_, op_notInD hu', _, _, p1, p2, shaped_of l1 (by omega), shaped_of (d := .lst ys) l2 (by rw [D.dep]; omega), ?_⟩
    rw [toPys_any _ d1 _ d2]
    exact kq_tr (d := .bl _) k ok rfl q
  · rename_i ys hy
    obtain ⟨d1, d2, q⟩ := q
    have t1 := rx.tree rfl (fun F K a c => by cases hh : sx.d <;> first | (rw [hh] at c; exact c) | (rw [hh] at d1; simp [D.flat] at d1)) (fun z => by rw [z] at d1; simp [D.flat] at d1)
    obtain ⟨a, vs, rfl, ea, r⟩ := ry.tup ok hy
    obtain ⟨e1, e2⟩ := flats_any d1 t1 d2 r
    refine ⟨_, op_notIn_seq, a, vs, rfl, .inr (.inl ea), flat_V d1 t1, e2, ?_⟩
    rw [e1]
    exact kq_tr (d := .bl _) k ok rfl q
  · rename_i z hz
    obtain ⟨s, hs, q⟩ := q
    obtain ⟨rfl, _⟩ := rx.str hs
    obtain ⟨rfl, _⟩ := ry.str hz
    split at q
    · rename_i c hc
      have e := sign_eq hc
      subst e
      exact ⟨_, op_notIn_sign, c, z, rfl, rfl, kq_tr (d := .bl _) k ok rfl q⟩
    · exact ⟨_, op_notIn_str, s, z, rfl, rfl, kq_tr (d := .bl _) k ok rfl q⟩
  · exact q.elim
end
end VT
namespace VT
open PySem PySem.Spec PyProof.Rows L2
theorem cont.plain {F H : Hp} {a : Addr} {d : D} (h : cont F H a d) : Plain H a := by
  cases d with
  | lst ds => obtain ⟨vs, e, r⟩ := h; exact ⟨_, e, nofun, nofun⟩
  | dic kvs => obtain ⟨vs, e, r⟩ := h; exact ⟨_, e, nofun, nofun⟩
  | dit kvs => obtain ⟨vs, e, r⟩ := h; exact ⟨_, e, nofun, nofun⟩
  | _ => exact h.elim
theorem Plain.tabs {T : TBL} {F H : Hp} {a : Addr} (p : Plain H a) (o : HO) (h : TabsF T F H) : TabsF T F (upd H a o) := by
  obtain ⟨u, e, n1, n2⟩ := p
  exact tabs_put h e n1
theorem ext_write {G G' : Gh} {H H' : Hp} {a : Addr} (E : Ext G H G' H') (hn : H a = none) (hF : G'.F a = none) (hb : G'.pb ≠ some a) (o : HO) (hp : Plain H' a) : Ext G H G' (upd H' a o) where
  ok := ⟨fun b u e => by
      rw [upd_ne (fun z => by rw [z, hF] at e; cases e)]
      exact E.ok.sub b u e, fun q e => ⟨(E.ok.bag q e).1.go (fun u h => by rw [upd_ne (fun z => hb (by rw [← z]; exact e))]; exact h) fun _ _ z => z, (E.ok.bag q e).2⟩, hp.tabs o E.ok.tabs, E.ok.key⟩
  same := fun b u e q n => by rw [upd_ne (ne_of_none e hn)]; exact E.same b u e q n
  tbl := fun b ps e => by
    obtain ⟨ps', z⟩ := E.tbl b ps e
    exact ⟨ps', by rw [upd_ne (ne_of_none e hn)]; exact z⟩
  tt := E.tt
  pb := E.pb
  pnew := E.pnew
  frz := E.frz
  new := E.new
theorem ext_lock {Gs G : Gh} {Hs H : Hp} {a : Addr} {ws : List (Key × V)} (E : Ext Gs Hs G H) (hs : Hs a = none) (ha : H a = some (.dK ws)) (hF : G.F a = none) (hb : G.pb ≠ some a) (o : Obj) : Ext Gs Hs ⟨upd G.F a (.frz o (.dK ws)), G.pb, G.T⟩ (upd H a (.frz o (.dK ws))) :=
  ext_freeze (ext_write E hs hF hb _ (.dK ha)) hs upd_same hF hb
def SV.let_ : SV → SV
  | .own d => .tr d
  | .tz ds => .tr (.tup ds)
  | .tow _ _ ds e => .tr (.tup [.lst ds, e])
  | sv => sv
@[simp] def gFz (g : GE) : GE := fun S Q => g S fun sv => Q sv.let_
theorem own_freeze {Gs G : Gh} {H0 Hs H : Hp} {v : V} {d : D} (E : Ext Gs Hs G H) (r : RepV H0 Hs G H v (.own d)) (hn : d.nd = true) : ∃ G', Ext Gs Hs G' H ∧ Ext G H G' H = Ext G H G' H ∧ RepV H0 Hs G' H v (.tr d) ∧ (∀ b o, G.F b = some o → G'.F b = some o) := by
  obtain ⟨a, rfl, h1, h2, h3, c⟩ := r
  cases d with
  | lst ds =>
    obtain ⟨vs, e, r⟩ := c
    exact ⟨_, ext_freeze E h1 e h2 h3, rfl, ⟨a, vs, rfl, upd_same, reps.mono (upd_mono h2) _ _ r⟩, upd_mono h2⟩
  | dic ds => cases hn
  | dit ds =>
    obtain ⟨vs, e, r⟩ := c
    exact ⟨_, ext_freeze E h1 e h2 h3, rfl, ⟨a, vs, rfl, upd_same, rept.mono (upd_mono h2) _ _ r⟩, upd_mono h2⟩
  | _ => exact c.elim
section
variable {X : Cx} {EX : EXT} {e : Expr} {g : GE}
theorem ve_fz (h : VE X EX e g) : VE X EX e (gFz g) := by
  refine ⟨fun G0 H0 tk => ⟨fun pins s σ H Q I h0 => ?_⟩⟩
  obtain ⟨G, S, Qs, R, q, k⟩ := h0
  refine thn ((h.pe G0 H0 tk).run pins s σ H (fun v H1 => ∃ G1 sv, Ext G H G1 H1 ∧ RepV H0 H G1 H1 v sv ∧ Qs sv.let_) I ⟨G, S, _, R, q, fun v H1 G1 sv E1 r1 q1 => ⟨G1, sv, E1, r1, q1⟩⟩) fun u s1 ⟨v, H1, I1, rv, G1, sv, E1, r1, q1⟩ => ?_
  cases sv with
  | own d =>
    cases hd : d.nd with
    | true =>
      obtain ⟨G', E', _, r', _⟩ := own_freeze E1 r1 hd
      exact ⟨v, H1, I1, rv, k v H1 G' (.tr d) E' r' q1⟩
    | false =>
      cases d with
      | dic ds =>
        obtain ⟨a, rfl, h1, h2, h3, ws, ha, r⟩ := r1
        obtain ⟨od, I2⟩ := I1.lock ha trivial
        exact ⟨.ref a, _, I2, rv, k _ _ _ (.tr (.dic ds)) (ext_lock E1 h1 ha h2 h3 od) ⟨a, od, ws, rfl, upd_same, repk.mono (upd_mono h2) _ _ r⟩ q1⟩
      | _ => cases hd
  | tz ds =>
    obtain ⟨a, o, vs, e1, _, e2, r⟩ := r1
    exact ⟨v, H1, I1, rv, k v H1 G1 (.tr (.tup ds)) E1 ⟨a, vs, e1, .inr ⟨o, e2⟩, r⟩ q1⟩
  | tow a b ds e =>
    obtain ⟨rfl, ma, mb, hne, w, vs, ea, eb, rl, rw_⟩ := r1
    have E2 := ext_freeze E1 mb.1 eb mb.2.1 mb.2.2
    have hFa : upd G1.F b (.lst vs) a = none := by rw [upd_ne hne]; exact ma.2.1
    have E3 := ext_freeze E2 ma.1 ea hFa ma.2.2
    have m2 : ∀ x o, G1.F x = some o → upd (upd G1.F b (.lst vs)) a (.tup [.ref b, w]) x = some o := fun x o h => upd_mono hFa x o (upd_mono mb.2.1 x o h)
    refine ⟨.ref a, H1, I1, rv, k _ _ _ (.tr (.tup [.lst ds, e])) E3 ⟨a, [.ref b, w], rfl, .inl upd_same, .ref b, [w], rfl, ⟨b, vs, rfl, ?_, reps.mono m2 _ _ rl⟩, w, [], rfl, rep.mono m2 _ _ rw_, rfl⟩ q1⟩
    show upd (upd G1.F b (.lst vs)) a _ b = _
    rw [upd_ne hne.symm, upd_same]
  | _ => exact ⟨v, H1, I1, rv, k v H1 G1 _ E1 r1 q1⟩
end
@[simp] def onTrs : List SV → (List D → Prop) → Prop
  | [], P => P []
  | .tr d :: r, P => onTrs r fun ds => P (d :: ds)
  | _ :: _, _ => False
theorem onTrs_of {H0 Hs : Hp} {G : Gh} {H : Hp} : ∀ {svs : List SV} {vs : List V} {P : List D → Prop}, RepL H0 Hs G H vs svs → onTrs svs P → ∃ ds, reps G.F ds vs ∧ P ds
  | [], _, P, .nil, h => ⟨[], rfl, h⟩
  | .tr d :: r, _, P, .cons rv rr _, h => by
    obtain ⟨ds, h1, h2⟩ := onTrs_of rr h
    exact ⟨d :: ds, ⟨_, _, rfl, rv, h1⟩, h2⟩
  | .own _ :: _, _, _, _, h => h.elim
  | .brw _ :: _, _, _, _, h => h.elim
  | .pk _ :: _, _, _, _, h => h.elim
  | .bag :: _, _, _, _, h => h.elim
@[simp] def gTup (ga : GA) : GE := fun S Q => ga S fun svs => onTrs svs fun ds => ds.length ≤ sizeLine ∧ Q (.tr (.tup ds))
@[simp] def gLst (ga : GA) : GE := fun S Q => ga S fun svs => onTrs svs fun ds => ds.length ≤ sizeLine ∧ Q (.own (.lst ds))
section
variable {X : Cx} {EX : EXT} {es : List Expr} {ga : GA} {pos : Pos}
theorem ve_tup {x1} (h : VA X EX es ga) : VE X EX (.Tuple es x1 pos) (gTup ga) := by
  refine ⟨fun G0 H0 tk => peMono (pe_tup (h.pa G0 H0 tk)) fun σ H Q ⟨G, S, Qs, R, q, k⟩ => ?_⟩
  refine ⟨G, S, _, R, q, fun vs H1 G1 svs E1 r1 q1 => ?_⟩
  obtain ⟨ds, r2, hz, q2⟩ := onTrs_of r1 q1
  exact ⟨by rw [r2.length]; exact hz, fun p hp => kq_tup (kq_back E1 k) E1.ok hp r2 q2⟩
theorem ve_lst (h : VA X EX es ga) : VE X EX (.List es pos) (gLst ga) := by
  refine ⟨fun G0 H0 tk => peMono (pe_lst (h.pa G0 H0 tk)) fun σ H Q ⟨G, S, Qs, R, q, k⟩ => ?_⟩
  refine ⟨G, S, _, R, q, fun vs H1 G1 svs E1 r1 q1 => ?_⟩
  obtain ⟨ds, r2, hz, q2⟩ := onTrs_of r1 q1
  exact ⟨by rw [r2.length]; exact hz, fun p hp => kq_lst (kq_back E1 k) E1.ok hp r2 q2⟩
end
def CallW (X : Cx) (f : Value) (g : List D → (SV → Prop) → Prop) : Prop :=
  ∀ (H0 Hs : Hp) (G : Gh) (H : Hp) (vs : List V) (svs : List SV) (Qs : SV → Prop) (Q : VK), OkG G H → RepL H0 Hs G H vs svs → g (svs.map SV.d) Qs → KQ H0 G H Qs Q → ∃ r, CallR X f r ∧ r vs H Q
@[simp] def gCB (g : List D → (SV → Prop) → Prop) (ga : GA) : GE := fun S Q => ga S fun svs => g (svs.map SV.d) Q
section
variable {X : Cx} {EX : EXT} {x : Str} {p pos : Pos} {e : Expr} {es : List Expr} {ga : GA} {id T : String} {g : List D → (SV → Prop) → Prop}
theorem callr_any {f : Value} : CallR X f (fun vs H Q => ∃ r, CallR X f r ∧ r vs H Q) := fun pins s σ H xs us Q I r ⟨_, h, q⟩ => h pins s σ H xs us Q I r q
theorem gCB_t {f : Value} (hc : CallW X f g) {G0 : Gh} {H0 : Hp} {σ : L2.St} {H : Hp} {Q : VK} (h : TV G0 H0 (gCB g ga) σ H Q) : tCB (fun vs H Q => ∃ r, CallR X f r ∧ r vs H Q) (TAV G0 H0 ga) σ H Q := by
  obtain ⟨G, S, Qs, R, q, k⟩ := h
  refine ⟨G, S, _, R, q, fun vs H1 G1 svs E1 r1 q1 => ?_⟩
  exact hc H0 _ G1 H1 vs svs Qs Q E1.ok r1 q1 (kq_back E1 k)
theorem ve_callB (hc : CallW X (.builtin id) g) (hg : Gl X x) (hm : X.mg x = none) (hv : bootBuiltins x = some (.builtin id)) (ha : VA X EX (e :: es) ga) (hn : x ≠ "__name__" := by decide) (hdb : (x == ("__debug__" : Str)) = false := by decide)
    (he : starEach (e :: es) X.env = (false, eval e X.env) :: starEach es X.env := by rfl) (hpl : (backTo pos (starEach es X.env)).any (·.1) = false := by rfl) : VE X EX (.Call (.Name x p) (e :: es) [] pos) (gCB g ga) :=
  ⟨fun G0 H0 tk => peMono (pe_callB callr_any hg hm hv (ha.pa G0 H0 tk) hn hdb he hpl) fun _ _ _ h => gCB_t hc h⟩
end
section
variable {X : Cx} {EX : EXT} {H0 Hs H : Hp} {G : Gh}
theorem repl1 {vs : List V} {svs : List SV} {d : D} (r : RepL H0 Hs G H vs svs) (e : svs.map SV.d = [d]) : ∃ v sv, vs = [v] ∧ svs = [sv] ∧ sv.d = d ∧ RepV H0 Hs G H v sv := by
  cases r with
  | nil => cases e
  | cons rv rr _ =>
    cases rr with
    | nil =>
      simp only [List.map_cons, List.map_nil, List.cons.injEq, and_true] at e
      exact ⟨_, _, rfl, rfl, e, rv⟩
    | cons _ _ _ => simp at e
def gLen : List D → (SV → Prop) → Prop
  | [.lst xs], Q => Q (.tr (.int xs.length))
  | [.tup xs], Q => Q (.tr (.int xs.length))
  | [.str x], Q => Q (.tr (.int x.length))
  | _, _ => False
theorem cw_len : CallW X (.builtin "len") gLen := by
  intro H0 Hs G H vs svs Qs Q ok r q k
  unfold gLen at q
  split at q
  · rename_i xs h
    obtain ⟨v, sv, rfl, rfl, e, rv⟩ := repl1 r h
    obtain ⟨a, ws, rfl, ea, rw_⟩ := rv.lst ok e
    refine ⟨_, call_len_seq, a, ws, rfl, .inl (.of ea), ?_⟩
    rw [rw_.length]
    exact kq_tr (d := .int _) k ok rfl q
  · rename_i xs h
    obtain ⟨v, sv, rfl, rfl, e, rv⟩ := repl1 r h
    obtain ⟨a, ws, rfl, ea, rw_⟩ := rv.tup ok e
    refine ⟨_, call_len_seq, a, ws, rfl, .inr (.inl ea), ?_⟩
    rw [rw_.length]
    exact kq_tr (d := .int _) k ok rfl q
  · rename_i x h
    obtain ⟨v, sv, rfl, rfl, e, rv⟩ := repl1 r h
    obtain ⟨rfl, hx⟩ := rv.str e
    exact ⟨_, call_len_str, x, rfl, hx.2, kq_tr (d := .int _) k ok rfl q⟩
  · exact q.elim
def blsD : List D → Option (List Bool)
  | [] => some []
  | .bl b :: r => (blsD r).map (b :: ·)
  | _ => none
theorem blsD_eq : ∀ {ds : List D} {bs : List Bool}, blsD ds = some bs → ds = bs.map D.bl
  | [], _, h => by cases h; rfl
  | .bl b :: r, bs, h => by
    rw [blsD] at h
    cases e : blsD r with
    | none => rw [e] at h; cases h
    | some t => rw [e] at h; cases h; rw [blsD_eq e]; rfl
@[simp] theorem blsD_map {α : Type} (f : α → Bool) : ∀ xs : List α, blsD (xs.map fun x => D.bl (f x)) = some (xs.map f)
  | [] => rfl
  | x :: xs => by rw [List.map_cons, blsD, blsD_map f xs]; rfl
def gAll : List D → (SV → Prop) → Prop
  | [.lst xs], Q => ∃ bs, blsD xs = some bs ∧ Q (.tr (.bl (bs.all id)))
  | _, _ => False
theorem cw_all (hc : X.calm = true) : CallW X (.builtin "all") gAll := by
  intro H0 Hs G H vs svs Qs Q ok r q k
  unfold gAll at q
  split at q
  · rename_i xs h
    obtain ⟨bs, hb, q⟩ := q
    obtain ⟨v, sv, rfl, rfl, e, rv⟩ := repl1 r h
    obtain ⟨a, ws, rfl, ea, rw_⟩ := rv.lst ok e
    rw [blsD_eq hb] at rw_
    rw [rw_.map_bl] at ea
    exact ⟨_, cr_all hc, a, bs, rfl, .of ea, kq_tr (d := .bl _) k ok rfl q⟩
  · exact q.elim
end
end VT
namespace VT
open PySem PySem.Spec PyProof.Rows L2
inductive Ty where
  | int | str | bool | list | tuple | dict
@[simp] def Ty.nm : Ty → String
  | .int => "int" | .str => "str" | .bool => "bool" | .list => "list" | .tuple => "tuple" | .dict => "dict"
def D.isT : D → Ty → Bool
  | .bl _, .bool | .bl _, .int => true
  | .int _, .int => true
  | .str _, .str => true
  | .lst _, .list => true
  | .tup _, .tuple => true
  | .dic _, .dict | .dit _, .dict => true
  | _, _ => false
section
variable {X : Cx} {EX : EXT} {H0 Hs H : Hp} {G : Gh} {v : V} {sv : SV}
theorem isT_kit (d : D) (T : Ty) (n : String) (e : d.kind = some n) : kitB n T.nm = some (d.isT T) := by
  cases d <;> first
    | (cases e; done)
    | (cases e; cases T <;> (simp only [D.isT, Ty.nm]; decide +kernel))
@[simp] def gIsi (T : Ty) (g : GE) : GE := fun S Q => g S fun sv => sv.d.kind.isSome = true ∧ Q (.tr (.bl (sv.d.isT T)))
theorem ve_isi (T : Ty) {e : Expr} {g : GE} {x : Str} {p p2 pos : Pos} (he : VE X EX e g) (gI : Gl X "isinstance") (mI : X.mg "isinstance" = none) (gT : Gl X x) (mT : X.mg x = none) (hT : bootBuiltins x = some (.type T.nm)) (hn : x ≠ "__name__" := by decide) (hd : (x == ("__debug__" : Str)) = false := by decide)
    (h1 : starEach [e, .Name x p2] X.env = (false, eval e X.env) :: starEach [.Name x p2] X.env := by rfl) (h2 : starEach [.Name x p2] X.env = (false, eval (.Name x p2) X.env) :: starEach [] X.env := by rfl)
    (hpl : (backTo pos (starEach [.Name x p2] X.env)).any (·.1) = false := by rfl) : VE X EX (.Call (.Name "isinstance" p) [e, .Name x p2] [] pos) (gIsi T g) := by
  refine ⟨fun G0 H0 tk => peMono (pe_callB call_isi gI mI (by decide +kernel) (pa_cons (he.pe G0 H0 tk) (pa_cons (pe_bltn (v := .ty T.nm) gT mT hT rfl hn hd) pa_nil h2) h1) (by decide) (by decide) h1 hpl) fun σ H Q ⟨G, S, Qs, R, q, k⟩ => ?_⟩
  refine ⟨G, S, _, R, q, fun v H1 G1 sv E1 r1 q1 => ?_⟩
  obtain ⟨hk, q1⟩ := q1
  obtain ⟨n, hn⟩ := Option.isSome_iff_exists.mp hk
  exact ⟨v, .ty T.nm, .type n, .type T.nm, _, rfl, .ty _, r1.ty E1.ok hn, kit_ty (isT_kit _ T n hn), kq_tr (d := .bl _) (kq_back E1 k) E1.ok rfl q1⟩
def D.tru : D → Option Bool
  | .non => some false
  | .bl b => some b
  | .int i => some (i != 0)
  | .str x => some (x.length != 0)
  | .lst xs => some (!xs.isEmpty)
  | .tup xs => some (!xs.isEmpty)
  | .dic kvs => some (!kvs.isEmpty)
  | _ => none
@[simp] def gTru (g : GE) : GT := fun S Q => g S fun sv => ∃ k, sv.d.tru = some k ∧ Q k
theorem isEmpty_len {α β : Type} {xs : List α} {ys : List β} (h : xs.length = ys.length) : xs.isEmpty = ys.isEmpty := by
  cases xs <;> cases ys <;> simp_all
theorem repk_len {F : Hp} : ∀ {ds : List (Key × D)} {vs : List (Key × V)}, repk F ds vs → vs.length = ds.length
  | [], _, r => by rw [show _ = [] from r]; rfl
  | (_, _) :: _, _, ⟨v, r, e, _, z⟩ => by rw [e, List.length_cons, List.length_cons, repk_len z]
def TruL (K : PySem.W.Frag) (x : V) (H : Hp) (k : Bool) : Prop := TruV K x H k ∨ ∃ p kvs, x = .ref p ∧ Rd H p (.dK kvs) ∧ k = !kvs.isEmpty
theorem tru_okL : TruR X (fun x H Q => ∃ k, TruL X.K x H k ∧ Q k H) := by
  intro pins s σ H x v Q I rx h
  obtain ⟨k, e | ⟨p, kvs, rfl, e, rfl⟩, q⟩ := h
  · exact tru_ok pins s σ H x v Q I rx ⟨k, e, q⟩
  · cases rx
    have hl := line63
    obtain ⟨hz, hS, vs, r, m⟩ := dk_rd I.hok e
    have hlen : kvs.length = vs.length := Paired.length r
    exact wpAny_truthy_dict hS m (by omega) ⟨H, I.tok _, by rw [isEmpty_kv r]; exact q⟩
theorem pt_truthL {a : Expr} {ta : TE} (ha : PE X a ta) (he : ∀ whole, isTrue a X.env whole = (do let v ← whole; standAt a.pos; holding [v] (truthy v))) :
    PT X a (fun σ H Q => ta σ H fun x H' => ∃ k, TruL X.K x H' k ∧ Q k H') := by
  refine ⟨fun pins s σ H Q I h => ?_⟩
  exact isTrue_plain (thn (ha.run pins s σ H _ I h) fun v s1 ⟨x, H1, I1, r1, q1⟩ => tru_okL pins s1 σ H1 x v Q I1 r1 q1) (he _)
theorem vc_tru {e : Expr} {g : GE} (h : VE X EX e g) (he : ∀ whole, isTrue e X.env whole = (do let v ← whole; standAt e.pos; holding [v] (truthy v)) := by intro _; rfl) : VC X EX e (gTru g) := by
  refine ⟨fun G0 H0 tk => ptMono (pt_truthL (h.pe G0 H0 tk) he) fun σ H Q ⟨G, S, Qs, R, q, k⟩ => ?_⟩
  refine ⟨G, S, _, R, q, fun v H1 G1 sv E1 r1 q1 => ?_⟩
  obtain ⟨b, hb, q1⟩ := q1
  refine ⟨b, ?_, k b H1 G1 E1 q1⟩
  cases hd : sv.d with
  | non => rw [hd] at hb; cases hb; rw [r1.non hd]; exact .inl rfl
  | bl b => rw [hd] at hb; cases hb; rw [r1.bl hd]; exact .inl rfl
  | int b => rw [hd] at hb; cases hb; rw [r1.int hd]; exact .inl rfl
  | str x =>
    rw [hd] at hb
    cases hb
    rw [(r1.str hd).1]
    refine .inl ⟨(r1.str hd).2.2, ?_⟩
    show (x.length != 0) = ((x.length : Int) != 0)
    cases x.length <;> rfl
  | lst xs =>
    rw [hd] at hb
    cases hb
    obtain ⟨a, vs, rfl, ea, r⟩ := r1.lst E1.ok hd
    exact .inl (.inl ⟨vs, .of ea, by rw [isEmpty_len r.length]⟩)
  | tup xs =>
    rw [hd] at hb
    cases hb
    obtain ⟨a, vs, rfl, ea, r⟩ := r1.tup E1.ok hd
    exact .inl (.inr (.inl ⟨vs, .inl ea, by rw [isEmpty_len r.length]⟩))
  | dic xs =>
    rw [hd] at hb
    cases hb
    obtain ⟨a, vs, rfl, ea, r⟩ := r1.dic E1.ok hd
    exact .inr ⟨a, vs, rfl, ea, by rw [isEmpty_len (repk_len r)]⟩
  | dit _ => rw [hd] at hb; cases hb
  | ins _ _ | exn _ _ | fn _ _ => rw [hd] at hb; cases hb
  | opq => rw [hd] at hb; cases hb
def gIxD (x y : D) (Q : SV → Prop) : Prop := match x, y with
  | .lst xs, .int i => ∃ d, atI xs i = some d ∧ Q (.tr d)
  | .tup xs, .int i => ∃ d, atI xs i = some d ∧ Q (.tr d)
  | .str z, .int i => ∃ c, atI z.cps.toList i = some c ∧ Q (.tr (.str ⟨#[c]⟩))
  | _, _ => False
theorem reps_at {F : Hp} {ds : List D} {vs : List V} {i : Int} {d : D} (r : reps F ds vs) (h : atI ds i = some d) : ∃ v, atI vs i = some v ∧ rep F d v := by
  unfold atI at h ⊢
  rw [r.length]
  cases e : ixN ds.length i with
  | none => rw [e] at h; cases h
  | some j =>
    rw [e] at h
    exact r.get h
theorem okS_one {z : Str} {c : Nat} {i : Int} (h : okS z) (k : atI z.cps.toList i = some c) : okS ⟨#[c]⟩ := by
  obtain ⟨h1, h2⟩ := h
  refine ⟨?_, by show 1 ≤ sizeLine; decide⟩
  have hm : c ∈ z.cps.toList := by
    unfold atI at k
    cases e : ixN z.cps.toList.length i with
    | none => rw [e] at k; cases k
    | some j => rw [e] at k; exact List.mem_of_getElem? k
  have hc : c < 0x110000 := by
    have h1 : z.cps.all (· < 0x110000) = true := h1
    rw [Array.all_eq_true_iff_forall_mem] at h1
    have := h1 c (by simpa using hm)
    simpa using this
  show (#[c] : Array Nat).all (· < 0x110000) = true
  simp [hc]
theorem ixr_any : IxR X (fun x y H Q => ∃ r, IxR X r ∧ r x y H Q) := fun a b pins s σ H x y v u Q I rx ry ⟨_, h, q⟩ hs => h a b pins s σ H x y v u Q I rx ry q hs
def IxW (X : Cx) (g : D → D → (SV → Prop) → Prop) : Prop :=
  ∀ (H0 Ha Hb : Hp) (G : Gh) (H : Hp) (x y : V) (sx sy : SV) (Qs : SV → Prop) (Q : VK), OkG G H → RepV H0 Ha G H x sx → RepV H0 Hb G H y sy → g sx.d sy.d Qs → KQ H0 G H Qs Q → ∃ r, IxR X r ∧ r x y H Q
theorem iw_seq : IxW X gIxD := by
  intro H0 Ha Hb G H x y sx sy Qs Q ok r1 r2 q2 kk
  unfold gIxD at q2
  split at q2
  · rename_i xs i hx hy
    obtain ⟨d, hd, q2⟩ := q2
    obtain ⟨a, vs, rfl, ea, r⟩ := r1.lst ok hx
    obtain ⟨w, hw, rw_⟩ := reps_at r hd
    exact ⟨_, ix_list, a, vs, i, w, rfl, r2.int hy, .of ea, hw, kq_tr kk ok rw_ q2⟩
  · rename_i xs i hx hy
    obtain ⟨d, hd, q2⟩ := q2
    obtain ⟨a, vs, rfl, ea, r⟩ := r1.tup ok hx
    obtain ⟨w, hw, rw_⟩ := reps_at r hd
    exact ⟨_, ix_tup, a, vs, i, w, rfl, r2.int hy, .inl ea, hw, kq_tr kk ok rw_ q2⟩
  · rename_i z i hx hy
    obtain ⟨c, hc, q2⟩ := q2
    obtain ⟨rfl, hz⟩ := r1.str hx
    exact ⟨_, ix_str, z, i, c, rfl, r2.int hy, hz.2, hc, kq_tr (d := .str _) kk ok ⟨rfl, okS_one hz hc⟩ q2⟩
  · exact q2.elim
theorem ve_ixW {g : D → D → (SV → Prop) → Prop} (hw : IxW X g) {a b : Expr} {ga gb : GE} {pos : Pos} (ha : VE X EX a ga) (hb : VE X EX b gb) (hs : PlainIx b := by exact fun _ _ => rfl) : VE X EX (.Subscript a b pos) (gOp g ga gb) := by
  refine ⟨fun G0 H0 tk => peMono (pe_ix ixr_any (ha.pe G0 H0 tk) (hb.pe G0 H0 tk) hs) fun σ H Q ⟨G, S, Qs, R, q, k⟩ => ?_⟩
  refine ⟨G, S, _, R, q, fun x H1 G1 sx E1 r1 q1 => ?_⟩
  refine ⟨G1, S, _, R.go E1, q1, fun y H2 G2 sy E2 r2 q2 => ?_⟩
  exact hw H0 _ _ G2 H2 x y sx sy Qs Q E2.ok (r1.ext E2) r2 q2 (kq_back (E1.trans E2) k)
abbrev GO := S → (Option Int → Prop) → Prop
@[simp] def goNone : GO := fun _ Q => Q none
@[simp] def goSome (g : GE) : GO := fun S Q => g S fun sv => ∃ i, sv.d = .int i ∧ Q (some i)
def cutD {α : Type} (xs : List α) (lo hi : Option Int) : List α := (xs.drop (HT.sIx xs.length 0 lo)).take (HT.sIx xs.length xs.length hi - HT.sIx xs.length 0 lo)
def gSlD (x : D) (lo hi : Option Int) (Q : SV → Prop) : Prop := match x with
  | .lst xs => Q (.own (.lst (cutD xs lo hi)))
  | .tup xs => Q (.tr (.tup (cutD xs lo hi)))
  | .str z => Q (.tr (.str (cutS z lo hi)))
  | _ => False
@[simp] def gSl (g : GE) (gl gh : GO) : GE := fun S Q => g S fun x => gl S fun lo => gh S fun hi => gSlD x.d lo hi Q
end
end VT
namespace VT
open PySem PySem.Spec PyProof.Rows L2
def gMul : D → D → (SV → Prop) → Prop
  | .int i, .int j, Q => CMulW i j ∧ Q (.tr (.int (i * j)))
  | .lst xs, .int k, Q => (0 ≤ k ∧ k < 2 ^ 40 ∧ xs.length * k.toNat ≤ sizeLine) ∧ Q (.own (.lst (List.replicate k.toNat xs).flatten))
  | .str x, .int k, Q => (0 ≤ k ∧ k ≤ 1000 ∧ x.length ≤ 1000) ∧ Q (.tr (.str (Txt.mul x k)))
  | _, _, _ => False
theorem reps_rep {F : Hp} {ds : List D} {vs : List V} (r : reps F ds vs) : ∀ n : Nat, reps F (List.replicate n ds).flatten (List.replicate n vs).flatten
  | 0 => rfl
  | n + 1 => by
    rw [List.replicate_succ, List.replicate_succ, List.flatten_cons, List.flatten_cons]
    exact r.append (reps_rep r n)
theorem arr_rep_all (p : Nat → Bool) (a : Array Nat) (h : a.all p = true) : ∀ (n : Nat) (b : Array Nat), b.all p = true → ((List.replicate n a).foldl (· ++ ·) b).all p = true
  | 0, b, k => k
  | n + 1, b, k => by
    rw [List.replicate_succ, List.foldl_cons]
    exact arr_rep_all p a h n (b ++ a) (by rw [Array.all_append, k, h]; rfl)
theorem arr_rep_size (a : Array Nat) : ∀ (n : Nat) (b : Array Nat), ((List.replicate n a).foldl (· ++ ·) b).size = b.size + n * a.size
  | 0, b => by simp
  | n + 1, b => by
    rw [List.replicate_succ, List.foldl_cons, arr_rep_size a n, Array.size_append, Nat.succ_mul]
    omega
theorem okS_mul {x : Str} {k : Int} (h : okS x) (h0 : 0 ≤ k) (h1 : k ≤ 1000) (h2 : x.length ≤ 1000) : okS (Txt.mul x k) := by
  unfold Txt.mul
  split
  · exact ⟨by decide +kernel, by decide +kernel⟩
  · split
    · exact h
    · refine ⟨arr_rep_all _ _ h.1 _ _ (by simp), ?_⟩
      show ((List.replicate k.toNat x.cps).foldl (· ++ ·) #[]).size ≤ sizeLine
      rw [arr_rep_size]
      have h2 : x.cps.size ≤ 1000 := h2
      have h3 : k.toNat ≤ 1000 := by omega
      have h4 := Nat.mul_le_mul h3 h2
      have h5 := sizeLine_eq
      show (#[] : Array Nat).size + _ ≤ _
      simp only [List.size_toArray, List.length_nil]
      omega
theorem mulOk {x : Str} {k : Int} (h0 : 0 ≤ k) (h1 : k ≤ 1000) (h2 : x.length ≤ 1000) : PySem.MulOk x k := by
  refine ⟨?_, fun hk _ => ?_, fun hk _ => ?_⟩
  · rw [decide_eq_false (by omega), decide_eq_false (by omega)]
    rfl
  · have e : (9223372036854775 : Int) ≤ (2 ^ 63 - 1) / k := by
      refine Int.le_ediv_of_mul_le (by omega) ?_
      omega
    omega
  · have h3 : k.toNat ≤ 1000 := by omega
    have h4 := Nat.mul_le_mul h2 h3
    have h5 := sizeLine_eq
    exact decide_eq_false (by omega)
section
variable {X : Cx} {EX : EXT}
theorem op_mulS : OpR X (binaryOp .Mult) (fun x y H Q => ∃ z k, x = .str z ∧ y = .int k ∧ PySem.MulOk z k ∧ Q (.str (Txt.mul z k)) H) := by
  intro pins s σ H x y v u Q I rx ry h
  obtain ⟨z, k, rfl, rfl, hk, q⟩ := h
  obtain ⟨t, rfl⟩ := rx
  obtain ⟨t', rfl⟩ := ry
  exact PySem.SB.mul hk fun t'' tk => ⟨.str _, H, I.tok tk, ⟨t'', rfl⟩, q⟩
theorem ow_mul : OpW X (binaryOp .Mult) gMul := by
  intro H0 Ha Hb G H x y sx sy Qs Q ok rx ry q k
  unfold gMul at q
  split at q
  · rename_i i j hx hy
    cases rx.int hx
    cases ry.int hy
    exact ⟨_, op_mulW, i, j, rfl, rfl, q.1, kq_tr (d := .int _) k ok rfl q.2⟩
  · rename_i xs j hx hy
    obtain ⟨a, vs, rfl, ea, r⟩ := rx.lst ok hx
    cases ry.int hy
    exact ⟨_, op_rep, a, j, vs, rfl, rfl, ea, by omega, by have := q.1.2.1; omega, by rw [r.length]; exact q.1.2.2, fun p hp => kq_lst k ok hp (reps_rep r _) q.2⟩
  · rename_i z j hx hy
    obtain ⟨rfl, hz⟩ := rx.str hx
    cases ry.int hy
    exact ⟨_, op_mulS, z, j, rfl, rfl, mulOk q.1.1 q.1.2.1 q.1.2.2, kq_tr (d := .str _) k ok ⟨rfl, okS_mul hz q.1.1 q.1.2.1 q.1.2.2⟩ q.2⟩
  · exact q.elim
def tyD (T : String) : D → Prop
  | .str _ => T = "str"
  | .lst _ => T = "list"
  | _ => False
@[simp] def gBM (T : String) (g : D → List D → (SV → Prop) → Prop) (go : GE) (ga : GA) : GE := fun S Q => go S fun sx => tyD T sx.d ∧ ga S fun svs => g sx.d (svs.map SV.d) Q
end
end VT
namespace VT
open PySem PySem.Spec PyProof.Rows L2
theorem set_slot {α : Type} {l : List α} {i j : Nat} {a b : α} (h : (l.set i a)[j]? = some b) : (i = j ∧ b = a ∧ i < l.length) ∨ (i ≠ j ∧ l[j]? = some b) := by
  by_cases e : i = j
  · subst e
    by_cases hl : i < l.length
    · rw [List.getElem?_set_self hl] at h
      exact .inl ⟨rfl, (Option.some.inj h).symm, hl⟩
    · rw [List.getElem?_eq_none (by simpa using hl)] at h
      cases h
  · rw [List.getElem?_set_ne e] at h
    exact .inr ⟨e, h⟩
theorem Rel.set {G0 G : Gh} {H0 H Hs : Hp} {σ : L2.St} {S : S} {v : V} {sv : SV} (R : Rel G0 H0 G H σ S) (i : Nat) (r : RepV H0 Hs G H v sv) (hok : sv.ok)
    (h0 : ∀ b, Hs b = none → H0 b = none) (hd : ∀ (j : Nat) (sw : SV) (w : V) (b : Addr), j ≠ i → S[j]? = some (some sw) → σ[j]? = some (some w) → Owns H v sv b → ¬ Owns H w sw b) :
    Rel G0 H0 G H (σ.set i (some v)) (S.set i (some sv)) where
  ext := R.ext
  len := by rw [List.length_set, List.length_set, R.len]
  slot := fun j w e => by
    rcases set_slot e with ⟨rfl, e, hl⟩ | ⟨hne, e⟩
    · cases e
      exact ⟨v, by rw [List.getElem?_set_self (by rw [← R.len]; exact hl)], r.back h0⟩
    · obtain ⟨u, e1, r1⟩ := R.slot j w e
      exact ⟨u, by rw [List.getElem?_set_ne hne]; exact e1, r1⟩
  sep := fun j l sj sl u w b hjl e1 e2 e3 e4 o1 o2 => by
    rcases set_slot e1 with ⟨rfl, e1, hl⟩ | ⟨hne, e1⟩
    · rcases set_slot e2 with ⟨rfl, e2, _⟩ | ⟨hne2, e2⟩
      · exact hjl rfl
      · rw [List.getElem?_set_self (by rw [← R.len]; exact hl)] at e3
        rw [List.getElem?_set_ne hne2] at e4
        cases e1
        cases e3
        exact hd l sl w b (Ne.symm hne2) e2 e4 o1 o2
    · rw [List.getElem?_set_ne hne] at e3
      rcases set_slot e2 with ⟨rfl, e2, hl⟩ | ⟨hne2, e2⟩
      · rw [List.getElem?_set_self (by rw [← R.len]; exact hl)] at e4
        cases e2
        cases e4
        exact hd j sj u b (Ne.symm hne) e1 e3 o2 o1
      · rw [List.getElem?_set_ne hne2] at e4
        exact R.sep j l sj sl u w b hjl e1 e2 e3 e4 o1 o2
  nopk := fun j w e => by
    rcases set_slot e with ⟨rfl, e, hl⟩ | ⟨hne, e⟩
    · cases e; exact hok
    · exact R.nopk j w e
theorem Rel.setE {G0 G G' : Gh} {H0 H H' : Hp} {σ : L2.St} {S : S} {v : V} {sv : SV} (R : Rel G0 H0 G H σ S) (E : Ext G H G' H') (i : Nat) (r : RepV H0 H G' H' v sv) (hok : sv.ok) : Rel G0 H0 G' H' (σ.set i (some v)) (S.set i (some sv)) := by
  refine (R.go E).set i r hok (fun b z => R.ext.dom z) fun j sw w b _ e1 e2 o1 o2 => ?_
  obtain ⟨w', e3, r3⟩ := R.slot j sw e1
  rw [e2] at e3
  cases e3
  have o3 : Owns H w sw b := o2.at r3 fun b o => (E.mine (r3.owns o).1 (r3.owns o).2).2
  exact (r3.owns o3).2.ne (r.owns o1).1.1
theorem Rel.forget {G0 G : Gh} {H0 H : Hp} {σ : L2.St} {S : S} (R : Rel G0 H0 G H σ S) (i : Nat) : Rel G0 H0 G H (σ.set i none) (S.set i none) where
  ext := R.ext
  len := by rw [List.length_set, List.length_set, R.len]
  slot := fun j w e => by
    rcases set_slot e with ⟨rfl, e, hl⟩ | ⟨hne, e⟩
    · cases e
    · obtain ⟨u, e1, r1⟩ := R.slot j w e
      exact ⟨u, by rw [List.getElem?_set_ne hne]; exact e1, r1⟩
  sep := fun j l sj sl u w b hjl e1 e2 e3 e4 o1 o2 => by
    rcases set_slot e1 with ⟨rfl, e1, hl⟩ | ⟨hne, e1⟩
    · cases e1
    · rcases set_slot e2 with ⟨rfl, e2, hl⟩ | ⟨hne2, e2⟩
      · cases e2
      · rw [List.getElem?_set_ne hne] at e3
        rw [List.getElem?_set_ne hne2] at e4
        exact R.sep j l sj sl u w b hjl e1 e2 e3 e4 o1 o2
  nopk := fun j d e => by
    rcases set_slot e with ⟨rfl, e, hl⟩ | ⟨hne, e⟩
    · cases e
    · exact R.nopk j d e
@[simp] def wipeS (S : S) : List Nat → VT.S
  | [] => S
  | v :: vs => (wipeS S vs).set v none
theorem Rel.wipe {G0 G : Gh} {H0 H : Hp} {σ : L2.St} {S : S} (R : Rel G0 H0 G H σ S) : ∀ vs : List Nat, Rel G0 H0 G H (wipe σ vs) (wipeS S vs)
  | [] => R
  | v :: vs => (R.wipe vs).forget v
theorem Off.refl {is : List Nat} {σ : L2.St} : Off is σ σ := ⟨rfl, fun _ _ => rfl⟩
theorem Off.trans {is : List Nat} {σ σ1 σ2 : L2.St} (a : Off is σ σ1) (b : Off is σ1 σ2) : Off is σ σ2 := ⟨b.1.trans a.1, fun j h => (b.2 j h).trans (a.2 j h)⟩
theorem Off.set {i : Nat} {x : Option V} {σ : L2.St} : Off [i] σ (σ.set i x) := ⟨List.length_set, fun j h => List.getElem?_set_ne (fun e => h (by simp [e]))⟩
theorem wipe_get : ∀ (vs : List Nat) (σ : L2.St) (j : Nat), (wipe σ vs)[j]? = if j ∈ vs ∧ j < σ.length then some none else σ[j]?
  | [], σ, j => by simp [wipe]
  | v :: vs, σ, j => by
    rw [wipe]
    by_cases e : v = j
    · subst e
      by_cases hl : v < σ.length
      · rw [List.getElem?_set_self (by rw [wipe_length]; exact hl), if_pos ⟨by simp, hl⟩]
      · rw [List.getElem?_eq_none (by rw [List.length_set, wipe_length]; omega), if_neg (fun z => hl z.2), List.getElem?_eq_none (by omega)]
    · rw [List.getElem?_set_ne e, wipe_get vs σ j]
      have h1 : (j ∈ v :: vs ∧ j < σ.length) ↔ (j ∈ vs ∧ j < σ.length) := by
        rw [List.mem_cons]
        constructor
        · rintro ⟨z | z, k⟩
          · exact (e z.symm).elim
          · exact ⟨z, k⟩
        · exact fun z => ⟨.inr z.1, z.2⟩
      simp only [h1]
theorem Off.wiped {vs : List Nat} {σ σ' : L2.St} (o : Off vs (L2.wipe σ vs) σ') : L2.wipe σ' vs = L2.wipe σ vs := by
  refine List.ext_getElem? fun j => ?_
  have hl : σ'.length = σ.length := o.1.trans (wipe_length σ vs)
  rw [wipe_get, wipe_get, hl]
  by_cases h : j ∈ vs ∧ j < σ.length
  · rw [if_pos h, if_pos h]
  · rw [if_neg h, if_neg h]
    by_cases hj : j ∈ vs
    · have h2 : σ.length ≤ j := by
        have : ¬ j < σ.length := fun z => h ⟨hj, z⟩
        omega
      rw [List.getElem?_eq_none (by omega), List.getElem?_eq_none h2]
    · rw [o.2 j hj, wipe_get, if_neg (fun z => hj z.1)]
abbrev GG := D → S → (S → Prop) → Prop
def TGV (G0 : Gh) (H0 : Hp) (is : List Nat) (g : GG) : TG := fun v σ H Q => ∃ G S d Qs, Rel G0 H0 G H σ S ∧ rep G.F d v ∧ g d S Qs ∧ ∀ σ' S', Rel G0 H0 G H σ' S' → Off is σ σ' → Qs S' → Q σ' H
structure VG (X : Cx) (tg : Expr) (is : List Nat) (g : GG) : Prop where
  pg : ∀ G0 H0, PG X tg (TGV G0 H0 is g)
theorem pgMono {X : Cx} {tg : Expr} {t t' : TG} (h : PG X tg t) (k : ∀ v σ H Q, t' v σ H Q → t v σ H Q) : PG X tg t' := ⟨fun pins s σ H v u Q I r q => h.run pins s σ H v u Q I r (k v σ H Q q)⟩
@[simp] def ggName (i : Nat) : GG := fun d S Q => Q (S.set i (some (.tr d)))
@[simp] def ggAll : List Nat → List D → S → S
  | i :: is, d :: ds, S => ggAll is ds (S.set i (some (.tr d)))
  | _, _, S => S
@[simp] def ggTup (is : List Nat) : GG := fun d S Q => ∃ ds, d = .tup ds ∧ ds.length = is.length ∧ Q (ggAll is ds S)
section
variable {X : Cx} {EX : EXT} {pos : Pos}
theorem vg_name {i : Nat} {x : Str} (hN : X.N.Nodup) (hi : X.N[i]? = some x) (hx : Loc X.env.scope x) (hf : X.fn x = true ∨ X.env.scope.names.lookup x = some .local := by first | exact .inl rfl | exact .inr rfl | assumption) : VG X (.Name x pos) [i] (ggName i) :=
  ⟨fun G0 H0 => pgMono (pg_name hN hi hx hf) fun v σ H Q ⟨G, S, d, Qs, R, r, q, k⟩ => k _ _ (R.set (Hs := H0) i (sv := .tr d) r trivial (fun _ z => z) fun _ _ _ _ _ _ _ o => o.elim) Off.set q⟩
structure VGs (X : Cx) (ts : List Expr) (is : List Nat) : Prop where
  pgs : ∀ G0 H0, PGs X ts (fun vs σ H Q => ∃ G S ds, Rel G0 H0 G H σ S ∧ reps G.F ds vs ∧ ds.length = is.length ∧ ∀ σ' S', Rel G0 H0 G H σ' S' → Off is σ σ' → S' = ggAll is ds S → Q σ' H)
theorem pgsMono {ts : List Expr} {t t' : TGs} (h : PGs X ts t) (k : ∀ v σ H Q, t' v σ H Q → t v σ H Q) : PGs X ts t' := ⟨fun pins s σ H v u Q I r q => h.run pins s σ H v u Q I r (k v σ H Q q)⟩
theorem vgs_nil : VGs X [] [] := ⟨fun G0 H0 => pgsMono pgs_nil fun vs σ H Q ⟨G, S, ds, R, r, hl, k⟩ => by
  have e : ds = [] := List.eq_nil_of_length_eq_zero hl
  subst e
  exact ⟨r, k σ S R Off.refl rfl⟩⟩
theorem vgs_cons {i : Nat} {is : List Nat} {x : Str} {es : List Expr} {p : Pos} (hN : X.N.Nodup) (hi : X.N[i]? = some x) (hx : Loc X.env.scope x) (h2 : VGs X es is) (hf : X.fn x = true ∨ X.env.scope.names.lookup x = some .local := by first | exact .inl rfl | exact .inr rfl | assumption)
    (hs : (assignEach (.Name x p :: es) X.env).map (·.2) = assign (.Name x p) X.env :: (assignEach es X.env).map (·.2) := by rfl) : VGs X (.Name x p :: es) (i :: is) :=
  ⟨fun G0 H0 => pgsMono (pgs_cons (pg_name hN hi hx hf) (h2.pgs G0 H0) hs) fun vs σ H Q ⟨G, S, ds, R, r, hl, k⟩ => by
    cases ds with
    | nil => cases hl
    | cons d ds =>
      obtain ⟨v, t, rfl, rv, rt⟩ := r
      refine ⟨v, t, rfl, G, _, ds, R.set (Hs := H0) i (sv := .tr d) rv trivial (fun _ z => z) (fun _ _ _ _ _ _ _ o => o.elim), rt, by simpa using hl, fun σ' S' R' o e => k σ' S' R' ?_ e⟩
      exact (Off.set.mono (by simp)).trans (o.mono (by simp; exact fun _ h => .inr h))⟩
theorem vg_tup {es : List Expr} {kk : Nat} {is : List Nat} (hc : X.calm = true) (h : VGs X es is) (hn : (assignEach es X.env).length = is.length := by rfl) (hst : (assignEach es X.env).findIdx? (·.1) = none := by rfl) : VG X (.Tuple es kk pos) is (ggTup is) :=
  ⟨fun G0 H0 => pgMono (pg_tup hc (h.pgs G0 H0) hn hst) fun v σ H Q ⟨G, S, d, Qs, R, r, ⟨ds, e, hl, q⟩, k⟩ => by
    subst e
    obtain ⟨a, vs, rfl, ea, rs⟩ := r
    exact ⟨a, vs, rfl, .inl (rdUp R.ok.sub ea), by rw [rs.length, hl], G, S, ds, R, rs, hl, fun σ' S' R' o e => k σ' S' R' o (by rw [e]; exact q)⟩⟩
end
abbrev GI := S → (List D → Prop) → Prop
def Yields (c : Bool) (G0 : Gh) (H0 : Hp) (G : Gh) (H : Hp) (J : It) (ds : List D) : Prop := ∀ G2 H2, Later c G0 H0 G H G2 H2 → (∀ i, ds.length ≤ i → J.stop i H2) ∧
  ∀ i d, ds[i]? = some d → J.go i H2 ∧ ∀ x H3, J.yld i H2 x H3 → ∃ G3, Ext G2 H2 G3 H3 ∧ rep G3.F d x
def TIV (c : Bool) (G0 : Gh) (H0 : Hp) (gi : GI) : TI := fun σ H R => ∃ G S Qs, Rel G0 H0 G H σ S ∧ gi S Qs ∧ ∀ J H' G' ds, Ext G H G' H' → Yields c G0 H0 G' H' J ds → Qs ds → R J H'
structure VI (c : Bool) (X : Cx) (EX : EXT) (tg iter : Expr) (gi : GI) : Prop where
  pi : ∀ G0 H0, Lk X EX G0 H0 → PI X tg iter (TIV c G0 H0 gi)
theorem piMono {X : Cx} {tg it : Expr} {t t' : TI} (h : PI X tg it t) (k : ∀ σ H Q, t' σ H Q → t σ H Q) : PI X tg it t' := ⟨fun pins s σ H R I q => h.run pins s σ H R I (k σ H R q)⟩
theorem RepV.later {c : Bool} {G0 G G2 : Gh} {H0 Hs H H2 : Hp} {v : V} {sv : SV} {ds : List D} (E0 : Ext G0 H0 G H) (r : RepV H0 Hs G H v sv) (hs : sv.stays c) (e : sv.d = .lst ds) (l : Later c G0 H0 G H G2 H2) :
    ∃ a vs, v = .ref a ∧ H2 a = some (.lst vs) ∧ reps G2.F ds vs ∧ H a = some (.lst vs) := by
  cases sv with
  | tr d =>
    cases e
    obtain ⟨a, vs, rfl, ea, r⟩ := r
    exact ⟨a, vs, rfl, l.ok.sub _ _ (l.frz _ _ ea), reps.mono l.frz _ _ r, E0.ok.sub _ _ ea⟩
  | own d =>
    cases e
    have hc : c = true := hs
    subst hc
    obtain ⟨a, rfl, _, _, nb, vs, ea, r⟩ := r
    exact ⟨a, vs, rfl, Ext.same l _ _ ea nb nofun, reps.mono l.frz _ _ r, ea⟩
  | pk d =>
    cases e
    have hc : c = true := hs
    subst hc
    obtain ⟨a, rfl, nb, vs, ea, r⟩ := r
    exact ⟨a, vs, rfl, Ext.same l _ _ ea nb nofun, reps.mono l.frz _ _ r, ea⟩
  | brw d =>
    cases e
    obtain ⟨a, rfl, h0, nb, vs, ea, r⟩ := r
    cases c with
    | true => exact ⟨a, vs, rfl, Ext.same l _ _ ea nb nofun, reps.mono l.frz _ _ r, ea⟩
    | false =>
      have nb0 : G0.pb ≠ some a := fun z => nb (E0.pb a z)
      obtain ⟨o, ho⟩ := Option.ne_none_iff_exists'.mp h0
      have nt : ∀ ps, o ≠ .tbl ps := fun ps z => by
        obtain ⟨ps', q⟩ := E0.tbl a ps (by rw [← z]; exact ho)
        rw [ea] at q
        cases q
      have e1 := E0.same a o ho nb0 nt
      rw [ea] at e1
      cases e1
      exact ⟨a, vs, rfl, l.1.same _ _ ho nb0 nofun, reps.mono l.frz _ _ r, ea⟩
  | bag | dob _ _ | tow _ _ _ _ | obj _ _ _ | pob _ _ | bob _ _ | exc _ _ _ _ | fn _ => exact hs.elim
  | tz _ => cases e
def D.items : D → Option (List D)
  | .lst ds => some ds
  | .tup ds => some ds
  | .str z => some (z.cps.toList.map fun c => .str ⟨#[c]⟩)
  | _ => none
@[simp] def giSeq (c : Bool) (g : GE) : GI := fun S Q => g S fun sv => ((∃ ds, sv.d = .lst ds) → sv.stays c) ∧ ∃ ds, sv.d.items = some ds ∧ Q ds
def rngD (lo : Int) (n : Nat) : List D := (List.range n).map fun i => D.int (lo + (i : Nat))
@[simp] def giR1 (ga : GA) : GI := fun S Q => ga S fun svs => ∃ n : Int, svs.map SV.d = [.int n] ∧ (-(2 ^ 62) ≤ n ∧ n < 2 ^ 62) ∧ Q (rngD 0 n.toNat)
@[simp] def giR2 (ga : GA) : GI := fun S Q => ga S fun svs => ∃ m n : Int, svs.map SV.d = [.int m, .int n] ∧ (-(2 ^ 62) ≤ m ∧ m < 2 ^ 62 ∧ -(2 ^ 62) ≤ n ∧ n < 2 ^ 62) ∧ Q (rngD m (n - m).toNat)
def zipD : List D → List D → List D
  | d :: ds, e :: es => .tup [d, e] :: zipD ds es
  | _, _ => []
def giZip (c : Bool) (ga : GA) : GI := fun S Q => ga S fun svs => ∃ sx sy, svs = [sx, sy] ∧ ((∃ ds es, sx.stays c ∧ sy.stays c ∧ sx.d = .lst ds ∧ sy.d = .lst es ∧ Q (zipD ds es)) ∨ (∃ ds es, sx.d = .tup ds ∧ sy.d = .tup es ∧ Q (zipD ds es)))
theorem zipD_get : ∀ {ds es : List D} {i : Nat} {d : D}, (zipD ds es)[i]? = some d → ∃ x y, d = .tup [x, y] ∧ ds[i]? = some x ∧ es[i]? = some y
  | d :: ds, e :: es, 0, _, h => by cases h; exact ⟨d, e, rfl, rfl, rfl⟩
  | d :: ds, e :: es, i + 1, _, h => by
    rw [zipD, List.getElem?_cons_succ] at h
    exact zipD_get (i := i) h
  | [], _, _, _, h => by simp [zipD] at h
  | _ :: _, [], _, _, h => by simp [zipD] at h
theorem zipD_len : ∀ (ds es : List D), (zipD ds es).length = min ds.length es.length
  | d :: ds, e :: es => by rw [zipD, List.length_cons, List.length_cons, List.length_cons, zipD_len ds es]; omega
  | [], _ => by simp [zipD]
  | _ :: _, [] => by simp [zipD]
section
variable {c : Bool} {X : Cx} {EX : EXT} {tg e : Expr} {g : GE} {ga : GA} {p pos tpos : Pos} {elts : List Expr} {kk : Nat}
theorem yields_pair {c : Bool} {G2 : Gh} {H2 H3 : Hp} {T : Addr} {x y : D} {v w : V} (ok : OkG G2 H2) (hT : H2 T = none) (rv : rep G2.F x v) (rw_ : rep G2.F y w) (e : H3 = upd H2 T (.tup [v, w])) : ∃ G3, Ext G2 H2 G3 H3 ∧ rep G3.F (.tup [x, y]) (.ref T) := by
  subst e
  refine ⟨_, ext_frz ok hT _, T, [v, w], rfl, .inl upd_same, ?_⟩
  exact ⟨v, [w], rfl, rep.mono (upd_mono (ok.nF hT)) _ _ rv, w, [], rfl, rep.mono (upd_mono (ok.nF hT)) _ _ rw_, rfl⟩
theorem yields_rng {G0 G : Gh} {H0 H : Hp} (lo : Int) (n : Nat) : Yields c G0 H0 G H (Itr lo n) (rngD lo n) := fun G2 H2 l => by
  refine ⟨fun i hi => ?_, fun i d hi => ?_⟩
  · rw [rngD, List.length_map, List.length_range] at hi
    exact hi
  · rw [rngD, List.getElem?_map] at hi
    by_cases h : i < n
    · rw [List.getElem?_range h] at hi
      cases hi
      refine ⟨h, fun x H3 y => ?_⟩
      obtain ⟨rfl, rfl⟩ := y
      exact ⟨G2, .refl l.ok, rfl⟩
    · rw [List.getElem?_eq_none (by simpa using h)] at hi
      cases hi
theorem vi_r1 {a : Expr} (hg : Gl X "range") (hm : X.mg "range" = none) (ha : VA X EX [a] ga) (hs : starEach [a] X.env = [(false, eval a X.env)] := by rfl) : VI c X EX tg (.Call (.Name "range" p) [a] [] pos) (giR1 ga) := by
  refine ⟨fun G0 H0 tk => piMono (pi_range1 hg hm (ha.pa G0 H0 tk) hs) fun σ H Q ⟨G, S, Qs, R, q, k⟩ => ?_⟩
  refine ⟨G, S, _, R, q, fun vs H1 G1 svs E1 r1 q1 => ?_⟩
  obtain ⟨n, hn, hb, q1⟩ := q1
  obtain ⟨v, sv, rfl, rfl, e, rv⟩ := repl1 r1 hn
  exact ⟨n, by rw [rv.int e], hb.1, hb.2, k _ _ _ _ E1 (yields_rng 0 _) q1⟩
theorem vi_zip {e2 : Expr} (hg : Gl X "zip") (hm : X.mg "zip" = none) (ha : VA X EX [e, e2] ga)
    (hs : starEach [e, e2] X.env = (false, eval e X.env) :: starEach [e2] X.env := by rfl) (hpl : (backTo pos (starEach [e2] X.env)).any (·.1) = false := by rfl) :
    VI c X EX (.Tuple elts kk tpos) (.Call (.Name "zip" p) [e, e2] [] pos) (giZip c ga) := by
  refine ⟨fun G0 H0 tk => piMono (RZ.pi_zipA hg hm (ha.pa G0 H0 tk) hs hpl) fun σ H Q ⟨G, S, Qs, R, q, k⟩ => ?_⟩
  refine ⟨G, S, _, R, q, fun vs H1 G1 svs E1 r1 q1 => ?_⟩
  obtain ⟨sx, sy, rfl, q1⟩ := q1
  cases r1 with
  | cons rx rr _ =>
    cases rr with
    | cons ry rr _ =>
      cases rr
      rcases q1 with ⟨ds, es, s1, s2, hx, hy, q1⟩ | ⟨ds, es, hx, hy, q1⟩
      · obtain ⟨a, vs, rfl, ea, ra⟩ := rx.lst E1.ok hx
        obtain ⟨b, ws, rfl, eb, rb⟩ := ry.lst E1.ok hy
        refine ⟨a, b, vs, ws, rfl, .inl ⟨.of ea, .of eb, k _ _ _ _ E1 (fun G2 H2 l => ?_) q1⟩⟩
        obtain ⟨a', vs', e', ea2, ra2, _⟩ := rx.later (R.ext.trans E1) s1 hx l
        cases e'
        obtain ⟨b', ws', e', eb2, rb2, _⟩ := ry.later (R.ext.trans E1) s2 hy l
        cases e'
        refine ⟨fun i hi => ⟨vs', ws', .of ea2, .of eb2, ?_⟩, fun i d hi => ?_⟩
        · rw [zipD_len] at hi
          rw [ra2.length, rb2.length]
          omega
        · obtain ⟨x, y, rfl, hxi, hyi⟩ := zipD_get hi
          obtain ⟨v, hv, rv⟩ := ra2.get hxi
          obtain ⟨w, hw, rw_⟩ := rb2.get hyi
          refine ⟨⟨vs', ws', v, w, .of ea2, .of eb2, hv, hw⟩, fun z H3 yl => ?_⟩
          obtain ⟨T, x', y', rfl, hT, eT, y1, y2⟩ := yl
          have h1 : x' = v := Option.some.inj ((y1 vs' (.of ea2)).symm.trans hv)
          have h2 : y' = w := Option.some.inj ((y2 ws' (.of eb2)).symm.trans hw)
          subst h1 h2
          exact yields_pair (c := true) l.ok hT rv rw_ eT
      · obtain ⟨a, vs, rfl, ea, ra⟩ := rx.tree hx (fun _ _ _ z => z) (fun z => nomatch z)
        obtain ⟨b, ws, rfl, eb, rb⟩ := ry.tree hy (fun _ _ _ z => z) (fun z => nomatch z)
        refine ⟨a, b, vs, ws, rfl, .inr ⟨.inl (rdUp E1.ok.sub ea), .inl (rdUp E1.ok.sub eb), k _ _ _ _ E1 (fun G2 H2 l => ?_) q1⟩⟩
        have ea2 := rdUp l.ok.sub (rdUp l.frz ea)
        have eb2 := rdUp l.ok.sub (rdUp l.frz eb)
        have ra2 := reps.mono l.frz _ _ ra
        have rb2 := reps.mono l.frz _ _ rb
        refine ⟨fun i hi => ⟨vs, ws, .inl ea2, .inl eb2, ?_⟩, fun i d hi => ?_⟩
        · rw [zipD_len] at hi
          rw [ra2.length, rb2.length]
          omega
        · obtain ⟨x, y, rfl, hxi, hyi⟩ := zipD_get hi
          obtain ⟨v, hv, rv⟩ := ra2.get hxi
          obtain ⟨w, hw, rw_⟩ := rb2.get hyi
          refine ⟨⟨vs, ws, v, w, .inl ea2, .inl eb2, hv, hw⟩, fun z H3 yl => ?_⟩
          obtain ⟨T, x', y', rfl, hT, eT, y1, y2⟩ := yl
          have h1 : x' = v := Option.some.inj ((y1 vs (.inl ea2)).symm.trans hv)
          have h2 : y' = w := Option.some.inj ((y2 ws (.inl eb2)).symm.trans hw)
          subst h1 h2
          exact yields_pair (c := true) l.ok hT rv rw_ eT
end
end VT
namespace VT
open PySem PySem.Spec PyProof.Rows L2
theorem contN.plain {F H : Hp} {a : Addr} {d : D} (h : contN F H a d) : Plain H a := h.1.plain
structure VCs (X : Cx) (EX : EXT) (ifs : List Expr) (g : GT) : Prop where
  pts : ∀ G0 H0, Lk X EX G0 H0 → PTs X ifs (TTV G0 H0 g)
@[simp] def gYes : GT := fun _ Q => Q true
section
variable {X : Cx} {EX : EXT}
theorem vcs_nil : VCs X EX [] gYes := ⟨fun G0 H0 tk => ⟨fun pins s σ H Q I ⟨G, S, Qs, R, q, k⟩ => pts_nil.run pins s σ H Q I (k true H G (.refl R.ok) q)⟩⟩
def gLc (gi : GI) (gg : GG) (gt : GT) (ge : GE) (vs : List Nat) : GE := fun S Q => gi S fun ds => ∃ W : List D → List D → Prop, W ds [] ∧ (∀ acc, W [] acc → Q (.own (.lst acc))) ∧
  ∀ d r acc, W (d :: r) acc → gg d (wipeS S vs) fun S2 => gt S2 fun b => if b = true then ge S2 fun sv => ∃ y, sv = .tr y ∧ acc.length < sizeLine ∧ W r (acc ++ [y]) else W r acc
theorem gLc_t {c : Bool} {gi : GI} {gg : GG} {gt : GT} {ge : GE} {vs : List Nat} {K : PySem.W.Frag} {G0 : Gh} {H0 : Hp} {σ : L2.St} {H : Hp} {Q : VK} (hc : c = true) (h : TV G0 H0 (gLc gi gg gt ge vs) σ H Q) : tLc (TIV c G0 H0 gi) (TGV G0 H0 vs gg) (TTV G0 H0 gt) (TV G0 H0 ge) vs σ H Q := by
  subst hc
  obtain ⟨G, S, Qs, R, q, k⟩ := h
  refine ⟨G, S, _, R, q, fun J H1 G1 ds E1 Y q1 => ?_⟩
  obtain ⟨W, w0, wd, ws⟩ := q1
  intro D hD
  have R1 := R.go E1
  refine ⟨fun i m H2 => ∃ G2 acc vsD, Ext G1 H1 G2 H2 ∧ H2 D = some (.lst vsD) ∧ G2.F D = none ∧ G2.pb ≠ some D ∧ reps G2.F acc vsD ∧ W (ds.drop i) acc ∧ m = ds.length - i ∧ i ≤ ds.length, ⟨ds.length, G1, [], [], ext_new E1.ok hD _, upd_same, E1.ok.nF hD, E1.ok.npb hD, rfl, w0, by simp, Nat.zero_le _⟩, ?_⟩
  rintro i m H2 ⟨G2, acc, vsD, E2, e2, f2, b2, ra, w, rfl, hi⟩
  by_cases hlt : i < ds.length
  · obtain ⟨y1, y2⟩ := Y G2 H2 E2
    have hd : ds[i]? = some ds[i] := List.getElem?_eq_getElem hlt
    obtain ⟨go, yl⟩ := y2 i _ hd
    rw [List.drop_eq_getElem_cons hlt] at w
    refine .inr ⟨go, fun H' => ∃ m', m' < ds.length - i ∧ ∃ G2 acc vsD, Ext G1 H1 G2 H' ∧ H' D = some (.lst vsD) ∧ G2.F D = none ∧ G2.pb ≠ some D ∧ reps G2.F acc vsD ∧ W (ds.drop (i + 1)) acc ∧ m' = ds.length - (i + 1) ∧ i + 1 ≤ ds.length, fun H' z => z, fun x H3 yx => ?_⟩
    obtain ⟨G3, E3, rx⟩ := yl x H3 yx
    refine ⟨G3, wipeS S vs, ds[i], _, ((R1.go E2).go E3).wipe vs, rx, ws _ _ _ w, fun σ2 S2 R2 off q2 => ⟨off.wiped, ?_⟩⟩
    refine ⟨G3, S2, _, R2, q2, fun b H4 G4 E4 q4 => ?_⟩
    have ne2 : H2 D ≠ none := by rw [e2]; simp
    have E24 := E3.trans E4
    have e4 : H4 D = some (.lst vsD) := E24.same _ _ e2 b2 nofun
    cases b with
    | false =>
      rw [if_neg Bool.false_ne_true] at q4
      refine iteF ?_
      exact ⟨_, by omega, G4, acc, vsD, E2.trans E24, e4, E24.nF f2 ne2, E24.npb b2 ne2, reps.mono E24.frz _ _ ra, q4, rfl, by omega⟩
    | true =>
      rw [if_pos rfl] at q4
      refine iteT ?_
      refine ⟨G4, S2, _, R2.go E4, q4, fun v H5 G5 sv E5 r5 q5 => ?_⟩
      obtain ⟨y, rfl, hz, q5⟩ := q5
      have E25 := E24.trans E5
      have e5 : H5 D = some (.lst vsD) := E25.same _ _ e2 b2 nofun
      have rz := reps.mono E25.frz _ _ ra
      refine ⟨vsD, e5, by rw [rz.length]; exact hz, _, by omega, G5, acc ++ [y], vsD ++ [v], ext_write (E2.trans E25) hD (E25.nF f2 ne2) (E25.npb b2 ne2) _ (.lst e5), upd_same, E25.nF f2 ne2, E25.npb b2 ne2, rz.append ⟨v, [], rfl, r5, rfl⟩, q5, rfl, by omega⟩
  · have e : i = ds.length := by omega
    subst e
    rw [List.drop_length] at w
    obtain ⟨y1, _⟩ := Y G2 H2 E2
    exact .inl ⟨y1 _ (Nat.le_refl _), k _ _ G2 (.own (.lst acc)) (E1.trans E2) ⟨D, rfl, E1.dom hD, f2, b2, vsD, e2, ra⟩ (wd _ w)⟩
theorem ve_lc {elt tg iter : Expr} {ifs : List Expr} {scope : Scope} {own : List (Str × Nat)} {pos : Pos} {gi : GI} {gg : GG} {gt : GT} {ge : GE} (hc : X.calm = true) (hN : X.N.Nodup) (hi : VI true X EX tg iter gi) (ok : BlkOk X.N X.env.scope scope own)
    (hg : ∀ (s : Shared) (H : Hp) (C : Addr) (cl : List (Str × Addr)) (fp : List Addr), VG (X.blk s H scope (compEnvC scope cl C X.env) fp) tg (own.map (·.2)) gg) (ht : ∀ (s : Shared) (H : Hp) (C : Addr) (cl : List (Str × Addr)) (fp : List Addr), VCs (X.blk s H scope (compEnvC scope cl C X.env) fp) EX.off ifs gt)
    (he : ∀ (s : Shared) (H : Hp) (C : Addr) (cl : List (Str × Addr)) (fp : List Addr), VE (X.blk s H scope (compEnvC scope cl C X.env) fp) EX.off elt ge) (hs : ∀ x, foldedSetIterable iter X.env x = pure x := by intro _; rfl) :
    VE X EX (.ListComp elt [⟨tg, iter, ifs, 0⟩] scope pos) (gLc gi gg gt ge (own.map (·.2))) :=
  ⟨fun G0 H0 tk => peMono (pe_lc hc hN (hi.pi G0 H0 tk) ok (fun s H C cl fp => (hg s H C cl fp).pg G0 H0) (fun s H C cl fp => (ht s H C cl fp).pts G0 H0 (tk.blk rfl)) (fun s H C cl fp => (he s H C cl fp).pe G0 H0 (tk.blk rfl)) hs) fun σ H Q h => gLc_t (K := X.K) rfl h⟩
end
theorem KD.go {G0 Gs G : Gh} {H0 : Hp} {DV : VEnds} {D : Ends} (k : KD G0 H0 Gs DV D) (m : Mono Gs G) : KD G0 H0 G DV D :=
  ⟨fun σ H G' S R m' q => k.nx σ H G' S R (fun b o h => m' b o (m b o h)) q, k.rt, fun σ H G' S R m' q => k.bk σ H G' S R (fun b o h => m' b o (m b o h)) q, fun σ H G' S R m' q => k.ct σ H G' S R (fun b o h => m' b o (m b o h)) q⟩
structure VS (X : Cx) (EX : EXT) (st : Stmt) (g : GS) : Prop where
  ps : ∀ G0 H0, Lk X EX G0 H0 → PS X st (TSV G0 H0 g)
section
variable {X : Cx} {EX : EXT} {st : Stmt} {sts : List Stmt} {e : Expr} {ge : GE} {g g' : GS} {pos : Pos}
theorem psMono {t t' : TS} (h : PS X st t) (k : ∀ D σ H, t' D σ H → t D σ H) : PS X st t' := ⟨fun pins s σ H D I q => h.run pins s σ H D I (k D σ H q)⟩
theorem pssMono {t t' : TS} (h : PSs X sts t) (k : ∀ D σ H, t' D σ H → t D σ H) : PSs X sts t' := ⟨fun pins s σ H D I q => h.run pins s σ H D I (k D σ H q)⟩
@[simp] def gNext : GS := fun D S => D.nx S
def gSeq (g g' : GS) : GS := fun D S => g { D with nx := g' D } S
theorem vss_nil : VSs X EX [] gNext := ⟨fun G0 H0 tk => pssMono pss_nil fun D σ H ⟨G, S, DV, R, q, k⟩ => k.nx σ H G S R (fun _ _ h => h) q⟩
theorem vss_cons (h1 : VS X EX st g) (h2 : VSs X EX sts g') : VSs X EX (st :: sts) (gSeq g g') :=
  ⟨fun G0 H0 tk => pssMono (pss_cons (h1.ps G0 H0 tk) (h2.pss G0 H0 tk)) fun D σ H ⟨G, S, DV, R, q, k⟩ => ⟨G, S, _, R, q, fun σ' H' G' S' R' m q' => ⟨G', S', DV, R', q', k.go m⟩, k.rt, k.bk, k.ct⟩⟩
theorem vss_one (h1 : VS X EX st g) : VSs X EX [st] g := ⟨fun G0 H0 tk => pss_one (h1.ps G0 H0 tk)⟩
@[simp] def gBreak : GS := fun D S => D.bk S
@[simp] def gCont : GS := fun D S => D.ct S
@[simp] def gDrop (ge : GE) : GS := fun D S => ge S fun _ => D.nx S
@[simp] def gRet (ge : GE) : GS := fun D S => ge S fun sv => sv.isRet ∧ D.rt sv
theorem vs_ret (he : VE X EX e ge) : VS X EX (.Return (some e) pos) (gRet ge) :=
  ⟨fun G0 H0 tk => psMono (ps_ret (he.pe G0 H0 tk)) fun D σ H ⟨G, S, DV, R, q, k⟩ => ⟨G, S, _, R, q, fun v H1 G1 sv E1 r1 q1 => k.rt v H1 G1 sv (R.ext.trans E1) (r1.back fun _ z => R.ext.dom z) q1.1 q1.2⟩⟩
@[simp] def gRetName (i : Nat) : GS := fun D S => ∃ sv, S[i]? = some (some sv) ∧ sv.isRet ∧ D.rt sv
@[simp] def gRetN : GS := fun D _ => D.rt (.tr .non)
@[simp] def gIfS (gc : GT) (g g' : GS) : GS := fun D S => gc S fun b => if b = true then g D S else g' D S
theorem vs_if {c : Expr} {a b : List Stmt} {gc : GT} (hc : VC X EX c gc) (ha : VSs X EX a g) (hb : VSs X EX b g') : VS X EX (.If c a b pos) (gIfS gc g g') :=
  ⟨fun G0 H0 tk => psMono (ps_if (hc.pt G0 H0 tk) (ha.pss G0 H0 tk) (hb.pss G0 H0 tk)) fun D σ H ⟨G, S, DV, R, q, k⟩ => ⟨G, S, _, R, q, fun b H1 G1 E1 q1 => by
    cases b with
    | true =>
      rw [if_pos rfl] at q1 ⊢
      exact ⟨G1, S, DV, R.go E1, q1, k.go E1.frz⟩
    | false =>
      rw [if_neg Bool.false_ne_true] at q1 ⊢
      exact ⟨G1, S, DV, R.go E1, q1, k.go E1.frz⟩⟩⟩
@[simp] def gSet (i : Nat) (ge : GE) : GS := fun D S => ge S fun sv => sv.ok ∧ D.nx (S.set i (some sv))
theorem vs_set {i : Nat} {x : Str} {pos' : Pos} (hN : X.N.Nodup) (hi : X.N[i]? = some x) (hx : Loc X.env.scope x) (he : VE X EX e ge) (hs : swapsWith e (some (.Name x pos')) pos.line X.env = pure false := by rfl) (hf : X.fn x = true ∨ X.env.scope.names.lookup x = some .local := by first | exact .inl rfl | exact .inr rfl | assumption) :
    VS X EX (.Assign [.Name x pos'] e pos) (gSet i ge) :=
  ⟨fun G0 H0 tk => psMono (ps_set hN hi hx (he.pe G0 H0 tk) hs hf) fun D σ H ⟨G, S, DV, R, q, k⟩ => ⟨G, S, _, R, q, fun v H1 G1 sv E1 r1 q1 => k.nx _ _ _ _ (R.setE E1 i r1 q1.1) E1.frz q1.2⟩⟩
@[simp] def gAsg (gg : GG) (ge : GE) : GS := fun D S => ge S fun sv => ∃ d, sv = .tr d ∧ gg d S D.nx
@[simp] def gAug (i : Nat) (gop : D → D → (SV → Prop) → Prop) (ge : GE) : GS := fun D S => ∃ dx, S[i]? = some (some (.tr dx)) ∧ ge S fun sv => gop dx sv.d fun z => z.ok ∧ D.nx (S.set i (some z))
@[simp] def gAugI (f : Int → Int → Int) (i : Nat) (ge : GE) : GS := fun D S => ∃ a, S[i]? = some (some (.tr (.int a))) ∧ ge S fun sv => ∃ b, sv.d = .int b ∧ D.nx (S.set i (some (.tr (.int (f a b)))))
end
end VT
namespace VT
open PySem PySem.Spec PyProof.Rows L2
def gFor (gi : GI) (gg : GG) (gb : GS) : GS := fun D S => gi S fun ds => ∃ W : List VT.D → VT.S → Prop, W ds S ∧ (∀ S', W [] S' → D.nx S') ∧
  ∀ d r S1, W (d :: r) S1 → gg d S1 fun S2 => gb { nx := W r, rt := D.rt, bk := D.nx, ct := W r } S2
section
variable {X : Cx} {EX : EXT} {pos : Pos} {gb : GS}
theorem vs_for {tg iter : Expr} {body : List Stmt} {gi : GI} {is : List Nat} {gg : GG} (hp : PassesOwn (model X.prog X.w) X.A X.env X.xe) (hc : X.calm = true) (hi : VI false X EX tg iter gi) (hg : VG X tg is gg) (hb : VSs X EX body gb)
    (hs : ∀ x, foldedSetIterable iter X.env x = pure x := by intro _; rfl) : VS X EX (.For tg iter body [] pos) (gFor gi gg gb) := by
  refine ⟨fun G0 H0 tk => psMono (ps_for hp hc (hi.pi G0 H0 tk) (hg.pg G0 H0) (hb.pss G0 H0 tk) hs) fun D σ H ⟨G, S, DV, R, q, k⟩ => ?_⟩
  refine ⟨G, S, _, R, q, fun J H1 G1 ds E1 Y q1 => ?_⟩
  obtain ⟨W, w0, wd, ws⟩ := q1
  refine ⟨fun i m σ H => ∃ G' S', Rel G0 H0 G' H σ S' ∧ Mono G1 G' ∧ W (ds.drop i) S' ∧ m = ds.length - i ∧ i ≤ ds.length, ⟨ds.length, G1, S, R.go E1, fun _ _ h => h, w0, by simp, Nat.zero_le _⟩, ?_⟩
  rintro i m σ2 H2 ⟨G2, S2, R2, M2, w, rfl, hi⟩
  obtain ⟨y1, y2⟩ := Y G2 H2 ⟨R2.ext, M2⟩
  have MG : Mono G G2 := fun b o h => M2 b o (E1.frz b o h)
  by_cases hlt : i < ds.length
  · have hd : ds[i]? = some ds[i] := List.getElem?_eq_getElem hlt
    obtain ⟨go, yl⟩ := y2 i _ hd
    rw [List.drop_eq_getElem_cons hlt] at w
    refine .inr ⟨go, fun σ' H' => ∃ m', m' < ds.length - i ∧ ∃ G' S', Rel G0 H0 G' H' σ' S' ∧ Mono G1 G' ∧ W (ds.drop (i + 1)) S' ∧ m' = ds.length - (i + 1) ∧ i + 1 ≤ ds.length, fun _ _ z => z, fun x H3 yx => ?_⟩
    obtain ⟨G3, E3, rx⟩ := yl x H3 yx
    have M3 : Mono G1 G3 := fun b o h => E3.frz b o (M2 b o h)
    refine ⟨G3, S2, ds[i], _, R2.go E3, rx, ws _ _ _ w, fun σ4 S4 R4 off q4 => ?_⟩
    refine ⟨G3, S4, _, R4, q4, fun σ' H' G' S' R' m' q' => ?_, k.rt, fun σ' H' G' S' R' m' q' => ?_, fun σ' H' G' S' R' m' q' => ?_⟩
    · exact ⟨_, by omega, G', S', R', fun b o h => m' b o (M3 b o h), q', rfl, by omega⟩
    · exact k.nx _ _ _ _ R' (fun b o h => m' b o (E3.frz b o (MG b o h))) q'
    · exact ⟨_, by omega, G', S', R', fun b o h => m' b o (M3 b o h), q', rfl, by omega⟩
  · have e : i = ds.length := by omega
    subst e
    rw [List.drop_length] at w
    exact .inl ⟨y1 _ (Nat.le_refl _), k.nx _ _ _ _ R2 MG (wd _ w)⟩
end
theorem Rel.write {G0 G : Gh} {H0 H : Hp} {σ : L2.St} {S : S} {i : Nat} {d d' : D} {a : Addr} {o : HO} (R : Rel G0 H0 G H σ S) (e : S[i]? = some (some (.own d))) (ea : σ[i]? = some (some (.ref a))) (hc : cont G.F (upd H a o) a d') :
    Rel G0 H0 G (upd H a o) σ (S.set i (some (.own d'))) := by
  obtain ⟨v, e1, r⟩ := R.slot i _ e
  rw [ea] at e1
  cases e1
  obtain ⟨a', e2, hn, hF, hb, c⟩ := r
  cases e2
  have hne : ∀ (j : Nat) (sv : SV) (u : V) (b : Addr), i ≠ j → S[j]? = some (some sv) → σ[j]? = some (some u) → Owns H u sv b → b ≠ a := fun j sv u b hij ej eu ob z => R.sep i j _ sv _ u b hij e ej ea eu (show V.ref a = .ref b by rw [z]) ob
  have off : ∀ b, b ≠ a → ∀ u, H b = some u → upd H a o b = some u := fun b hba u h => by rw [upd_ne hba]; exact h
  refine ⟨ext_write R.ext hn hF hb o c.plain, by rw [List.length_set]; exact R.len, fun j sv ej => ?_, fun j l sj sl u w b hjl e2 e3 e4 e5 o1 o2 => ?_, fun j d ej => ?_⟩
  · rcases set_slot ej with ⟨rfl, ej, _⟩ | ⟨hij, ej⟩
    · cases ej
      exact ⟨_, ea, a, rfl, hn, hF, hb, hc⟩
    · obtain ⟨u, e6, r6⟩ := R.slot j sv ej
      refine ⟨u, e6, ?_⟩
      have keep : ∀ b, Owns H u sv b → Mine H0 G b ∧ upd H a o b = H b := fun b ob => ⟨(r6.owns ob).1, upd_ne (hne j sv u b hij ej e6 ob)⟩
      have okj := R.nopk j sv ej
      cases sv with
      | tr d' => exact r6
      | exc a' C d fs => exact r6
      | tz ds => exact r6
      | fn f => exact r6
      | own d' => exact r6.at (fun _ => nofun) (fun _ => nofun) nofun (fun _ _ => nofun) (fun _ _ => nofun) (fun _ _ z => z) keep
      | obj q C fs => exact r6.at (fun _ => nofun) (fun _ => nofun) nofun (fun _ _ => nofun) (fun _ _ => nofun) (fun _ _ z => z) keep
      | dob q kvs => exact r6.at (fun _ => nofun) (fun _ => nofun) nofun (fun _ _ => nofun) (fun _ _ => nofun) (fun _ _ z => z) keep
      | tow q c ds d2 => exact r6.at (fun _ => nofun) (fun _ => nofun) nofun (fun _ _ => nofun) (fun _ _ => nofun) (fun _ _ z => z) keep
      | brw d' => obtain ⟨b, rfl, q1, q2, q3⟩ := r6; exact ⟨b, rfl, q1, q2, q3.off (a := a) (off b fun z => q1 (by rw [z]; exact hn))⟩
      | pk d' => exact okj.elim
      | bag => exact r6
      | pob C fs => exact okj.elim
      | bob C fs =>
        obtain ⟨b, dx, ws, q1, q2, q3, q4, q5⟩ := r6
        exact ⟨b, dx, ws, q1, q2, off b (fun z => q2 (by rw [z]; exact hn)) _ q3, q4, q5.off fun b h => off b fun z => h (by rw [z]; exact hn)⟩
  · have back : ∀ (j : Nat) (sj : SV) (u : V) (b : Addr), (S.set i (some (.own d')))[j]? = some (some sj) → σ[j]? = some (some u) → Owns (upd H a o) u sj b → ∃ sj', S[j]? = some (some sj') ∧ Owns H u sj' b := fun j sj u b ej eu ob => by
      rcases set_slot ej with ⟨rfl, ej, _⟩ | ⟨hij, ej⟩
      · cases ej
        exact ⟨_, e, ob⟩
      · obtain ⟨u', e6, r6⟩ := R.slot j sj ej
        rw [eu] at e6
        cases e6
        exact ⟨sj, ej, ob.at r6 fun b ob => upd_ne (hne j sj u b hij ej eu ob)⟩
    obtain ⟨s1, e2, o1⟩ := back j sj u b e2 e4 o1
    obtain ⟨s2, e3, o2⟩ := back l sl w b e3 e5 o2
    exact R.sep j l s1 s2 u w b hjl e2 e3 e4 e5 o1 o2
  · rcases set_slot ej with ⟨rfl, ej, _⟩ | ⟨hne, ej⟩
    · cases ej
      exact trivial
    · exact R.nopk j d ej
section
variable {X : Cx} {EX : EXT} {st : Stmt} {g : GS} {ge : GE} {pos : Pos}
@[simp] def gFzS (i : Nat) (g : GS) : GS := fun D S => ∃ d, S[i]? = some (some (.own d)) ∧ g D (S.set i (some (.tr d)))
@[simp] def gMutL (i : Nat) (ga : GA) (f : List VT.D → List SV → (List VT.D → Prop) → Prop) : GS := fun D S => ∃ ds0, S[i]? = some (some (.own (.lst ds0))) ∧ ga S fun svs => ∃ ds, S[i]? = some (some (.own (.lst ds))) ∧ f ds svs fun es => D.nx (S.set i (some (.own (.lst es))))
@[simp] def fAppend (ds : List VT.D) (svs : List SV) (F : List VT.D → Prop) : Prop := ∃ y, svs = [.tr y] ∧ ds.length < sizeLine ∧ F (ds ++ [y])
@[simp] def fInsert (ds : List VT.D) (svs : List SV) (F : List VT.D → Prop) : Prop := ∃ i y, svs = [.tr (.int i), .tr y] ∧ (0 ≤ i ∧ i < 2 ^ 63 ∧ ds.length < sizeLine) ∧ F (ds.take i.toNat ++ [y] ++ ds.drop i.toNat)
@[simp] def fExtend (ds : List VT.D) (svs : List SV) (F : List VT.D → Prop) : Prop := ∃ sv ys, svs = [sv] ∧ sv.d = .lst ys ∧ ds.length + ys.length ≤ sizeLine ∧ F (ds ++ ys)
@[simp] def gPutL (i : Nat) (ge gk : GE) : GS := fun D S => ge S fun sv => ∃ y ds, sv = .tr y ∧ S[i]? = some (some (.own (.lst ds))) ∧ gk S fun sk => ∃ k j, sk.d = .int k ∧ ixN ds.length k = some j ∧ D.nx (S.set i (some (.own (.lst (ds.set j y)))))
end
end VT
namespace VT
open PySem PySem.Spec PyProof.Rows L2
@[simp] def setS : List Nat → List SV → S → S
  | i :: is, v :: vs, S => setS is vs (S.set i (some v))
  | _, _, S => S
@[simp] def gPar (is : List Nat) (ga : GA) : GS := fun D S => ga S fun svs => (∀ sv ∈ svs, sv.ok) ∧ is.length = svs.length ∧ D.nx (setS is svs S)
theorem RepV.call {H0 H Hs G' H' v} {sv : SV} (h : ∀ b, H b = Option.none → Hs b = Option.none) (ir : sv.isRet) (r : RepV H H G' H' v sv) : RepV H0 Hs G' H' v sv := by
  have r2 := r.back h
  cases sv <;> first | exact ir.elim | exact r2
theorem RepV.toArg {H0 Hs : Hp} {G : Gh} {H : Hp} {v : V} {sv : SV} (r : RepV H0 Hs G H v sv) : RepV H H G H v sv.arg ∧ sv.arg.isArg := by
  cases sv with
  | tr d => exact ⟨r, trivial⟩
  | own d => obtain ⟨a, e, _, _, nb, c⟩ := r; exact ⟨⟨a, e, c.there, nb, c⟩, trivial⟩
  | brw d => obtain ⟨a, e, _, nb, c⟩ := r; exact ⟨⟨a, e, c.there, nb, c⟩, trivial⟩
  | pk d => obtain ⟨a, e, nb, c⟩ := r; exact ⟨⟨a, e, c.there, nb, c⟩, trivial⟩
  | bag => exact ⟨r, trivial⟩
  | obj q C fs =>
    obtain ⟨a, dx, ws, e, ea, _, h1, _, _, rf, _⟩ := r
    exact ⟨⟨a, dx, ws, e, by rw [ea]; simp, ea, h1.2.2, rf.peek.imp fun b h _ => h⟩, trivial⟩
  | pob C fs =>
    obtain ⟨a, dx, ws, e, ea, nb, rf⟩ := r
    exact ⟨⟨a, dx, ws, e, by rw [ea]; simp, ea, nb, rf.imp fun b h _ => h⟩, trivial⟩
  | bob C fs =>
    obtain ⟨a, dx, ws, e, h0, ea, nb, rf⟩ := r
    exact ⟨⟨a, dx, ws, e, by rw [ea]; simp, ea, nb, rf.imp fun b h _ => h⟩, trivial⟩
  | exc a C d fs => exact ⟨r, trivial⟩
  | fn f => exact ⟨r, trivial⟩
  | dob q kvs => exact ⟨r.1, trivial⟩
  | tow q c ds d2 => exact ⟨r.1, trivial⟩
  | tz ds => exact ⟨(let ⟨a, o, vs, e1, _, e2, r⟩ := r; ⟨a, vs, e1, .inr ⟨o, e2⟩, r⟩), trivial⟩
theorem RepL.toArg {H0 Hs : Hp} {G : Gh} {H : Hp} : ∀ {vs : List V} {svs : List SV}, RepL H0 Hs G H vs svs → RepL H H G H vs (svs.map SV.arg) ∧ ∀ sv ∈ svs.map SV.arg, sv.isArg
  | _, _, .nil => ⟨.nil, fun _ h => nomatch h⟩
  | _, _, .cons (sv := sv) r t n => by
    obtain ⟨h1, h2⟩ := RepL.toArg t
    obtain ⟨h3, h4⟩ := r.toArg
    refine ⟨.cons h3 h1 fun b o => (h4.none o).elim, fun s h => ?_⟩
    · rcases List.mem_cons.mp h with rfl | h
      · exact h4
      · exact h2 s h
theorem RepL.append {H0 Hs : Hp} {G : Gh} {H : Hp} {vs ws : List V} {svs sws : List SV} (h : RepL H0 Hs G H vs svs) (k : RepL H0 Hs G H ws sws) (ha : ∀ sv ∈ svs, sv.isArg) : RepL H0 Hs G H (vs ++ ws) (svs ++ sws) := by
  induction h with
  | nil => exact k
  | @cons v sv vs svs r t n ih =>
    exact .cons r (ih fun s h => ha s (List.mem_cons_of_mem _ h)) fun b o => ((ha sv List.mem_cons_self).none o).elim
inductive Wrts : List D → List V → Prop
  | nil : Wrts [] []
  | cons {d : D} {v : V} {ds : List D} {vs : List V} : wrt d v → Wrts ds vs → Wrts (d :: ds) (v :: vs)
theorem Wrts.repl {G : Gh} {H0 H Hs : Hp} : ∀ {ds : List D} {vs : List V}, Wrts ds vs → RepL H0 Hs G H vs (ds.map SV.tr)
  | _, _, .nil => .nil
  | _, _, .cons h t => .cons h.rep t.repl fun _ o => o.elim
@[simp] def gCall (F : FSp) (dd : List D) (ga : GA) : GE := fun S Q => ga S fun svs => F (svs.map SV.arg ++ dd.map SV.tr) Q
theorem Lk.tt {X : Cx} {EX : EXT} {G0 G G1 : Gh} {H0 H H1 : Hp} {σ : L2.St} {S : S} (l : Lk X EX G0 H0) (R : Rel G0 H0 G H σ S) (E : Ext G H G1 H1) : G1.T = TabsOf X.K := E.tt.trans (R.ext.tt.trans l.tabs)
section
variable {X : Cx} {EX : EXT} {k : Nat} {f : Addr} {fd : FuncData} {ps : List Str} {F : FSp} {dd : List D} {dvs : List V} {ds : List Value} {x : Str} {p pos : Pos} {e : Expr} {es : List Expr} {ga : GA}
theorem call_end {G0 G G1 : Gh} {H0 H H1 : Hp} {Qs : SV → Prop} {Q : VK} {vs : List V} {svs : List SV} (hd : Wrts dd dvs) (hT : G1.T = TabsOf X.K) (E1 : Ext G H G1 H1) (r1 : RepL H0 H G1 H1 vs svs) (q1 : F (svs.map SV.arg ++ dd.map SV.tr) Qs) (kq : KQ H0 G H Qs Q) (E : XK) : spV X.K F (vs ++ dvs) H1 Q E := by
  obtain ⟨a1, a2⟩ := r1.toArg
  refine ⟨G1, _, _, ⟨E1.ok, hT⟩, a1.append hd.repl a2, fun sv h => ?_, q1, fun v H' G' sv E' r' ir q' => ?_⟩
  · rcases List.mem_append.mp h with h | h
    · exact a2 sv h
    · obtain ⟨d, _, rfl⟩ := List.mem_map.mp h
      trivial
  · refine kq v H' G' sv (E1.trans E') ?_ q'
    exact RepV.call (fun b z => E1.dom z) ir r'
theorem ve_call (Fn : FnOk X.prog X.w X.K X.mg X.base CX0 k f fd ps (spV X.K F)) (hr : Room k X.A) (hg : Gl X x) (hm : X.mg x = some (.ref f)) (hk : PySem.W.keepIn X.K (.ref f) = true) (hb : Binds X.K fd ps ds) (hd : Vals dvs ds) (hw : Wrts dd dvs)
    (ha : VA X EX (e :: es) ga) (hdb : (x == ("__debug__" : Str)) = false := by decide) (he : starEach (e :: es) X.env = (false, eval e X.env) :: starEach es X.env := by rfl) (hpl : (backTo pos (starEach es X.env)).any (·.1) = false := by rfl) :
    VE X EX (.Call (.Name x p) (e :: es) [] pos) (gCall F dd ga) :=
  ⟨fun G0 H0 tk => peMono (pe_call Fn hr hg hm hk hb hd pass0 (ha.pa G0 H0 tk) hdb he hpl) fun σ H Q ⟨G, S, Qs, R, q, kq⟩ => ⟨G, S, _, R, q, fun vs H1 G1 svs E1 r1 q1 => call_end (G0 := G0) hw (tk.tt R E1) E1 r1 q1 kq E0⟩⟩
@[simp] def arr {α : Type} (ix : List Nat) (l : List α) : List α := ix.filterMap fun i => l[i]?
theorem RepL.arr {H0 Hs : Hp} {G : Gh} {H : Hp} {vs : List V} {svs : List SV} (r : RepL H0 Hs G H vs svs) (ha : ∀ sv ∈ svs, sv.isArg) : ∀ ix : List Nat, RepL H0 Hs G H (arr ix vs) (arr ix svs) ∧ ∀ sv ∈ arr ix svs, sv.isArg
  | [] => ⟨.nil, fun _ h => nomatch h⟩
  | i :: ix => by
    obtain ⟨h1, h2⟩ := RepL.arr r ha ix
    unfold VT.arr at h1 h2 ⊢
    rw [List.filterMap_cons, List.filterMap_cons]
    by_cases hi : i < svs.length
    · have e2 : svs[i]? = some svs[i] := List.getElem?_eq_getElem hi
      obtain ⟨v, e1, rv⟩ := r.get e2
      rw [e1, e2]
      have hm : svs[i] ∈ svs := List.getElem_mem hi
      refine ⟨.cons rv h1 fun b o => ((ha _ hm).none o).elim, fun s hs => ?_⟩
      · rcases List.mem_cons.mp hs with rfl | hs
        · exact ha _ hm
        · exact h2 s hs
    · rw [List.getElem?_eq_none (by rw [r.length]; omega), List.getElem?_eq_none (by omega)]
      exact ⟨h1, h2⟩
structure VKw (X : Cx) (EX : EXT) (kws : List Keyword) (g : GA) : Prop where
  pk : ∀ G0 H0, Lk X EX G0 H0 → PK X kws (TAV G0 H0 g)
theorem pkMono {kws : List Keyword} {t t' : TA} (h : PK X kws t) (k : ∀ σ H Q, t' σ H Q → t σ H Q) : PK X kws t' := ⟨fun pos pins s σ H Q I q => h.run pos pins s σ H Q I (k σ H Q q)⟩
theorem vk_nil : VKw X EX [] gaNil := ⟨fun G0 H0 tk => pkMono pk_nil fun σ H Q ⟨G, S, Qs, R, q, k⟩ => k [] H G [] (.refl R.ok) .nil q⟩
theorem vk_cons {kws : List Keyword} {nm : Option Str} {kpos : Pos} {g : GE} {gr : GA} (ha : VE X EX e g) (hr : VKw X EX kws gr) : VKw X EX (⟨nm, e, kpos⟩ :: kws) (gaCons g gr) := by
  refine ⟨fun G0 H0 tk => pkMono (pk_cons (ha.pe G0 H0 tk) (hr.pk G0 H0 tk)) fun σ H Q ⟨G, S, Qs, R, q, k⟩ => ?_⟩
  refine ⟨G, S, _, R, q, fun v H1 G1 sv E1 r1 q1 => ?_⟩
  refine ⟨G1, S, _, R.go E1, q1, fun vs H2 G2 svs E2 r2 q2 => ?_⟩
  exact k _ _ _ _ (E1.trans E2) (RepL.cons' (fun _ z => E1.dom z) E2 r1 r2) q2
@[simp] def gCallK (F : FSp) (n m : Nat) (ix : List Nat) (dd : List D) (ga gk : GA) : GE := fun S Q => ga S fun svs => gk S fun kvs => svs.length = n ∧ kvs.length = m ∧ F (arr ix (svs.map SV.arg ++ kvs.map SV.arg ++ dd.map SV.tr)) Q
end
@[simp] def startS (N : List Str) (svs : List SV) : S := svs.map some ++ List.replicate (N.length - svs.length) none
theorem start_get {α β : Type} {N : List α} {svs : List β} {i : Nat} {sv : β} (h : (svs.map some ++ List.replicate (N.length - svs.length) none)[i]? = some (some sv)) : svs[i]? = some sv := by
  by_cases hi : i < svs.length
  · rw [List.getElem?_append_left (by simpa using hi), List.getElem?_map] at h
    cases e : svs[i]? with
    | none => rw [e] at h; cases h
    | some w => rw [e] at h; cases h; rfl
  · rw [List.getElem?_append_right (by simpa using hi), List.getElem?_replicate] at h
    split at h <;> cases h
theorem Rel.start {G : Gh} {H : Hp} {vs : List V} {svs : List SV} {N : List Str} (ok : OkG G H) (r : RepL H H G H vs svs) (ha : ∀ sv ∈ svs, sv.isArg) : Rel G H G H (L2.start N vs) (startS N svs) := by
  have hl := r.length
  refine ⟨.refl ok, by simp [startS, L2.start, hl], fun i sv e => ?_, fun i j sv sw v w b _ e _ _ _ o => ?_, fun i sv e => ?_⟩
  · have e' := start_get e
    obtain ⟨v, hv, rv⟩ := r.get e'
    refine ⟨v, ?_, rv⟩
    unfold L2.start
    have hi : i < vs.length := (List.getElem?_eq_some_iff.mp hv).1
    rw [List.getElem?_append_left (by simpa using hi), List.getElem?_map, hv]
    rfl
  · have e' := start_get e
    exact ((ha _ (List.mem_of_getElem? e')).none o).elim
  · have e' := start_get e
    have := ha _ (List.mem_of_getElem? e')
    cases sv <;> first | exact this.elim | trivial
section
variable {P : Program} {w : World} {K : PySem.W.Frag} {mg : Str → Option Value} {base : Heap} {x qual : Str} {params : Arguments} {body : List Stmt} {scope : Scope} {dvs : List V} {kws : List (Str × V)} {f : Addr} {fd : FuncData} {N ps : List Str} {k : Nat} {g : GS} {Fs : FSp}
theorem fn_ok (F : FunD K x qual params body scope dvs kws f fd) (Sc : FnScope N ps scope)
    (hbody : ∀ (cdv : Value) (A : Around) (outer : List Env) (s : Shared) (H : Hp) (E : XK), Room k (A.deeper (envOfC qual scope s.heap.objs.size f cdv)) → VSs (cxOf CX0 P w K mg base N qual scope f cdv A outer s H E).nox E0T body g)
    (len : ∀ svs Qs, Fs svs Qs → svs.length = ps.length) (spec : ∀ svs Qs, Fs svs Qs → g { nx := fun _ => Qs (.tr .non), rt := Qs } (startS N svs)) : FnOk P w K mg base CX0 (k + 1) f fd ps (spV K Fs) := by
  refine F.ok Sc (fun vs H Q E ⟨G, svs, Qs, ok, r, ha, h, z⟩ => r.length.trans (len _ _ h)) (fun cdv A outer s H vs Q E hr h => ?_)
  refine ⟨TSV (Classical.choose h) H g, ((hbody cdv A outer s H E hr).pss _ _ (Lk.e0 (Classical.choose_spec h).choose_spec.choose_spec.1.2)).nox, ?_⟩
  obtain ⟨svs, Qs, ok, r, ha, h, z⟩ := Classical.choose_spec h
  refine ⟨_, startS N svs, _, Rel.start ok.1 r ha, spec svs Qs h, fun σ' H' G' S' R' _ q => ?_, fun v H' G' sv E' r' ir q => z v H' G' sv E' r' ir q, fun σ' H' G' S' R' _ q => q.elim, fun σ' H' G' S' R' _ q => q.elim⟩
  exact z .non H' G' (.tr .non) R'.ext rfl trivial q
end
end VT
namespace VT
open PySem PySem.Spec PyProof.Rows L2
section
variable {P : Program} {w : World} {K : PySem.W.Frag} {mg : Str → Option Value} {base : Heap} {d : He.DefD} {k : Nat} {ps N : List Str} {F : FSp} {g : GS}
theorem fnv_ok (h : DefAt K mg d) (Sc : FnScope N ps d.scope)
    (hbody : ∀ (f : Addr) (cdv : Value) (A : Around) (outer : List Env) (s : Shared) (H : Hp) (E : XK), Room k (A.deeper (envOfC d.qual d.scope s.heap.objs.size f cdv)) → VSs (cxOf CX0 P w K mg base N d.qual d.scope f cdv A outer s H E).nox E0T d.body g)
    (len : ∀ svs Qs, F svs Qs → svs.length = ps.length) (spec : ∀ svs Qs, F svs Qs → g { nx := fun _ => Qs (.tr .non), rt := Qs } (startS N svs)) : FnV P w K mg base d (k + 1) ps F := by
  obtain ⟨⟨fd, hf⟩, hm⟩ := h
  exact ⟨⟨fd, hf, fn_ok hf Sc (fun cdv A outer s H E hr => hbody _ cdv A outer s H E hr) len spec⟩, hm⟩
end
section
variable {X : Cx} {EX : EXT} {d : He.DefD} {k : Nat} {ps ks : List Str} {F : FSp} {x : Str} {p pos : Pos} {e : Expr} {es : List Expr} {ga gk : GA} {kws : List Keyword}
theorem ve_cv (h : FnV X.prog X.w X.K X.mg X.base d k ps F) (hr : Room k X.A) (hd : d.dfl = []) (hk : d.kwd = []) (hx : x = d.name)
    (hb : ∀ (kV doc pm : Value) (an : Option Addr) (cdv ct : Value) (us : List Value), us.length = ps.length → bindArgs (PySem.W.fnOf d.name d.qual d.params d.body d.scope .none kV doc pm an cdv ct) ⟨us, []⟩ = pure (ps.zip us))
    (hg : Gl X x) (ha : VA X EX (e :: es) ga) (hdb : (x == ("__debug__" : Str)) = false := by decide) (he : starEach (e :: es) X.env = (false, eval e X.env) :: starEach es X.env := by rfl) (hpl : (backTo pos (starEach es X.env)).any (·.1) = false := by rfl) :
    VE X EX (.Call (.Name x p) (e :: es) [] pos) (gCall F [] ga) := by
  obtain ⟨⟨fd, hf, hF⟩, hm⟩ := h
  have e1 : d.dvs X.K = [] := by unfold He.DefD.dvs; rw [hd]; rfl
  have e2 : d.kws X.K = [] := by unfold He.DefD.kws; rw [hk]; rfl
  have kp := hf.kp
  rw [e1] at hf
  have b := hf.bindsN hb
  subst hx
  exact ve_call hF hr hg hm kp b .nil .nil ha hdb he hpl
end
end VT
namespace VT
open PySem PySem.Spec PyProof.Rows L2
section
variable {X : Cx} {EX : EXT} {x : Str} {pos : Pos}
@[simp] def gNeg (g : GE) : GE := fun S Q => g S fun sv => ∃ i, sv.d = .int i ∧ Q (.tr (.int (-i)))
theorem ve_neg {a : Expr} {g : GE} (ha : VE X EX a g) : VE X EX (.UnaryOp .USub a pos) (gNeg g) :=
  ⟨fun G0 H0 tk => peMono (pe_un un_neg (ha.pe G0 H0 tk)) fun σ H Q ⟨G, S, Qs, R, q, k⟩ => ⟨G, S, _, R, q, fun v H1 G1 sv E1 r1 ⟨i, hi, q1⟩ => ⟨i, r1.int hi, kq_tr (d := .int (-i)) (kq_back E1 k) E1.ok rfl q1⟩⟩⟩
end
theorem hu65 {A : Around} {k : Nat} (hr : Room k A) : A.units + 65 < cLine := by have := hr.un; omega
theorem gName_eq (i : Nat) (S : S) (Q : SV → Prop) {sv : SV} (h : S[i]? = some (some sv)) : gName i S Q ↔ Q sv.look :=
  ⟨fun ⟨s, e, q⟩ => by rw [h] at e; cases e; exact q, fun q => ⟨sv, h, q⟩⟩
@[simp] theorem gName0 (a : SV) (r : S) (Q : SV → Prop) : gName 0 (some a :: r) Q ↔ Q a.look := gName_eq 0 _ Q rfl
@[simp] theorem gName1 (x0 : Option SV) (a : SV) (r : S) (Q : SV → Prop) : gName 1 (x0 :: some a :: r) Q ↔ Q a.look := gName_eq 1 _ Q rfl
@[simp] theorem gName2 (x0 x1 : Option SV) (a : SV) (r : S) (Q : SV → Prop) : gName 2 (x0 :: x1 :: some a :: r) Q ↔ Q a.look := gName_eq 2 _ Q rfl
@[simp] theorem gName3 (x0 x1 x2 : Option SV) (a : SV) (r : S) (Q : SV → Prop) : gName 3 (x0 :: x1 :: x2 :: some a :: r) Q ↔ Q a.look := gName_eq 3 _ Q rfl
@[simp] theorem gName4 (x0 x1 x2 x3 : Option SV) (a : SV) (r : S) (Q : SV → Prop) : gName 4 (x0 :: x1 :: x2 :: x3 :: some a :: r) Q ↔ Q a.look := gName_eq 4 _ Q rfl
@[simp] theorem gName5 (x0 x1 x2 x3 x4 : Option SV) (a : SV) (r : S) (Q : SV → Prop) : gName 5 (x0 :: x1 :: x2 :: x3 :: x4 :: some a :: r) Q ↔ Q a.look := gName_eq 5 _ Q rfl
@[simp] theorem gName6 (x0 x1 x2 x3 x4 x5 : Option SV) (a : SV) (r : S) (Q : SV → Prop) : gName 6 (x0 :: x1 :: x2 :: x3 :: x4 :: x5 :: some a :: r) Q ↔ Q a.look := gName_eq 6 _ Q rfl
@[simp] theorem gName7 (x0 x1 x2 x3 x4 x5 x6 : Option SV) (a : SV) (r : S) (Q : SV → Prop) : gName 7 (x0 :: x1 :: x2 :: x3 :: x4 :: x5 :: x6 :: some a :: r) Q ↔ Q a.look := gName_eq 7 _ Q rfl
@[simp] theorem gName8 (x0 x1 x2 x3 x4 x5 x6 x7 : Option SV) (a : SV) (r : S) (Q : SV → Prop) : gName 8 (x0 :: x1 :: x2 :: x3 :: x4 :: x5 :: x6 :: x7 :: some a :: r) Q ↔ Q a.look := gName_eq 8 _ Q rfl
@[simp] theorem gName9 (x0 x1 x2 x3 x4 x5 x6 x7 x8 : Option SV) (a : SV) (r : S) (Q : SV → Prop) : gName 9 (x0 :: x1 :: x2 :: x3 :: x4 :: x5 :: x6 :: x7 :: x8 :: some a :: r) Q ↔ Q a.look := gName_eq 9 _ Q rfl
end VT
namespace VT
open PySem PySem.Spec PyProof.Rows L2
@[simp] theorem sd_tr (d : D) : (SV.d (SV.tr d)) = (d) := rfl
@[simp] theorem slook_tr (d : D) : (SV.look (SV.tr d)) = ((SV.tr d)) := rfl
@[simp] theorem slet_tr (d : D) : (SV.let_ (SV.tr d)) = ((SV.tr d)) := rfl
@[simp] theorem sok_tr (d : D) : (SV.ok (SV.tr d)) = (True) := rfl
@[simp] theorem sarg_tr (d : D) : (SV.arg (SV.tr d)) = ((SV.tr d)) := rfl
@[simp] theorem sisarg_tr (d : D) : (SV.isArg (SV.tr d)) = (True) := rfl
@[simp] theorem sisret_tr (d : D) : (SV.isRet (SV.tr d)) = (True) := rfl
@[simp] theorem sstays_tr (c : Bool) (d : D) : (SV.stays c (SV.tr d)) = (True) := rfl
@[simp] theorem sd_own (d : D) : (SV.d (SV.own d)) = (d) := rfl
@[simp] theorem slook_own (d : D) : (SV.look (SV.own d)) = (SV.pk d) := rfl
@[simp] theorem slet_own (d : D) : (SV.let_ (SV.own d)) = (SV.tr d) := rfl
@[simp] theorem sok_own (d : D) : (SV.ok (SV.own d)) = (True) := rfl
@[simp] theorem sarg_own (d : D) : (SV.arg (SV.own d)) = (SV.brw d) := rfl
@[simp] theorem sisarg_own (d : D) : (SV.isArg (SV.own d)) = (False) := rfl
@[simp] theorem sisret_own (d : D) : (SV.isRet (SV.own d)) = (True) := rfl
@[simp] theorem sstays_own (c : Bool) (d : D) : (SV.stays c (SV.own d)) = (c = true) := rfl
@[simp] theorem sd_brw (d : D) : (SV.d (SV.brw d)) = (d) := rfl
@[simp] theorem slook_brw (d : D) : (SV.look (SV.brw d)) = ((SV.brw d)) := rfl
@[simp] theorem slet_brw (d : D) : (SV.let_ (SV.brw d)) = ((SV.brw d)) := rfl
@[simp] theorem sok_brw (d : D) : (SV.ok (SV.brw d)) = (True) := rfl
@[simp] theorem sarg_brw (d : D) : (SV.arg (SV.brw d)) = ((SV.brw d)) := rfl
@[simp] theorem sisarg_brw (d : D) : (SV.isArg (SV.brw d)) = (True) := rfl
@[simp] theorem sisret_brw (d : D) : (SV.isRet (SV.brw d)) = (False) := rfl
@[simp] theorem sstays_brw (c : Bool) (d : D) : (SV.stays c (SV.brw d)) = (True) := rfl
@[simp] theorem sd_pk (d : D) : (SV.d (SV.pk d)) = (d) := rfl
@[simp] theorem slook_pk (d : D) : (SV.look (SV.pk d)) = ((SV.pk d)) := rfl
@[simp] theorem slet_pk (d : D) : (SV.let_ (SV.pk d)) = ((SV.pk d)) := rfl
@[simp] theorem sok_pk (d : D) : (SV.ok (SV.pk d)) = (False) := rfl
@[simp] theorem sarg_pk (d : D) : (SV.arg (SV.pk d)) = (SV.brw d) := rfl
@[simp] theorem sisarg_pk (d : D) : (SV.isArg (SV.pk d)) = (False) := rfl
@[simp] theorem sisret_pk (d : D) : (SV.isRet (SV.pk d)) = (False) := rfl
@[simp] theorem sstays_pk (c : Bool) (d : D) : (SV.stays c (SV.pk d)) = (c = true) := rfl
@[simp] theorem sd_bag (d : D) : (SV.d SV.bag) = (D.opq) := rfl
@[simp] theorem slook_bag  : (SV.look SV.bag) = (SV.bag) := rfl
@[simp] theorem slet_bag  : (SV.let_ SV.bag) = (SV.bag) := rfl
@[simp] theorem sok_bag  : (SV.ok SV.bag) = (True) := rfl
@[simp] theorem sarg_bag  : (SV.arg SV.bag) = (SV.bag) := rfl
@[simp] theorem sisarg_bag  : (SV.isArg SV.bag) = (True) := rfl
@[simp] theorem sisret_bag  : (SV.isRet SV.bag) = (True) := rfl
@[simp] theorem sstays_bag (c : Bool) : (SV.stays c SV.bag) = (False) := rfl
@[simp] theorem isT_non_bool  : (D.isT D.non Ty.bool) = (false) := rfl
@[simp] theorem isT_non_int  : (D.isT D.non Ty.int) = (false) := rfl
@[simp] theorem isT_non_str  : (D.isT D.non Ty.str) = (false) := rfl
@[simp] theorem isT_non_list  : (D.isT D.non Ty.list) = (false) := rfl
@[simp] theorem isT_non_tuple  : (D.isT D.non Ty.tuple) = (false) := rfl
@[simp] theorem isT_non_dict  : (D.isT D.non Ty.dict) = (false) := rfl
@[simp] theorem kind_non  : (D.kind D.non) = (some "NoneType") := rfl
@[simp] theorem isNon_non  : (D.isNon D.non) = (true) := rfl
@[simp] theorem tru_non  : (D.tru D.non) = (some false) := rfl
@[simp] theorem items_non  : (D.items D.non) = (none) := rfl
@[simp] theorem isT_bl_bool (b : Bool) : (D.isT (D.bl b) Ty.bool) = (true) := rfl
@[simp] theorem isT_bl_int (b : Bool) : (D.isT (D.bl b) Ty.int) = (true) := rfl
@[simp] theorem isT_bl_str (b : Bool) : (D.isT (D.bl b) Ty.str) = (false) := rfl
@[simp] theorem isT_bl_list (b : Bool) : (D.isT (D.bl b) Ty.list) = (false) := rfl
@[simp] theorem isT_bl_tuple (b : Bool) : (D.isT (D.bl b) Ty.tuple) = (false) := rfl
@[simp] theorem isT_bl_dict (b : Bool) : (D.isT (D.bl b) Ty.dict) = (false) := rfl
@[simp] theorem kind_bl (b : Bool) : (D.kind (D.bl b)) = (some "bool") := rfl
@[simp] theorem isNon_bl (b : Bool) : (D.isNon (D.bl b)) = (false) := rfl
@[simp] theorem tru_bl (b : Bool) : (D.tru (D.bl b)) = (some b) := rfl
@[simp] theorem items_bl (b : Bool) : (D.items (D.bl b)) = (none) := rfl
@[simp] theorem isT_int_bool (i : Int) : (D.isT (D.int i) Ty.bool) = (false) := rfl
@[simp] theorem isT_int_int (i : Int) : (D.isT (D.int i) Ty.int) = (true) := rfl
@[simp] theorem isT_int_str (i : Int) : (D.isT (D.int i) Ty.str) = (false) := rfl
@[simp] theorem isT_int_list (i : Int) : (D.isT (D.int i) Ty.list) = (false) := rfl
@[simp] theorem isT_int_tuple (i : Int) : (D.isT (D.int i) Ty.tuple) = (false) := rfl
@[simp] theorem isT_int_dict (i : Int) : (D.isT (D.int i) Ty.dict) = (false) := rfl
@[simp] theorem kind_int (i : Int) : (D.kind (D.int i)) = (some "int") := rfl
@[simp] theorem isNon_int (i : Int) : (D.isNon (D.int i)) = (false) := rfl
@[simp] theorem tru_int (i : Int) : (D.tru (D.int i)) = (some (i != 0)) := rfl
@[simp] theorem items_int (i : Int) : (D.items (D.int i)) = (none) := rfl
@[simp] theorem isT_str_bool (x : Str) : (D.isT (D.str x) Ty.bool) = (false) := rfl
@[simp] theorem isT_str_int (x : Str) : (D.isT (D.str x) Ty.int) = (false) := rfl
@[simp] theorem isT_str_str (x : Str) : (D.isT (D.str x) Ty.str) = (true) := rfl
@[simp] theorem isT_str_list (x : Str) : (D.isT (D.str x) Ty.list) = (false) := rfl
@[simp] theorem isT_str_tuple (x : Str) : (D.isT (D.str x) Ty.tuple) = (false) := rfl
@[simp] theorem isT_str_dict (x : Str) : (D.isT (D.str x) Ty.dict) = (false) := rfl
@[simp] theorem kind_str (x : Str) : (D.kind (D.str x)) = (some "str") := rfl
@[simp] theorem isNon_str (x : Str) : (D.isNon (D.str x)) = (false) := rfl
@[simp] theorem tru_str (x : Str) : (D.tru (D.str x)) = (some (x.length != 0)) := rfl
@[simp] theorem items_str (x : Str) : (D.items (D.str x)) = (some (x.cps.toList.map fun c => D.str ⟨#[c]⟩)) := rfl
@[simp] theorem isT_lst_bool (xs : List D) : (D.isT (D.lst xs) Ty.bool) = (false) := rfl
@[simp] theorem isT_lst_int (xs : List D) : (D.isT (D.lst xs) Ty.int) = (false) := rfl
@[simp] theorem isT_lst_str (xs : List D) : (D.isT (D.lst xs) Ty.str) = (false) := rfl
@[simp] theorem isT_lst_list (xs : List D) : (D.isT (D.lst xs) Ty.list) = (true) := rfl
@[simp] theorem isT_lst_tuple (xs : List D) : (D.isT (D.lst xs) Ty.tuple) = (false) := rfl
@[simp] theorem isT_lst_dict (xs : List D) : (D.isT (D.lst xs) Ty.dict) = (false) := rfl
@[simp] theorem kind_lst (xs : List D) : (D.kind (D.lst xs)) = (some "list") := rfl
@[simp] theorem isNon_lst (xs : List D) : (D.isNon (D.lst xs)) = (false) := rfl
@[simp] theorem tru_lst (xs : List D) : (D.tru (D.lst xs)) = (some (!xs.isEmpty)) := rfl
@[simp] theorem items_lst (xs : List D) : (D.items (D.lst xs)) = (some xs) := rfl
@[simp] theorem isT_tup_bool (xs : List D) : (D.isT (D.tup xs) Ty.bool) = (false) := rfl
@[simp] theorem isT_tup_int (xs : List D) : (D.isT (D.tup xs) Ty.int) = (false) := rfl
@[simp] theorem isT_tup_str (xs : List D) : (D.isT (D.tup xs) Ty.str) = (false) := rfl
@[simp] theorem isT_tup_list (xs : List D) : (D.isT (D.tup xs) Ty.list) = (false) := rfl
@[simp] theorem isT_tup_tuple (xs : List D) : (D.isT (D.tup xs) Ty.tuple) = (true) := rfl
@[simp] theorem isT_tup_dict (xs : List D) : (D.isT (D.tup xs) Ty.dict) = (false) := rfl
@[simp] theorem kind_tup (xs : List D) : (D.kind (D.tup xs)) = (some "tuple") := rfl
@[simp] theorem isNon_tup (xs : List D) : (D.isNon (D.tup xs)) = (false) := rfl
@[simp] theorem tru_tup (xs : List D) : (D.tru (D.tup xs)) = (some (!xs.isEmpty)) := rfl
@[simp] theorem items_tup (xs : List D) : (D.items (D.tup xs)) = (some xs) := rfl
@[simp] theorem isT_dic_bool (kvs : List (Key × D)) : (D.isT (D.dic kvs) Ty.bool) = (false) := rfl
@[simp] theorem isT_dic_int (kvs : List (Key × D)) : (D.isT (D.dic kvs) Ty.int) = (false) := rfl
@[simp] theorem isT_dic_str (kvs : List (Key × D)) : (D.isT (D.dic kvs) Ty.str) = (false) := rfl
@[simp] theorem isT_dic_list (kvs : List (Key × D)) : (D.isT (D.dic kvs) Ty.list) = (false) := rfl
@[simp] theorem isT_dic_tuple (kvs : List (Key × D)) : (D.isT (D.dic kvs) Ty.tuple) = (false) := rfl
@[simp] theorem isT_dic_dict (kvs : List (Key × D)) : (D.isT (D.dic kvs) Ty.dict) = (true) := rfl
@[simp] theorem kind_dic (kvs : List (Key × D)) : (D.kind (D.dic kvs)) = (some "dict") := rfl
@[simp] theorem isNon_dic (kvs : List (Key × D)) : (D.isNon (D.dic kvs)) = (false) := rfl
@[simp] theorem tru_dic (kvs : List (Key × D)) : (D.tru (D.dic kvs)) = (some (!kvs.isEmpty)) := rfl
@[simp] theorem items_dic (kvs : List (Key × D)) : (D.items (D.dic kvs)) = (none) := rfl
@[simp] theorem isT_dit_bool (kvt : List (List Key × D)) : (D.isT (D.dit kvt) Ty.bool) = (false) := rfl
@[simp] theorem isT_dit_int (kvt : List (List Key × D)) : (D.isT (D.dit kvt) Ty.int) = (false) := rfl
@[simp] theorem isT_dit_str (kvt : List (List Key × D)) : (D.isT (D.dit kvt) Ty.str) = (false) := rfl
@[simp] theorem isT_dit_list (kvt : List (List Key × D)) : (D.isT (D.dit kvt) Ty.list) = (false) := rfl
@[simp] theorem isT_dit_tuple (kvt : List (List Key × D)) : (D.isT (D.dit kvt) Ty.tuple) = (false) := rfl
@[simp] theorem isT_dit_dict (kvt : List (List Key × D)) : (D.isT (D.dit kvt) Ty.dict) = (true) := rfl
@[simp] theorem kind_dit (kvt : List (List Key × D)) : (D.kind (D.dit kvt)) = (some "dict") := rfl
@[simp] theorem isNon_dit (kvt : List (List Key × D)) : (D.isNon (D.dit kvt)) = (false) := rfl
@[simp] theorem tru_dit (kvt : List (List Key × D)) : (D.tru (D.dit kvt)) = (none) := rfl
@[simp] theorem items_dit (kvt : List (List Key × D)) : (D.items (D.dit kvt)) = (none) := rfl
@[simp] theorem isT_ins_bool (C : Addr) (fs : List (Str × D)) : (D.isT (D.ins C fs) Ty.bool) = (false) := rfl
@[simp] theorem isT_ins_int (C : Addr) (fs : List (Str × D)) : (D.isT (D.ins C fs) Ty.int) = (false) := rfl
@[simp] theorem isT_ins_str (C : Addr) (fs : List (Str × D)) : (D.isT (D.ins C fs) Ty.str) = (false) := rfl
@[simp] theorem isT_ins_list (C : Addr) (fs : List (Str × D)) : (D.isT (D.ins C fs) Ty.list) = (false) := rfl
@[simp] theorem isT_ins_tuple (C : Addr) (fs : List (Str × D)) : (D.isT (D.ins C fs) Ty.tuple) = (false) := rfl
@[simp] theorem isT_ins_dict (C : Addr) (fs : List (Str × D)) : (D.isT (D.ins C fs) Ty.dict) = (false) := rfl
@[simp] theorem kind_ins (C : Addr) (fs : List (Str × D)) : (D.kind (D.ins C fs)) = (none) := rfl
@[simp] theorem isNon_ins (C : Addr) (fs : List (Str × D)) : (D.isNon (D.ins C fs)) = (false) := rfl
@[simp] theorem tru_ins (C : Addr) (fs : List (Str × D)) : (D.tru (D.ins C fs)) = (none) := rfl
@[simp] theorem items_ins (C : Addr) (fs : List (Str × D)) : (D.items (D.ins C fs)) = (none) := rfl
@[simp] theorem isT_opq_bool  : (D.isT D.opq Ty.bool) = (false) := rfl
@[simp] theorem isT_opq_int  : (D.isT D.opq Ty.int) = (false) := rfl
@[simp] theorem isT_opq_str  : (D.isT D.opq Ty.str) = (false) := rfl
@[simp] theorem isT_opq_list  : (D.isT D.opq Ty.list) = (false) := rfl
@[simp] theorem isT_opq_tuple  : (D.isT D.opq Ty.tuple) = (false) := rfl
@[simp] theorem isT_opq_dict  : (D.isT D.opq Ty.dict) = (false) := rfl
@[simp] theorem kind_opq  : (D.kind D.opq) = (none) := rfl
@[simp] theorem isNon_opq  : (D.isNon D.opq) = (false) := rfl
@[simp] theorem tru_opq  : (D.tru D.opq) = (none) := rfl
@[simp] theorem items_opq  : (D.items D.opq) = (none) := rfl
@[simp] theorem rd_4 (CC : Int → Int → Prop) (f : Int → Int → D) (i : Int) (j : Int) (Q : SV → Prop) : (gI CC f (D.int i) (D.int j) Q) = (CC i j ∧ Q (.tr (f i j))) := rfl
@[simp] theorem rd_15 (i : Int) (j : Int) (Q : SV → Prop) : (gMul (D.int i) (D.int j) Q) = (CMulW i j ∧ Q (.tr (.int (i * j)))) := rfl
@[simp] theorem rd_16 (xs : List D) (k : Int) (Q : SV → Prop) : (gMul (D.lst xs) (D.int k) Q) = ((0 ≤ k ∧ k < 2 ^ 40 ∧ xs.length * k.toNat ≤ sizeLine) ∧ Q (.own (.lst (List.replicate k.toNat xs).flatten))) := rfl
@[simp] theorem rd_17 (x : Str) (k : Int) (Q : SV → Prop) : (gMul (D.str x) (D.int k) Q) = ((0 ≤ k ∧ k ≤ 1000 ∧ x.length ≤ 1000) ∧ Q (.tr (.str (Txt.mul x k)))) := rfl
@[simp] theorem rd_20 (T : String) (x : Str) : (tyD T (D.str x)) = (T = "str") := rfl
@[simp] theorem rd_21 (T : String) (xs : List D) : (tyD T (D.lst xs)) = (T = "list") := rfl
@[simp] theorem rd_22 (xs : List D) (Q : SV → Prop) : (gLen [(D.lst xs)] Q) = (Q (.tr (.int xs.length))) := rfl
@[simp] theorem rd_23 (xs : List D) (Q : SV → Prop) : (gLen [(D.tup xs)] Q) = (Q (.tr (.int xs.length))) := rfl
@[simp] theorem rd_24 (x : Str) (Q : SV → Prop) : (gLen [(D.str x)] Q) = (Q (.tr (.int x.length))) := rfl
@[simp] theorem rd_25 (xs : List D) (Q : SV → Prop) : (gAll [(D.lst xs)] Q) = (∃ bs, blsD xs = some bs ∧ Q (.tr (.bl (bs.all id)))) := rfl
@[simp] theorem rd_28 (neg : Bool) (d : D) (ys : List D) (Q : SV → Prop) : (gIn neg d (D.lst ys) Q) = (d.dat = true ∧ dats ys = true ∧ d.dep ≤ 60 ∧ deps ys ≤ 60 ∧ Q (.tr (.bl (if neg then !ys.any (fun z => deq z d) else ys.any fun z => deq z d)))) := rfl
@[simp] theorem rd_29 (neg : Bool) (d : D) (ys : List D) (Q : SV → Prop) : (gIn neg d (D.tup ys) Q) = (d.flat = true ∧ ys.all D.flat = true ∧ Q (.tr (.bl (if neg then !ys.any (fun z => deq z d) else ys.any fun z => deq z d)))) := rfl
@[simp] theorem rd_30 (xs : List D) (i : Int) (Q : SV → Prop) : (gIxD (D.lst xs) (D.int i) Q) = (∃ d, atI xs i = some d ∧ Q (.tr d)) := rfl
@[simp] theorem rd_31 (xs : List D) (i : Int) (Q : SV → Prop) : (gIxD (D.tup xs) (D.int i) Q) = (∃ d, atI xs i = some d ∧ Q (.tr d)) := rfl
@[simp] theorem rd_32 (z : Str) (i : Int) (Q : SV → Prop) : (gIxD (D.str z) (D.int i) Q) = (∃ c, atI z.cps.toList i = some c ∧ Q (.tr (.str ⟨#[c]⟩))) := rfl
@[simp] theorem rd_33 (xs : List D) (lo : Option Int) (hi : Option Int) (Q : SV → Prop) : (gSlD (D.lst xs) lo hi Q) = (Q (.own (.lst (cutD xs lo hi)))) := rfl
@[simp] theorem rd_34 (xs : List D) (lo : Option Int) (hi : Option Int) (Q : SV → Prop) : (gSlD (D.tup xs) lo hi Q) = (Q (.tr (.tup (cutD xs lo hi)))) := rfl
@[simp] theorem rd_35 (z : Str) (lo : Option Int) (hi : Option Int) (Q : SV → Prop) : (gSlD (D.str z) lo hi Q) = (Q (.tr (.str (cutS z lo hi)))) := rfl
@[simp] theorem gIn_sign (neg : Bool) (z : Str) (c : Nat) (Q : SV → Prop) : (gIn neg (D.str ⟨#[c]⟩) (D.str z) Q) = (Q (.tr (.bl (if neg then !decide (c ∈ z.cps.toList) else decide (c ∈ z.cps.toList))))) := by
  simp [gIn, sign?]
theorem gSeq_go {g g' : GS} {D : VEnds} {S : S} (h : ∀ R, R = g' D → g { D with nx := R } S) : gSeq g g' D S := h _ rfl
def LcW (gg : GG) (gt : GT) (ge : GE) (vs : List Nat) (S : S) (Q : SV → Prop) (ds : List D) : Prop := ∃ W : List D → List D → Prop, W ds [] ∧ (∀ acc, W [] acc → Q (.own (.lst acc))) ∧
  ∀ d r acc, W (d :: r) acc → gg d (wipeS S vs) fun S2 => gt S2 fun b => if b = true then ge S2 fun sv => ∃ y, sv = .tr y ∧ acc.length < sizeLine ∧ W r (acc ++ [y]) else W r acc
@[simp] theorem gLc_eq (gi : GI) (gg : GG) (gt : GT) (ge : GE) (vs : List Nat) (S : S) (Q : SV → Prop) : gLc gi gg gt ge vs S Q = gi S (LcW gg gt ge vs S Q) := rfl
def ForW (gg : GG) (gb : GS) (D : VEnds) (S : S) (ds : List VT.D) : Prop := ∃ W : List VT.D → VT.S → Prop, W ds S ∧ (∀ S', W [] S' → D.nx S') ∧
  ∀ d r S1, W (d :: r) S1 → gg d S1 fun S2 => gb { nx := W r, rt := D.rt, bk := D.nx, ct := W r } S2
@[simp] theorem gFor_eq (gi : GI) (gg : GG) (gb : GS) (D : VEnds) (S : S) : gFor gi gg gb D S = gi S (ForW gg gb D S) := rfl
section
variable {gg : GG} {gt : GT} {ge : GE} {vs : List Nat} {S : S} {Q : SV → Prop} {ds : List D}
theorem lcW_filter {α : Type} (g : α → D) (keep : α → Bool) (f : α → D) {as : List α} (hds : ds = as.map g) (hl : as.length ≤ sizeLine) (hs : ∀ a ∈ as, ∀ (R : SV → Prop) (R2 : Prop), (keep a = true → R (.tr (f a))) → (keep a = false → R2) → gg (g a) (wipeS S vs) fun S2 => gt S2 fun b => if b = true then ge S2 R else R2)
    (q : Q (.own (.lst ((as.filter keep).map f)))) : LcW gg gt ge vs S Q ds := by
  subst hds
  refine ⟨fun r acc => ∃ l r', as = l ++ r' ∧ r = r'.map g ∧ acc = (l.filter keep).map f, ⟨[], as, rfl, rfl, rfl⟩, fun acc ⟨l, r', e, er, ea⟩ => ?_, fun d r acc ⟨l, r', e, er, ea⟩ => ?_⟩
  · cases r' with
    | cons _ _ => simp at er
    | nil =>
      rw [List.append_nil] at e
      rw [ea, ← e]
      exact q
  · cases r' with
    | nil => simp at er
    | cons a r' =>
      simp at er
      obtain ⟨rfl, rfl⟩ := er
      have hd : a ∈ as := by rw [e]; simp
      have h2 : (l.filter keep).length ≤ l.length := List.length_filter_le _ _
      have hlen : acc.length < sizeLine := by
        rw [ea, List.length_map]
        rw [e] at hl
        simp at hl
        omega
      exact hs a hd _ _ (fun k => ⟨_, rfl, hlen, l ++ [a], r', by rw [e]; simp, rfl, by rw [ea]; simp [k]⟩) fun k => ⟨l ++ [a], r', by rw [e]; simp, rfl, by rw [ea]; simp [k]⟩
theorem lcW_map {α : Type} (g : α → D) (f : α → D) {as : List α} (hds : ds = as.map g) (hl : as.length ≤ sizeLine) (hs : ∀ a ∈ as, ∀ R : SV → Prop, R (.tr (f a)) → gg (g a) (wipeS S vs) fun S2 => ge S2 R)
    (q : Q (.own (.lst (as.map f)))) : LcW gg gYes ge vs S Q ds :=
  lcW_filter g (fun _ => true) f hds hl (fun d hd R R2 h1 h2 => by simpa using hs d hd R (h1 rfl)) (by rw [List.filter_eq_self.mpr fun _ _ => rfl]; exact q)
end
@[simp] theorem le_sizeLine (n : Nat) : (n ≤ sizeLine) = (n ≤ 16777216) := rfl
@[simp] theorem lt_sizeLine (n : Nat) : (n < sizeLine) = (n < 16777216) := rfl
theorem atI_lt {α : Type} {xs : List α} {r : Int} (h0 : 0 ≤ r) (h1 : r < xs.length) : ∃ d, d ∈ xs ∧ atI xs r = some d := by
  have hj : r.toNat < xs.length := by omega
  refine ⟨xs[r.toNat], List.getElem_mem hj, ?_⟩
  unfold atI ixN
  rw [if_pos (by omega), if_pos (by omega)]
  simp
theorem log_lt {n : Nat} (h : n ≤ 10 ^ 40) : n.log2 < 9000 := by
  by_cases h0 : n = 0
  · subst h0; decide
  · rw [Nat.log2_lt h0]
    exact Nat.lt_of_le_of_lt h (Nat.lt_of_lt_of_le (by decide : 10 ^ 40 < 2 ^ 200) (Nat.pow_le_pow_right (by decide) (by decide)))
theorem zipD_eq : ∀ xs ys : List D, zipD xs ys = (xs.zip ys).map fun p => .tup [p.1, p.2]
  | x :: xs, y :: ys => by rw [zipD, List.zip_cons_cons, List.map_cons, zipD_eq xs ys]
  | [], _ => by simp [zipD]
  | _ :: _, [] => by simp [zipD]
def zipR (c : Bool) (Q : List D → Prop) : List SV → Prop := fun svs => ∃ sx sy, svs = [sx, sy] ∧ ((∃ ds es, sx.stays c ∧ sy.stays c ∧ sx.d = .lst ds ∧ sy.d = .lst es ∧ Q (zipD ds es)) ∨ (∃ ds es, sx.d = .tup ds ∧ sy.d = .tup es ∧ Q (zipD ds es)))
@[simp] theorem giZip_eq (c : Bool) (ga : GA) (S : S) (Q : List D → Prop) : giZip c ga S Q = ga S (zipR c Q) := rfl
theorem zipR_lst (c : Bool) (Q : List D → Prop) (x y : SV) (xs ys : List D) (hx : x.d = .lst xs) (hy : y.d = .lst ys) (sx : x.stays c) (sy : y.stays c) : zipR c Q [x, y] ↔ Q (zipD xs ys) := by
  constructor
  · rintro ⟨a, b, e, h⟩
    cases e
    rcases h with ⟨_, _, _, _, e1, e2, h⟩ | ⟨_, _, e1, e2, h⟩ <;> rw [hx] at e1 <;> rw [hy] at e2 <;> cases e1 <;> cases e2
    exact h
  · exact fun h => ⟨x, y, rfl, .inl ⟨xs, ys, sx, sy, hx, hy, h⟩⟩
@[simp] theorem zipR_tup (c : Bool) (Q : List D → Prop) (xs ys : List D) : zipR c Q [.tr (.tup xs), .tr (.tup ys)] ↔ Q (zipD xs ys) := by
  constructor
  · rintro ⟨a, b, e, h⟩
    cases e
    rcases h with ⟨_, _, _, _, e1, e2, h⟩ | ⟨_, _, e1, e2, h⟩ <;> cases e1 <;> cases e2
    exact h
  · exact fun h => ⟨_, _, rfl, .inr ⟨xs, ys, rfl, rfl, h⟩⟩
@[simp] theorem dat_non : D.dat D.non = true := rfl
@[simp] theorem dep_non : D.dep D.non = 0 := rfl
@[simp] theorem flat_non : D.flat D.non = true := rfl
@[simp] theorem dat_bl (b : Bool) : D.dat (D.bl b) = true := rfl
@[simp] theorem dep_bl (b : Bool) : D.dep (D.bl b) = 0 := rfl
@[simp] theorem flat_bl (b : Bool) : D.flat (D.bl b) = true := rfl
@[simp] theorem dat_int (i : Int) : D.dat (D.int i) = true := rfl
@[simp] theorem dep_int (i : Int) : D.dep (D.int i) = 0 := rfl
@[simp] theorem flat_int (i : Int) : D.flat (D.int i) = true := rfl
@[simp] theorem dat_str (x : Str) : D.dat (D.str x) = true := rfl
@[simp] theorem dep_str (x : Str) : D.dep (D.str x) = 0 := rfl
@[simp] theorem flat_str (x : Str) : D.flat (D.str x) = true := rfl
@[simp] theorem dat_lst (xs : List D) : D.dat (.lst xs) = dats xs := rfl
@[simp] theorem dat_tup (xs : List D) : D.dat (.tup xs) = dats xs := rfl
@[simp] theorem dep_lst (xs : List D) : D.dep (.lst xs) = deps xs + 1 := rfl
@[simp] theorem dep_tup (xs : List D) : D.dep (.tup xs) = deps xs + 1 := rfl
@[simp] theorem dats_nil : dats [] = true := rfl
@[simp] theorem dats_cons (x : D) (xs : List D) : dats (x :: xs) = (x.dat && dats xs) := rfl
@[simp] theorem deps_nil : deps [] = 0 := rfl
@[simp] theorem deps_cons (x : D) (xs : List D) : deps (x :: xs) = max x.dep (deps xs) := rfl
@[simp] theorem deq_bl (a b : Bool) : deq (.bl a) (.bl b) = (a == b) := rfl
@[simp] theorem deq_int (a b : Int) : deq (.int a) (.int b) = (a == b) := rfl
@[simp] theorem deq_str (a b : Str) : deq (.str a) (.str b) = (a == b) := rfl
@[simp] theorem deq_non : deq .non .non = true := rfl
@[simp] theorem deq_lst (xs ys : List D) : deq (.lst xs) (.lst ys) = deqs xs ys := rfl
@[simp] theorem deq_tup (xs ys : List D) : deq (.tup xs) (.tup ys) = deqs xs ys := rfl
@[simp] theorem deqs_nil : deqs [] [] = true := rfl
@[simp] theorem deqs_cons (x y : D) (xs ys : List D) : deqs (x :: xs) (y :: ys) = (deq x y && deqs xs ys) := rfl
@[simp] theorem deqs_nc (y : D) (ys : List D) : deqs [] (y :: ys) = false := rfl
@[simp] theorem deqs_cn (x : D) (xs : List D) : deqs (x :: xs) [] = false := rfl
@[simp] theorem zipR_tt (c : Bool) (Q : List D → Prop) (xs ys : List D) : zipR c Q [.tr (.lst xs), .tr (.lst ys)] ↔ Q (zipD xs ys) := zipR_lst c Q _ _ xs ys rfl rfl trivial trivial
@[simp] theorem zipR_bt (c : Bool) (Q : List D → Prop) (xs ys : List D) : zipR c Q [.brw (.lst xs), .tr (.lst ys)] ↔ Q (zipD xs ys) := zipR_lst c Q _ _ xs ys rfl rfl trivial trivial
@[simp] theorem zipR_tb (c : Bool) (Q : List D → Prop) (xs ys : List D) : zipR c Q [.tr (.lst xs), .brw (.lst ys)] ↔ Q (zipD xs ys) := zipR_lst c Q _ _ xs ys rfl rfl trivial trivial
@[simp] theorem zipR_bb (c : Bool) (Q : List D → Prop) (xs ys : List D) : zipR c Q [.brw (.lst xs), .brw (.lst ys)] ↔ Q (zipD xs ys) := zipR_lst c Q _ _ xs ys rfl rfl trivial trivial
mutual
def D.wid : D → Bool
  | .lst xs | .tup xs => decide (xs.length ≤ 4096) && wids xs
  | _ => true
def wids : List D → Bool
  | [] => true
  | x :: xs => x.wid && wids xs
end
@[simp] theorem wid_lst (xs : List D) : D.wid (.lst xs) = (decide (xs.length ≤ 4096) && wids xs) := rfl
@[simp] theorem wid_tup (xs : List D) : D.wid (.tup xs) = (decide (xs.length ≤ 4096) && wids xs) := rfl
@[simp] theorem wid_non : D.wid .non = true := rfl
@[simp] theorem wid_bl (b : Bool) : D.wid (.bl b) = true := rfl
@[simp] theorem wid_int (b : Int) : D.wid (.int b) = true := rfl
@[simp] theorem wid_str (b : Str) : D.wid (.str b) = true := rfl
@[simp] theorem wids_nil : wids [] = true := rfl
@[simp] theorem wids_cons (x : D) (xs : List D) : wids (x :: xs) = (x.wid && wids xs) := rfl
theorem wids_all {xs : List D} (h : wids xs = true) : ∀ x ∈ xs, x.wid = true := by
  induction xs with
  | nil => intro x hx; cases hx
  | cons y ys ih =>
    intro x hx
    simp at h
    cases hx with
    | head => exact h.1
    | tail _ hx => exact ih h.2 x hx
theorem dep_lt_of_mem {xs : List D} {n : Nat} (h : deps xs < n) : ∀ x ∈ xs, x.dep < n := by
  intro x hx
  induction xs with
  | nil => cases hx
  | cons y ys ih =>
    simp at h
    cases hx with
    | head => omega
    | tail _ hx => exact ih (by omega) hx
theorem dats_all {xs : List D} (h : dats xs = true) : ∀ x ∈ xs, x.dat = true := by
  induction xs with
  | nil => intro x hx; cases hx
  | cons y ys ih =>
    intro x hx
    simp at h
    cases hx with
    | head => exact h.1
    | tail _ hx => exact ih h.2 x hx
end VT
namespace VT
open PySem PySem.Spec PyProof.Rows L2
@[simp] theorem rngD_len (lo : Int) (n : Nat) : (rngD lo n).length = n := by simp [rngD]
def cellsV (ns : List Int) : List V := (ns.take 63).map V.int
def spBag (K : PySem.W.Frag) : Sp := fun vs H Q _ => ∃ (a : Addr) (ns : List Int), vs = [.ref a] ∧ SqL K H a (ns.map V.int) ∧
  ∀ H' c p, H c = none → H p = none → H' c = some (.lst (cellsV ns)) → H' p = some (.lst [.ref c, .int 0, .int 0, .int (10004 + 13 * (cellsV ns).length)]) → (∀ b o, H b = some o → H' b = some o) → Q (.ref p) H'
theorem cut63 (ns : List Int) : cutV (ns.map V.int) none (some 63) = cellsV ns := by
  unfold cutV cellsV HT.sIx
  rw [List.map_take]
  simp
theorem cells_len (ns : List Int) : (cellsV ns).length ≤ 63 := by
  unfold cellsV
  rw [List.length_map, List.length_take]
  omega
def bagF (c : Addr) (ns : List Int) (T : TBL) (H' : Hp) : Hp := fun x => if x = c then some (HO.lst (cellsV ns)) else if T.tups.any (fun q => decide (q.1 = x)) = true then H' x else none
theorem bag_start {K : PySem.W.Frag} {ns : List Int} {H' : Hp} {c p : Addr} {g : GS} {D : Ends} {σ : L2.St} {n : Nat} (hcp : c ≠ p) (hc : H' c = some (.lst (cellsV ns))) (hp : H' p = some (.lst [.ref c, .int 0, .int 0, .int (10004 + 13 * (cellsV ns).length)])) (hσ1 : σ[1]? = some (some (.ref p))) (hσ : σ.length = n + 2) (hT : (∀ p ∈ (TabsOf K).tabs, H' p.1 = some (.tbl #[])) ∧ ∀ p ∈ (TabsOf K).tups, ∃ (o : Obj) (vs : List V), o.dict = none ∧ H' p.1 = some (.frz o (.tup vs)) ∧ reps (fun _ => none) p.2 vs)
    (DV : VEnds) (q : g DV (none :: some .bag :: List.replicate n none)) (hnx : ∀ S, DV.nx S → ∀ σ H, D.nx σ H) (hrt : ∀ sv, DV.rt sv → ∀ v H, (∀ G H0, RepV H0 H0 G H v sv → D.rt v H)) (hbk : ∀ S, ¬ DV.bk S) (hct : ∀ S, ¬ DV.ct S) : tEx K g D σ H' := by
  have nt : ∀ b, (TabsOf K).tups.any (fun q => decide (q.1 = b)) = true → ∃ o vs, H' b = some (.frz o (.tup vs)) := fun b h => by
    obtain ⟨q, hq, e⟩ := List.any_eq_true.mp h
    obtain ⟨o, vs, _, z, _⟩ := hT.2 q hq
    rw [of_decide_eq_true e] at z
    exact ⟨o, vs, z⟩
  have nf : ∀ (b : Addr) (u : HO), H' b = some u → (∀ o vs, u ≠ .frz o (.tup vs)) → b ≠ c → (bagF c ns (TabsOf K) H') b = none := fun b u e n hb => by
    unfold bagF
    rw [if_neg hb]
    cases h : (TabsOf K).tups.any fun q => decide (q.1 = b) with
    | false => rfl
    | true =>
      obtain ⟨o, vs, z⟩ := nt b h
      rw [e] at z
      exact (n o vs (Option.some.inj z)).elim
  have ne : (bagF c ns (TabsOf K) H') p = none := nf p _ hp (by intro o vs z; cases z) (Ne.symm hcp)
  have ec : (bagF c ns (TabsOf K) H') c = some (.lst (cellsV ns)) := by unfold bagF; rw [if_pos rfl]
  have ok : OkG ⟨bagF c ns (TabsOf K) H', some p, TabsOf K⟩ H' := by
    refine ⟨fun b o e => ?_, fun q e => ?_, ⟨fun p hp => ⟨nf _ _ (hT.1 p hp) (by intro o vs z; cases z) (fun z => by have z : p.1 = c := z; have q := hT.1 p hp; rw [z, hc] at q; cases q), #[], hT.1 p hp, True.intro, fun pos cv hc => by simp [codeAmong] at hc⟩, fun p hp => ?_⟩, fun kt a o vs e ks z => ?_⟩
    · have e : bagF c ns (TabsOf K) H' b = some o := e
      unfold bagF at e
      split at e
      · rename_i hb
        rw [hb, hc]
        exact e
      · split at e
        · exact e
        · cases e
    · have e2 : p = q := Option.some.inj e
      subst e2
      have := cells_len ns
      refine ⟨⟨c, ns.take 63, 0, 0, _, hp, ec, by rw [List.length_take]; omega, by omega, by omega, by omega, by omega⟩, ne⟩
    · obtain ⟨o, vs, h1, h2, h3⟩ := hT.2 p hp
      refine ⟨o, vs, h1, ?_, h3⟩
      show bagF c ns (TabsOf K) H' p.1 = _
      unfold bagF
      have hc2 : p.1 ≠ c := fun z => by rw [z, hc] at h2; cases h2
      have ha : ((TabsOf K).tups.any fun q => decide (q.1 = p.1)) = true := List.any_eq_true.mpr ⟨p, hp, by simp⟩
      rw [if_neg hc2, if_pos ha]
      exact h2
    · have e : bagF c ns (TabsOf K) H' a = some (.frz o (.tup vs)) := e
      unfold bagF at e
      split at e
      · cases e
      · split at e
        · rename_i h
          obtain ⟨q, hq, e3⟩ := List.any_eq_true.mp h
          obtain ⟨o2, vs2, _, z2, r2⟩ := hT.2 q hq
          rw [of_decide_eq_true e3, e] at z2
          cases z2
          obtain ⟨ds, hds⟩ := kt_tups kt q hq
          rw [hds] at r2
          obtain ⟨v, t, e4, rv, _⟩ := r2
          have rv : v = .non := rv
          rw [e4, rv] at z
          cases ks with
          | nil => cases z
          | cons k ks =>
            rw [List.map_cons] at z
            injection z with z _
            cases k <;> cases z
        · cases e
  refine ⟨⟨bagF c ns (TabsOf K) H', some p, TabsOf K⟩, H', rfl, ⟨bagF c ns (TabsOf K) H', some p, TabsOf K⟩, none :: some .bag :: List.replicate n none, DV, ?_, q, ⟨fun σ H G S _ _ h => hnx S h σ H, fun v H G sv _ r _ h => hrt sv h v H G _ r, fun _ _ _ S _ _ h => (hbk S h).elim, fun _ _ _ S _ _ h => (hct S h).elim⟩⟩
  have hs : ∀ (i : Nat) (sv : SV), (none :: some SV.bag :: List.replicate n (none : Option SV))[i]? = some (some sv) → i = 1 ∧ sv = .bag := by
    intro i sv e
    match i with
    | 0 => simp at e
    | 1 => simp at e; exact ⟨rfl, e.symm⟩
    | i + 2 =>
      simp at e
      rw [List.getElem?_replicate] at e
      split at e <;> cases e
  refine ⟨.refl ok, by simp [hσ], fun i sv e => ?_, fun i j sv sw v w b _ e _ _ _ o => ?_, fun i sv e => ?_⟩
  · obtain ⟨rfl, rfl⟩ := hs i sv e
    exact ⟨_, hσ1, p, rfl, rfl⟩
  · obtain ⟨rfl, rfl⟩ := hs i sv e
    exact o.elim
  · obtain ⟨rfl, rfl⟩ := hs i sv e
    trivial
def spLaw (K : PySem.W.Frag) : Sp := fun vs H Q _ => ∃ (a : Addr) (ns : List Int), vs = [.ref a] ∧ SqL K H a (ns.map V.int) ∧ ((∀ p ∈ (TabsOf K).tabs, H p.1 = some (.tbl #[])) ∧ ∀ p ∈ (TabsOf K).tups, ∃ (o : Obj) (vs : List V), o.dict = none ∧ H p.1 = some (.frz o (.tup vs)) ∧ reps (fun _ => none) p.2 vs) ∧ ∀ H', Q (.bl true) H'
def VLaw : VEnds := { nx := fun _ => False, rt := fun sv => sv = .tr (.bl true) }
section
variable {P : Program} {w : World} {K : PySem.W.Frag} {mg : Str → Option Value} {base : Heap} {d : He.DefD} {k : Nat} {N : List Str} {g : GS}
theorem law_ok (Sc : FnScope ("_law_script" :: "_law_bag_here" :: N) ["_law_script"] d.scope)
    (hbody : ∀ (f : Addr) (cdv : Value) (A : Around) (outer : List Env) (s : Shared) (H : Hp) (E : XK), Room k (A.deeper (envOfC d.qual d.scope s.heap.objs.size f cdv)) →
      PSs (cxOf CX0 P w K mg base ("_law_script" :: "_law_bag_here" :: N) d.qual d.scope f cdv A outer s H E).nox d.body (tSeq (tAsg (tCall (spBag K) [] E0 (tCons (tVar 0) tNil)) (L2.gName 1)) (tEx K g)))
    (pure_ : g VLaw (none :: some .bag :: List.replicate N.length none)) :
    ∀ fd, FunD K d.name d.qual d.params d.body d.scope (d.dvs K) (d.kws K) (He.fAd K d.at_) fd → FnOk P w K mg base CX0 (k + 1) (He.fAd K d.at_) fd ["_law_script"] (spLaw K) := by
  intro fd hf
  refine hf.ok Sc (fun vs H Q E ⟨a, ns, e, _⟩ => by rw [e]; rfl) (fun cdv A outer s H vs Q E hr hsp => ⟨_, PSs.nox (hbody _ cdv A outer s H E hr), ?_⟩)
  obtain ⟨a, ns, rfl, hS, hT, hq⟩ := hsp
  refine ⟨_, rfl, ?_⟩
  refine ⟨a, ns, rfl, hS, fun H' c p hc hp ec ep kp => ?_⟩
  have hcp : c ≠ p := fun z => by
    rw [z, ep] at ec

    cases hn : cellsV ns with
    | nil => rw [hn] at ec; cases ec
    | cons x xs =>
      obtain ⟨y, hy⟩ : ∃ y : Int, x = .int y := by
        unfold cellsV at hn
        have hx : x ∈ (ns.take 63).map V.int := by rw [hn]; exact List.mem_cons_self ..
        obtain ⟨y, _, hy⟩ := List.mem_map.mp hx
        exact ⟨y, hy.symm⟩
      rw [hn, hy] at ec
      cases ec
  refine bag_start (n := N.length) hcp ec ep rfl ?_ ⟨fun p hp => kp _ _ (hT.1 p hp), fun p hp => let ⟨o, vs, h1, h2, h3⟩ := hT.2 p hp; ⟨o, vs, h1, kp _ _ h2, h3⟩⟩ VLaw pure_ (fun S z => z.elim) (fun sv e v H G H0 r => ?_) (fun _ z => z) (fun _ z => z)
  · simp [L2.start]
  · have e : sv = .tr (.bl true) := e
    subst e
    have e2 : v = .bl true := r
    subst e2
    exact hq _
end
end VT
namespace VT
open PySem PySem.Spec PyProof.Rows L2
@[simp] def gIsi2 (T U : Ty) (g : GE) : GE := fun S Q => g S fun sv => sv.d.kind.isSome = true ∧ Q (.tr (.bl (sv.d.isT T || sv.d.isT U)))
section
variable {X : Cx} {EX : EXT} {e : Expr} {g : GE} {pos p p2 p3 p4 : Pos} {k : Nat}
@[simp] def gRev (g : GE) : GE := fun S Q => g S fun sv => ∃ xs, sv.d = .lst xs ∧ Q (.own (.lst xs.reverse))
@[simp] def gDic0 : GE := fun S Q => Q (.own (.dic []))
end
@[simp] theorem isA_tr (x d : D) : IsA (.tr x) d ↔ x = d := ⟨fun h => h.d, fun h => ⟨rfl, h, fun _ => trivial⟩⟩
@[simp] theorem isA_brw (x d : D) : IsA (.brw x) d ↔ x = d := ⟨fun h => h.d, fun h => ⟨rfl, h, fun _ => trivial⟩⟩
theorem zipR_isa {c : Bool} {Q : List D → Prop} {x y : SV} {xs ys : List D} (hx : IsA x (.lst xs)) (hy : IsA y (.lst ys)) : zipR c Q [x, y] ↔ Q (zipD xs ys) := zipR_lst c Q x y xs ys hx.d hy.d (hx.st c) (hy.st c)
theorem zipR_isat {c : Bool} {Q : List D → Prop} {x y : SV} {xs ys : List D} (hx : IsA x (.tup xs)) (hy : IsA y (.tup ys)) : zipR c Q [x, y] ↔ Q (zipD xs ys) := by
  constructor
  · rintro ⟨a, b, e, h⟩
    cases e
    rcases h with ⟨_, _, _, _, e1, e2, h⟩ | ⟨_, _, e1, e2, h⟩ <;> rw [hx.d] at e1 <;> rw [hy.d] at e2 <;> cases e1 <;> cases e2
    exact h
  · exact fun h => ⟨x, y, rfl, .inr ⟨xs, ys, hx.d, hy.d, h⟩⟩
def fDraw : FSp := fun svs Q => ∃ n : Int, svs = [.bag, .tr (.int n)] ∧ 0 < n ∧ n.natAbs.log2 < 9000 ∧ ∀ r : Int, 0 ≤ r → r < n → Q (.tr (.int r))
@[simp] theorem fDraw_eq (n : Int) (Q : SV → Prop) : fDraw [.bag, .tr (.int n)] Q ↔ 0 < n ∧ n.natAbs.log2 < 9000 ∧ ∀ r : Int, 0 ≤ r → r < n → Q (.tr (.int r)) := by simp [fDraw]
theorem BagN.bag {G : Gh} {H : Hp} {p c : Addr} {ns : List Int} {i r m : Int} (b : BagN G H p c ns i r m) : BagAt G H p := ⟨c, ns, i, r, m, b.at_, b.cells, b.len, b.hi, b.hr, b.hm.1, b.hm.2⟩
theorem BagN.ne {G : Gh} {H : Hp} {p c : Addr} {ns : List Int} {i r m : Int} (b : BagN G H p c ns i r m) : c ≠ p := fun z => by
  have h := (b.ok.bag p b.pb).2
  rw [← z, b.cells] at h
  cases h
theorem BagN.cellsH {G : Gh} {H : Hp} {p c : Addr} {ns : List Int} {i r m : Int} (b : BagN G H p c ns i r m) : H c = some (.lst (ns.map V.int)) := b.ok.sub _ _ b.cells
theorem BagN.put {G : Gh} {H : Hp} {p c : Addr} {ns : List Int} {i r m i' r' m' : Int} (b : BagN G H p c ns i r m) (h1 : 0 ≤ i') (h2 : 0 ≤ r') (h3 : 0 ≤ m' ∧ m' < 2147483648) : BagN G (upd H p (.lst [.ref c, .int i', .int r', .int m'])) p c ns i' r' m' := by
  have hF := (b.ok.bag p b.pb).2
  refine ⟨⟨fun x u e => ?_, fun q e => ?_, tabs_put b.ok.tabs b.at_ nofun, b.ok.key⟩, b.pb, upd_same, b.cells, b.len, h1, h2, h3⟩
  · rw [upd_ne (fun z => by rw [z, hF] at e; cases e)]
    exact b.ok.sub x u e
  · have e2 : p = q := Option.some.inj (b.pb.symm.trans e)
    subst e2
    exact ⟨⟨c, ns, i', r', m', upd_same, b.cells, b.len, h1, h2, h3.1, h3.2⟩, hF⟩
def f1 (f : D → D) : FSp := fun svs Q => ∃ d, svs = [.tr d] ∧ d.kind.isSome = true ∧ Q (.tr (f d))
@[simp] theorem f1_eq (f : D → D) (d : D) (Q : SV → Prop) : f1 f [.tr d] Q ↔ d.kind.isSome = true ∧ Q (.tr (f d)) := by simp [f1]
mutual
def sameD : D → D → Bool
  | a, .lst ys => match a with
    | .lst xs => decide (xs.length = ys.length) && sames xs ys
    | _ => false
  | a, .tup ys => match a with
    | .tup xs => decide (xs.length = ys.length) && sames xs ys
    | _ => false
  | .non, .non => true
  | .bl x, .bl y => x == y
  | .int x, .int y => x == y
  | .str x, .str y => x == y
  | _, _ => false
def sames : List D → List D → Bool
  | x :: xs, y :: ys => sameD x y && sames xs ys
  | _, _ => true
end
def fSame (n : Nat) : FSp := fun svs Q => ∃ sa sb a b, svs = [sa, sb] ∧ IsA sa a ∧ IsA sb b ∧ a.dat = true ∧ b.dat = true ∧ b.wid = true ∧ b.dep < n ∧ Q (.tr (.bl (sameD a b)))
theorem fSame_of {n : Nat} {sa sb : SV} {Q : SV → Prop} {a b : D} (ia : IsA sa a) (ib : IsA sb b) : fSame n [sa, sb] Q ↔ a.dat = true ∧ b.dat = true ∧ b.wid = true ∧ b.dep < n ∧ Q (.tr (.bl (sameD a b))) := by
  constructor
  · rintro ⟨_, _, a', b', e, ia', ib', h⟩
    cases e
    have e1 := ia.d.symm.trans ia'.d
    have e2 := ib.d.symm.trans ib'.d
    subst e1 e2
    exact h
  · exact fun h => ⟨_, _, a, b, rfl, ia, ib, h⟩
@[simp] theorem fSame_eq (n : Nat) (a b : D) (Q : SV → Prop) : fSame n [.tr a, .tr b] Q ↔ a.dat = true ∧ b.dat = true ∧ b.wid = true ∧ b.dep < n ∧ Q (.tr (.bl (sameD a b))) := fSame_of ((isA_tr _ _).mpr rfl) ((isA_tr _ _).mpr rfl)
@[simp] theorem fSame_bt (n : Nat) (a b : D) (Q : SV → Prop) : fSame n [.brw a, .tr b] Q ↔ a.dat = true ∧ b.dat = true ∧ b.wid = true ∧ b.dep < n ∧ Q (.tr (.bl (sameD a b))) := fSame_of ((isA_brw _ _).mpr rfl) ((isA_tr _ _).mpr rfl)
@[simp] theorem fSame_tb (n : Nat) (a b : D) (Q : SV → Prop) : fSame n [.tr a, .brw b] Q ↔ a.dat = true ∧ b.dat = true ∧ b.wid = true ∧ b.dep < n ∧ Q (.tr (.bl (sameD a b))) := fSame_of ((isA_tr _ _).mpr rfl) ((isA_brw _ _).mpr rfl)
@[simp] theorem fSame_bb (n : Nat) (a b : D) (Q : SV → Prop) : fSame n [.brw a, .brw b] Q ↔ a.dat = true ∧ b.dat = true ∧ b.wid = true ∧ b.dep < n ∧ Q (.tr (.bl (sameD a b))) := fSame_of ((isA_brw _ _).mpr rfl) ((isA_brw _ _).mpr rfl)
theorem sames_zip : ∀ xs ys : List D, sames xs ys = (xs.zip ys).all fun p => sameD p.1 p.2
  | x :: xs, y :: ys => by rw [sames, List.zip_cons_cons, List.all_cons, sames_zip xs ys]
  | [], _ => by simp [sames]
  | _ :: _, [] => by simp [sames]
@[simp] theorem blsD_nil : blsD [] = some [] := rfl
@[simp] theorem blsD_cons (b : Bool) (ds : List D) : blsD (.bl b :: ds) = (blsD ds).map (b :: ·) := rfl
theorem atN {α : Type} (xs : List α) (n : Nat) : atI xs (n : Int) = xs[n]? := by
  unfold atI ixN
  rw [if_pos (by omega)]
  by_cases h : (n : Int) < xs.length
  · rw [if_pos h]
    rfl
  · rw [if_neg h, List.getElem?_eq_none (by omega)]
    rfl
@[simp] theorem atI_0 {α : Type} (x : α) (xs : List α) : atI (x :: xs) 0 = some x := atN (x :: xs) 0
@[simp] theorem atI_1 {α : Type} (x y : α) (xs : List α) : atI (x :: y :: xs) 1 = some y := atN (x :: y :: xs) 1
@[simp] theorem atI_2 {α : Type} (x y z : α) (xs : List α) : atI (x :: y :: z :: xs) 2 = some z := atN (x :: y :: z :: xs) 2
@[simp] theorem atI_3 {α : Type} (x y z u : α) (xs : List α) : atI (x :: y :: z :: u :: xs) 3 = some u := atN (x :: y :: z :: u :: xs) 3
section
variable {gg : GG} {gb : GS} {D : VEnds} {S : S} {ds : List VT.D}
theorem forW_ix (I : Nat → VT.S → Prop) (h0 : I 0 S) (hN : ∀ S', I ds.length S' → D.nx S')
    (hs : ∀ k (hk : k < ds.length) S1, I k S1 → ∀ N : VT.S → Prop, (∀ S', I (k + 1) S' → N S') → gg ds[k] S1 fun S2 => gb { nx := N, rt := D.rt, bk := D.nx, ct := N } S2) : ForW gg gb D S ds := by
  refine ⟨fun r S => ∃ k, r = ds.drop k ∧ k ≤ ds.length ∧ I k S, ⟨0, by simp, by omega, h0⟩, fun S' ⟨k, e, hk, i⟩ => ?_, fun d r S1 ⟨k, e, hk, i⟩ => ?_⟩
  · have := congrArg List.length e
    simp at this
    have : k = ds.length := by omega
    subst this
    exact hN _ i
  · have hk' : k < ds.length := by
      have := congrArg List.length e
      simp at this
      omega
    rw [List.drop_eq_getElem_cons hk'] at e
    cases e
    exact hs k hk' S1 i _ fun S h => ⟨k + 1, rfl, hk', h⟩
theorem forW_rng {lo : Int} {n : Nat} (I : Nat → VT.S → Prop) (h0 : I 0 S) (hN : ∀ S', I n S' → D.nx S')
    (hs : ∀ (k : Nat) (hk : k < n) S1, I k S1 → ∀ N : VT.S → Prop, (∀ S', I (k + 1) S' → N S') → gg (.int (lo + (k : Int))) S1 fun S2 => gb { nx := N, rt := D.rt, bk := D.nx, ct := N } S2) : ForW gg gb D S (rngD lo n) := by
  refine forW_ix I h0 (by simpa using hN) fun k hk S1 i N h => ?_
  have e : (rngD lo n)[k] = .int (lo + (k : Int)) := by simp [rngD]
  rw [e]
  exact hs k (by simpa using hk) S1 i N h
end
@[simp] theorem gName10 (x0 x1 x2 x3 x4 x5 x6 x7 x8 x9 : Option SV) (a : SV) (r : S) (Q : SV → Prop) : gName 10 (x0 :: x1 :: x2 :: x3 :: x4 :: x5 :: x6 :: x7 :: x8 :: x9 :: some a :: r) Q ↔ Q a.look := gName_eq 10 _ Q rfl
@[simp] theorem gName11 (x0 x1 x2 x3 x4 x5 x6 x7 x8 x9 x10 : Option SV) (a : SV) (r : S) (Q : SV → Prop) : gName 11 (x0 :: x1 :: x2 :: x3 :: x4 :: x5 :: x6 :: x7 :: x8 :: x9 :: x10 :: some a :: r) Q ↔ Q a.look := gName_eq 11 _ Q rfl
@[simp] theorem gName12 (x0 x1 x2 x3 x4 x5 x6 x7 x8 x9 x10 x11 : Option SV) (a : SV) (r : S) (Q : SV → Prop) : gName 12 (x0 :: x1 :: x2 :: x3 :: x4 :: x5 :: x6 :: x7 :: x8 :: x9 :: x10 :: x11 :: some a :: r) Q ↔ Q a.look := gName_eq 12 _ Q rfl
@[simp] theorem gName13 (x0 x1 x2 x3 x4 x5 x6 x7 x8 x9 x10 x11 x12 : Option SV) (a : SV) (r : S) (Q : SV → Prop) : gName 13 (x0 :: x1 :: x2 :: x3 :: x4 :: x5 :: x6 :: x7 :: x8 :: x9 :: x10 :: x11 :: x12 :: some a :: r) Q ↔ Q a.look := gName_eq 13 _ Q rfl
@[simp] theorem gName14 (x0 x1 x2 x3 x4 x5 x6 x7 x8 x9 x10 x11 x12 x13 : Option SV) (a : SV) (r : S) (Q : SV → Prop) : gName 14 (x0 :: x1 :: x2 :: x3 :: x4 :: x5 :: x6 :: x7 :: x8 :: x9 :: x10 :: x11 :: x12 :: x13 :: some a :: r) Q ↔ Q a.look := gName_eq 14 _ Q rfl
@[simp] theorem gName15 (x0 x1 x2 x3 x4 x5 x6 x7 x8 x9 x10 x11 x12 x13 x14 : Option SV) (a : SV) (r : S) (Q : SV → Prop) : gName 15 (x0 :: x1 :: x2 :: x3 :: x4 :: x5 :: x6 :: x7 :: x8 :: x9 :: x10 :: x11 :: x12 :: x13 :: x14 :: some a :: r) Q ↔ Q a.look := gName_eq 15 _ Q rfl
@[simp] theorem gName16 (x0 x1 x2 x3 x4 x5 x6 x7 x8 x9 x10 x11 x12 x13 x14 x15 : Option SV) (a : SV) (r : S) (Q : SV → Prop) : gName 16 (x0 :: x1 :: x2 :: x3 :: x4 :: x5 :: x6 :: x7 :: x8 :: x9 :: x10 :: x11 :: x12 :: x13 :: x14 :: x15 :: some a :: r) Q ↔ Q a.look := gName_eq 16 _ Q rfl
@[simp] theorem gName17 (x0 x1 x2 x3 x4 x5 x6 x7 x8 x9 x10 x11 x12 x13 x14 x15 x16 : Option SV) (a : SV) (r : S) (Q : SV → Prop) : gName 17 (x0 :: x1 :: x2 :: x3 :: x4 :: x5 :: x6 :: x7 :: x8 :: x9 :: x10 :: x11 :: x12 :: x13 :: x14 :: x15 :: x16 :: some a :: r) Q ↔ Q a.look := gName_eq 17 _ Q rfl
@[simp] theorem gName18 (x0 x1 x2 x3 x4 x5 x6 x7 x8 x9 x10 x11 x12 x13 x14 x15 x16 x17 : Option SV) (a : SV) (r : S) (Q : SV → Prop) : gName 18 (x0 :: x1 :: x2 :: x3 :: x4 :: x5 :: x6 :: x7 :: x8 :: x9 :: x10 :: x11 :: x12 :: x13 :: x14 :: x15 :: x16 :: x17 :: some a :: r) Q ↔ Q a.look := gName_eq 18 _ Q rfl
@[simp] theorem gName19 (x0 x1 x2 x3 x4 x5 x6 x7 x8 x9 x10 x11 x12 x13 x14 x15 x16 x17 x18 : Option SV) (a : SV) (r : S) (Q : SV → Prop) : gName 19 (x0 :: x1 :: x2 :: x3 :: x4 :: x5 :: x6 :: x7 :: x8 :: x9 :: x10 :: x11 :: x12 :: x13 :: x14 :: x15 :: x16 :: x17 :: x18 :: some a :: r) Q ↔ Q a.look := gName_eq 19 _ Q rfl
@[simp] theorem gName20 (x0 x1 x2 x3 x4 x5 x6 x7 x8 x9 x10 x11 x12 x13 x14 x15 x16 x17 x18 x19 : Option SV) (a : SV) (r : S) (Q : SV → Prop) : gName 20 (x0 :: x1 :: x2 :: x3 :: x4 :: x5 :: x6 :: x7 :: x8 :: x9 :: x10 :: x11 :: x12 :: x13 :: x14 :: x15 :: x16 :: x17 :: x18 :: x19 :: some a :: r) Q ↔ Q a.look := gName_eq 20 _ Q rfl
@[simp] theorem gName21 (x0 x1 x2 x3 x4 x5 x6 x7 x8 x9 x10 x11 x12 x13 x14 x15 x16 x17 x18 x19 x20 : Option SV) (a : SV) (r : S) (Q : SV → Prop) : gName 21 (x0 :: x1 :: x2 :: x3 :: x4 :: x5 :: x6 :: x7 :: x8 :: x9 :: x10 :: x11 :: x12 :: x13 :: x14 :: x15 :: x16 :: x17 :: x18 :: x19 :: x20 :: some a :: r) Q ↔ Q a.look := gName_eq 21 _ Q rfl
@[simp] theorem gName22 (x0 x1 x2 x3 x4 x5 x6 x7 x8 x9 x10 x11 x12 x13 x14 x15 x16 x17 x18 x19 x20 x21 : Option SV) (a : SV) (r : S) (Q : SV → Prop) : gName 22 (x0 :: x1 :: x2 :: x3 :: x4 :: x5 :: x6 :: x7 :: x8 :: x9 :: x10 :: x11 :: x12 :: x13 :: x14 :: x15 :: x16 :: x17 :: x18 :: x19 :: x20 :: x21 :: some a :: r) Q ↔ Q a.look := gName_eq 22 _ Q rfl
@[simp] theorem gName23 (x0 x1 x2 x3 x4 x5 x6 x7 x8 x9 x10 x11 x12 x13 x14 x15 x16 x17 x18 x19 x20 x21 x22 : Option SV) (a : SV) (r : S) (Q : SV → Prop) : gName 23 (x0 :: x1 :: x2 :: x3 :: x4 :: x5 :: x6 :: x7 :: x8 :: x9 :: x10 :: x11 :: x12 :: x13 :: x14 :: x15 :: x16 :: x17 :: x18 :: x19 :: x20 :: x21 :: x22 :: some a :: r) Q ↔ Q a.look := gName_eq 23 _ Q rfl
@[simp] theorem gName24 (x0 x1 x2 x3 x4 x5 x6 x7 x8 x9 x10 x11 x12 x13 x14 x15 x16 x17 x18 x19 x20 x21 x22 x23 : Option SV) (a : SV) (r : S) (Q : SV → Prop) : gName 24 (x0 :: x1 :: x2 :: x3 :: x4 :: x5 :: x6 :: x7 :: x8 :: x9 :: x10 :: x11 :: x12 :: x13 :: x14 :: x15 :: x16 :: x17 :: x18 :: x19 :: x20 :: x21 :: x22 :: x23 :: some a :: r) Q ↔ Q a.look := gName_eq 24 _ Q rfl
@[simp] theorem gName25 (x0 x1 x2 x3 x4 x5 x6 x7 x8 x9 x10 x11 x12 x13 x14 x15 x16 x17 x18 x19 x20 x21 x22 x23 x24 : Option SV) (a : SV) (r : S) (Q : SV → Prop) : gName 25 (x0 :: x1 :: x2 :: x3 :: x4 :: x5 :: x6 :: x7 :: x8 :: x9 :: x10 :: x11 :: x12 :: x13 :: x14 :: x15 :: x16 :: x17 :: x18 :: x19 :: x20 :: x21 :: x22 :: x23 :: x24 :: some a :: r) Q ↔ Q a.look := gName_eq 25 _ Q rfl
@[simp] theorem gName26 (x0 x1 x2 x3 x4 x5 x6 x7 x8 x9 x10 x11 x12 x13 x14 x15 x16 x17 x18 x19 x20 x21 x22 x23 x24 x25 : Option SV) (a : SV) (r : S) (Q : SV → Prop) : gName 26 (x0 :: x1 :: x2 :: x3 :: x4 :: x5 :: x6 :: x7 :: x8 :: x9 :: x10 :: x11 :: x12 :: x13 :: x14 :: x15 :: x16 :: x17 :: x18 :: x19 :: x20 :: x21 :: x22 :: x23 :: x24 :: x25 :: some a :: r) Q ↔ Q a.look := gName_eq 26 _ Q rfl
@[simp] theorem gName27 (x0 x1 x2 x3 x4 x5 x6 x7 x8 x9 x10 x11 x12 x13 x14 x15 x16 x17 x18 x19 x20 x21 x22 x23 x24 x25 x26 : Option SV) (a : SV) (r : S) (Q : SV → Prop) : gName 27 (x0 :: x1 :: x2 :: x3 :: x4 :: x5 :: x6 :: x7 :: x8 :: x9 :: x10 :: x11 :: x12 :: x13 :: x14 :: x15 :: x16 :: x17 :: x18 :: x19 :: x20 :: x21 :: x22 :: x23 :: x24 :: x25 :: x26 :: some a :: r) Q ↔ Q a.look := gName_eq 27 _ Q rfl
@[simp] theorem gName28 (x0 x1 x2 x3 x4 x5 x6 x7 x8 x9 x10 x11 x12 x13 x14 x15 x16 x17 x18 x19 x20 x21 x22 x23 x24 x25 x26 x27 : Option SV) (a : SV) (r : S) (Q : SV → Prop) : gName 28 (x0 :: x1 :: x2 :: x3 :: x4 :: x5 :: x6 :: x7 :: x8 :: x9 :: x10 :: x11 :: x12 :: x13 :: x14 :: x15 :: x16 :: x17 :: x18 :: x19 :: x20 :: x21 :: x22 :: x23 :: x24 :: x25 :: x26 :: x27 :: some a :: r) Q ↔ Q a.look := gName_eq 28 _ Q rfl
@[simp] theorem gName29 (x0 x1 x2 x3 x4 x5 x6 x7 x8 x9 x10 x11 x12 x13 x14 x15 x16 x17 x18 x19 x20 x21 x22 x23 x24 x25 x26 x27 x28 : Option SV) (a : SV) (r : S) (Q : SV → Prop) : gName 29 (x0 :: x1 :: x2 :: x3 :: x4 :: x5 :: x6 :: x7 :: x8 :: x9 :: x10 :: x11 :: x12 :: x13 :: x14 :: x15 :: x16 :: x17 :: x18 :: x19 :: x20 :: x21 :: x22 :: x23 :: x24 :: x25 :: x26 :: x27 :: x28 :: some a :: r) Q ↔ Q a.look := gName_eq 29 _ Q rfl
@[simp high] theorem gAll_map {α : Type} (f : α → Bool) (as : List α) (Q : SV → Prop) : gAll [.lst (as.map fun a => .bl (f a))] Q ↔ Q (.tr (.bl (as.all f))) := by
  show (∃ bs, blsD (as.map fun a => D.bl (f a)) = some bs ∧ Q (.tr (.bl (bs.all id)))) ↔ _
  rw [blsD_map]
  constructor
  · rintro ⟨bs, e, q⟩
    cases e
    simpa [List.all_map, Function.comp_def] using q
  · intro q
    exact ⟨_, rfl, by simpa [List.all_map, Function.comp_def] using q⟩
end VT
namespace VT
open PySem PySem.Spec PyProof.Rows L2
@[simp] theorem fvsv_tr (d : D) : (FV.tr d).sv = .tr d := rfl
@[simp] theorem fvsv_own (d : D) : (FV.own d).sv = .pk d := rfl
def SV.ins? : SV → Option (Addr × List (Str × FV))
  | .tr (.ins C fs) => some (C, fs.map fun p => (p.1, .tr p.2))
  | .obj _ C fs => some (C, fs)
  | .pob C fs => some (C, fs)
  | .bob C fs => some (C, fs)
  | _ => none
@[simp] theorem ins_tr (C : Addr) (fs : List (Str × D)) : (SV.tr (.ins C fs)).ins? = some (C, fs.map fun p => (p.1, .tr p.2)) := rfl
@[simp] theorem ins_obj (q C : Addr) (fs : List (Str × FV)) : (SV.obj q C fs).ins? = some (C, fs) := rfl
@[simp] theorem ins_pob (C : Addr) (fs : List (Str × FV)) : (SV.pob C fs).ins? = some (C, fs) := rfl
@[simp] theorem ins_bob (C : Addr) (fs : List (Str × FV)) : (SV.bob C fs).ins? = some (C, fs) := rfl
theorem RepP.look {N : Addr → Prop} {G : Gh} {H : Hp} {f : Str} {fs : List (Str × FV)} {ws : List (Str × V)} {x : FV} (r : RepP N G H fs ws) (h : fs.lookup f = some x) : ∃ v, ws.lookup f = some v ∧ ∀ H0 Hs, RepV H0 Hs G H v x.sv := by
  induction r with
  | nil => simp at h
  | @tr g d v fs ws r _ ih =>
    rw [List.lookup_cons] at h ⊢
    cases hg : f == g with
    | true =>
      rw [hg] at h
      cases h
      exact ⟨v, rfl, fun _ _ => r⟩
    | false =>
      rw [hg] at h
      exact ih h
  | @own g d b fs ws h1 h2 h3 _ ih =>
    rw [List.lookup_cons] at h ⊢
    cases hg : f == g with
    | true =>
      rw [hg] at h
      cases h
      exact ⟨.ref b, rfl, fun _ _ => ⟨b, rfl, h2, h3⟩⟩
    | false =>
      rw [hg] at h
      exact ih h
@[simp] def gFld (Cs : List Addr) (f : Str) (g : GE) : GE := fun S Q => g S fun sv => ∃ C fs x, sv.ins? = some (C, fs) ∧ C ∈ Cs ∧ fs.lookup f = some x ∧ Q x.sv
end VT
namespace VT
open PySem PySem.Spec PyProof.Rows L2
def fput (f : Str) (x : FV) : List (Str × FV) → List (Str × FV)
  | [] => [(f, x)]
  | (g, y) :: r => if g = f then (g, x) :: r else (g, y) :: fput f x r
section
variable {Hs H : Hp} {G : Gh} {fs : List (Str × FV)} {ws : List (Str × V)} {f : Str} {d : D} {v : V} {b : Addr}
theorem RepF.putT (r : RepF Hs G H fs ws) (h : rep G.F d v) : RepF Hs G H (fput f (.tr d) fs) (putF f v ws) ∧ (∀ b, b ∈ adrs (fput f (.tr d) fs) (putF f v ws) → b ∈ adrs fs ws) ∧ ((adrs fs ws).Nodup → (adrs (fput f (.tr d) fs) (putF f v ws)).Nodup) := by
  induction r with
  | nil => exact ⟨.tr h .nil, fun b hb => (by simpa [fput, putF, adrs] using hb), fun _ => (by simp [fput, putF, adrs])⟩
  | @tr g d' v' fs ws r t ih =>
    obtain ⟨i1, i2, i3⟩ := ih
    unfold fput putF
    by_cases hg : g = f
    · rw [if_pos hg, if_pos hg]
      exact ⟨.tr h t, fun b hb => hb, fun n => n⟩
    · rw [if_neg hg, if_neg hg]
      exact ⟨.tr r i1, i2, i3⟩
  | @own g d' b' fs ws h1 h2 h3 h4 t ih =>
    obtain ⟨i1, i2, i3⟩ := ih
    unfold fput putF
    by_cases hg : g = f
    · rw [if_pos hg, if_pos hg]
      exact ⟨.tr h t, fun b hb => List.mem_cons_of_mem _ hb, fun n => (List.nodup_cons.mp n).2⟩
    · rw [if_neg hg, if_neg hg]
      refine ⟨.own h1 h2 h3 h4 i1, fun b hb => ?_, fun n => ?_⟩
      · rcases List.mem_cons.mp hb with rfl | hb
        · exact List.mem_cons_self ..
        · exact List.mem_cons_of_mem _ (i2 b hb)
      · obtain ⟨n1, n2⟩ := List.nodup_cons.mp n
        exact List.nodup_cons.mpr ⟨fun z => n1 (i2 _ z), i3 n2⟩
end
def SV.fv : SV → Option FV
  | .tr d => some (.tr d)
  | .own d => if d.nd = true then some (.own d) else none
  | _ => none
@[simp] theorem fv_tr (d : D) : (SV.tr d).fv = some (.tr d) := rfl
@[simp] theorem fv_own (ds : List D) : (SV.own (.lst ds)).fv = some (.own (.lst ds)) := rfl
@[simp] theorem fv_ownT (ds : List (List Key × D)) : (SV.own (.dit ds)).fv = some (.own (.dit ds)) := rfl
@[simp] def gFSet (i : Nat) (Cs : List Addr) (f : Str) (ge : GE) : GS := fun D S => ge S fun sv => ∃ x q C fs, sv.fv = some x ∧ S[i]? = some (some (.obj q C fs)) ∧ C ∈ Cs ∧ fs.length < 1000 ∧ D.nx (S.set i (some (.obj q C (fput f x fs))))
end VT
namespace VT
open PySem PySem.Spec PyProof.Rows L2
@[simp] def gMutF (i : Nat) (Cs : List Addr) (fl : Str) (ga : GA) (f : List VT.D → List SV → (List VT.D → Prop) → Prop) : GS := fun D S => ∃ q C fs ds0, S[i]? = some (some (.obj q C fs)) ∧ C ∈ Cs ∧ fs.lookup fl = some (.own (.lst ds0)) ∧ ga S fun svs => f ds0 svs fun es => D.nx (S.set i (some (.obj q C (fput fl (.own (.lst es)) fs))))
end VT
namespace VT
open PySem PySem.Spec PyProof.Rows L2
@[simp] theorem fvd_tr (d : D) : (FV.tr d).d = d := rfl
@[simp] theorem fvd_own (d : D) : (FV.own d).d = d := rfl
@[simp] theorem frzF_nil : frzF [] = [] := rfl
@[simp] theorem frzF_cons (f : Str) (x : FV) (fs : List (Str × FV)) : frzF ((f, x) :: fs) = (f, x.d) :: frzF fs := rfl
theorem ext_made {G : Gh} {H1 : Hp} {x dx C : Addr} (ok : OkG G H1) (hx : H1 x = none) (hd : H1 dx = none) (hne : dx ≠ x) : Ext G H1 G (upd (upd H1 dx (.own x)) x (.ins C dx [])) ∧ RepV H1 H1 G (upd (upd H1 dx (.own x)) x (.ins C dx [])) (.ref x) (.obj x C []) := by
  have E1 := ext_new ok hd (.own x)
  have hx2 : upd H1 dx (.own x) x = none := by rw [upd_ne hne.symm]; exact hx
  have E2 := ext_new E1.ok hx2 (.ins C dx [])
  exact ⟨E1.trans E2, x, dx, [], rfl, upd_same, by rw [upd_ne hne, upd_same], ⟨hx, ok.nF hx, ok.npb hx⟩, ⟨hd, ok.nF hd, ok.npb hd⟩, by simp [adrs, hne.symm], .nil, rfl⟩
end VT
namespace VT
open PySem PySem.Spec PyProof.Rows L2
@[simp] def gMeth (C : Addr) (m : Str) (F : FSp) (dd : List D) (go : GE) (ga : GA) : GE := fun S Q => go S fun so => ∃ fs, so.ins? = some (C, fs) ∧ fs.lookup m = none ∧ ga S fun svs => F (so.arg :: (svs.map SV.arg ++ dd.map SV.tr)) Q
@[simp] def gProp (C : Addr) (F : FSp) (go : GE) : GE := fun S Q => go S fun so => ∃ fs, so.ins? = some (C, fs) ∧ F [so.arg] Q
end VT
namespace VT
open PySem PySem.Spec PyProof.Rows L2
section
variable {X : Cx} {EX : EXT}
theorem dgetK {H : Hp} {a : Addr} {kvs : List (Key × V)} {k : Key} (e : Rd H a (.dK kvs)) : DGet H a (kV k) (valV kvs k) := .inl ⟨kvs, k, e, rfl, rfl⟩
theorem ix_dict (hu : X.A.units + 1 < cLine) : IxR X (fun x y H Q => ∃ a v, x = .ref a ∧ DGet H a y (some v) ∧ Q v H) := by
  intro va sl pins s σ H x y v u Q I rx ry h hs
  obtain ⟨a, z, rfl, g, q⟩ := h
  cases rx
  have T := dict_typeIs I g
  have W : wpAny (model X.prog X.w) X.A (getItem (.ref a) u) (EP X pins σ Q) X.xe s := d_getItem hu I g ry fun w' s3 I3 rw' => ⟨z, H, I3, rw', q⟩
  have W2 : wpAny (model X.prog X.w) X.A (subscripted sl false (.ref a) u) (fun r s' => wpAny (model X.prog X.w) X.A (letTemporaryGo va (.ref a) r >>= fun _ => pure r) (EP X pins σ Q) X.xe s') X.xe s := by
    rw [hs]
    refine wpAny_operating (wpAny_mono W (fun r s' hq => ?_) fun _ _ e => e)
    exact wpAny_bind (wpAny_letTemporaryGo (wpAny_pure hq))
  show wpAny _ _ (subscriptTail va sl (.ref a) u) _ _ s
  unfold subscriptTail
  refine wpAny_bind ?_
  rw [getitemInPython_of_ne T.not_modules]
  refine wpAny_bind (wpAny_specialOf T PySem.F.slot_dict_getitem.lookup ?_)
  first
    | exact wpAny_bind W2
    | exact wpAny_pure (wpAny_bind W2)
    | exact wpAny_bind (wpAny_pure (wpAny_bind W2))
end
section
variable {X : Cx} {pins : List (Addr × Obj)} {σ : L2.St} {H : Hp} {s : Shared} {a b : Addr} {v : V} {u : Value} {A : Around} {E : Value → Shared → Prop} {kvs : List (List Key × V)} {k : List Key}
theorem key_rd {P : Program} {w : World} {h : Heap} (ok : HOk P w H h) (e : Rd H a (.tup (k.map kV))) : (tupleKind (mixKind P w)).is h k a := by
  obtain ⟨_, its, r, o, h1, h2, n, h3⟩ := (show ObjOk P w H h a (.tup (k.map kV)) from rd_of ok e)
  exact ⟨o, its.toArray, n, h1, h2, h3, by simpa using items_are r⟩
theorem d_getT {Q : Value → Shared → Prop} (hu : A.units + 1 < cLine) (I : Inv X pins σ H s) (e : Rd H a (.dT kvs)) (eb : Rd H b (.tup (k.map kV))) (l : valV kvs k = some v) (h : ∀ w' s', Inv X pins σ H s' → RelV v w' → Q w' s') :
    wpAny (model X.prog X.w) A (getItem (.ref a) (.ref b)) Q E s := by
  obtain ⟨z, hd, xs, rel, dd⟩ := dt_rd I.hok e
  obtain ⟨w', hw, rw'⟩ := RelO.some_of (v := v) (o := (atKey xs k).map (·.2)) (by rw [← l]; exact rel.val k)
  obtain ⟨p, hp, hp2⟩ := Option.map_eq_some_iff.mp hw
  refine wpAny_getItem_heap (tupleKind_room_in1 hu) (key_rd I.hok eb) dd hp ?_
  rw [hp2]
  exact h w' _ (I.tok _) rw'
theorem dictT_is (I : Inv X pins σ H s) (e : Rd H a (.dT kvs)) : s.TypeIs (.ref a) "dict" := by
  obtain ⟨_, _, xs, _, dd⟩ := dt_rd I.hok e
  exact dd.typeIs
theorem ix_dictT (hu : X.A.units + 1 < cLine) : IxR X (fun x y H Q => ∃ a b kvs k v, x = .ref a ∧ y = .ref b ∧ Rd H a (.dT kvs) ∧ Rd H b (.tup (k.map kV)) ∧ valV kvs k = some v ∧ Q v H) := by
  intro va sl pins s σ H x y v u Q I rx ry h hs
  obtain ⟨a, b, kvs, k, z, rfl, rfl, ea, eb, l, q⟩ := h
  cases rx
  cases ry
  have T := dictT_is I ea
  have W : wpAny (model X.prog X.w) X.A (getItem (.ref a) (.ref b)) (EP X pins σ Q) X.xe s := d_getT hu I ea eb l fun w' s3 I3 rw' => ⟨z, H, I3, rw', q⟩
  have W2 : wpAny (model X.prog X.w) X.A (subscripted sl false (.ref a) (.ref b)) (fun r s' => wpAny (model X.prog X.w) X.A (letTemporaryGo va (.ref a) r >>= fun _ => pure r) (EP X pins σ Q) X.xe s') X.xe s := by
    rw [hs]
    refine wpAny_operating (wpAny_mono W (fun r s' hq => ?_) fun _ _ e => e)
    exact wpAny_bind (wpAny_letTemporaryGo (wpAny_pure hq))
  show wpAny _ _ (subscriptTail va sl (.ref a) (.ref b)) _ _ s
  unfold subscriptTail
  refine wpAny_bind ?_
  rw [getitemInPython_of_ne T.not_modules]
  refine wpAny_bind (wpAny_specialOf T PySem.F.slot_dict_getitem.lookup ?_)
  first
    | exact wpAny_bind W2
    | exact wpAny_pure (wpAny_bind W2)
    | exact wpAny_bind (wpAny_pure (wpAny_bind W2))
end
def keyD : D → Option Key
  | .int i => some (.inl i)
  | .str x => some (.inr x)
  | _ => none
@[simp] theorem keyD_int (i : Int) : keyD (.int i) = some (.inl i) := rfl
@[simp] theorem keyD_str (x : Str) : keyD (.str x) = some (.inr x) := rfl
def keysD : List D → Option (List Key)
  | [] => some []
  | d :: r => match keyD d, keysD r with
    | some k, some ks => some (k :: ks)
    | _, _ => none
def keyT : D → Option (List Key)
  | .tup ds => keysD ds
  | _ => none
@[simp] theorem keyT_tup (ds : List D) : keyT (.tup ds) = keysD ds := rfl
@[simp] theorem keysD_strs : ∀ ns : List Str, keysD (ns.map .str) = some (ns.map .inr)
  | [] => rfl
  | n :: ns => by
    rw [List.map_cons, List.map_cons]
    unfold keysD
    rw [keysD_strs ns]
    rfl
def valT (kvs : List (List Key × D)) (k : List Key) : Option D := (kvs.find? fun kv => decide (kv.1 = k)).map (·.2)
theorem rep_keyT {F : Hp} {d : D} {v : V} {k : Key} (r : rep F d v) (e : keyD d = some k) : v = kV k := by
  cases d with
  | int i => cases e; exact r
  | str x => cases e; exact r.1
  | _ => cases e
theorem reps_keysT {F : Hp} : ∀ {ds : List D} {vs : List V} {ks : List Key}, keysD ds = some ks → reps F ds vs → vs = ks.map kV
  | [], vs, ks, h, r => by cases h; exact r
  | d :: ds, vs, ks, h, ⟨v, t, e, q, z⟩ => by
    unfold keysD at h
    cases hk : keyD d with
    | none => rw [hk] at h; cases h
    | some k =>
      cases hr : keysD ds with
      | none => rw [hk, hr] at h; cases h
      | some kr =>
        rw [hk, hr] at h
        cases h
        rw [e, rep_keyT q hk, reps_keysT hr z]
        rfl
theorem rept_val {F : Hp} {k : List Key} : ∀ {kvs : List (List Key × D)} {ws : List (List Key × V)}, rept F kvs ws → (∀ d, valT kvs k = some d → ∃ v, valV ws k = some v ∧ rep F d v) ∧ (valT kvs k = none → valV ws k = none)
  | [], _, e => by rw [show _ = _ from e]; exact ⟨fun d h => (by cases h), fun _ => rfl⟩
  | (k', d) :: kvs, _, ⟨v, t, e, r, q⟩ => by
    rw [e]
    obtain ⟨i1, i2⟩ := rept_val (k := k) q
    unfold valT valV at i1 i2 ⊢
    rw [List.find?_cons, List.find?_cons]
    by_cases h : k' = k
    · simp only [h, decide_true]
      refine ⟨fun d' h => ?_, fun h => (by cases h)⟩
      cases h
      exact ⟨v, rfl, r⟩
    · simp only [h, decide_false]
      exact ⟨i1, i2⟩
theorem RepV.keyT {H0 Hs H : Hp} {G : Gh} {v : V} {sv : SV} {k : List Key} (r : RepV H0 Hs G H v sv) (ok : OkG G H) (e : keyT sv.d = some k) : ∃ b, v = .ref b ∧ Rd H b (.tup (k.map kV)) ∧ (G.T.kt = true → H b = some (.tup (k.map kV))) := by
  cases hd : sv.d with
  | tup ds =>
    rw [hd] at e
    obtain ⟨b, vs, rfl, hb, q⟩ := r.tree hd (fun _ _ _ z => z) (fun z => nomatch z)
    have ev := reps_keysT e q
    subst ev
    refine ⟨b, rfl, rdUp ok.sub hb, fun kt => ?_⟩
    rcases hb with hb | ⟨o, hb⟩
    · exact ok.sub _ _ hb
    · exact (ok.key kt _ _ _ hb k rfl).elim
  | _ => rw [hd] at e; cases e
def valD (kvs : List (Key × D)) (k : Key) : Option D := (kvs.find? fun kv => decide (kv.1 = k)).map (·.2)
theorem repk_val {F : Hp} {k : Key} : ∀ {kvs : List (Key × D)} {ws : List (Key × V)}, repk F kvs ws → (∀ d, valD kvs k = some d → ∃ v, valV ws k = some v ∧ rep F d v) ∧ (valD kvs k = none → valV ws k = none)
  | [], _, e => by rw [show _ = _ from e]; exact ⟨fun d h => (by cases h), fun _ => rfl⟩
  | (k', d) :: kvs, _, ⟨v, t, e, r, q⟩ => by
    rw [e]
    obtain ⟨i1, i2⟩ := repk_val (k := k) q
    unfold valD valV at i1 i2 ⊢
    rw [List.find?_cons, List.find?_cons]
    by_cases h : k' = k
    · simp only [h, decide_true]
      refine ⟨fun d' h => ?_, fun h => (by cases h)⟩
      cases h
      exact ⟨v, rfl, r⟩
    · simp only [h, decide_false]
      exact ⟨i1, i2⟩
theorem RepV.key {H0 Hs H : Hp} {G : Gh} {v : V} {sv : SV} {k : Key} (r : RepV H0 Hs G H v sv) (e : keyD sv.d = some k) : v = kV k := by
  cases hd : sv.d with
  | int i => rw [hd] at e; cases e; exact r.int hd
  | str x => rw [hd] at e; cases e; exact (r.str hd).1
  | _ => rw [hd] at e; cases e
def gIxA (x y : D) (Q : SV → Prop) : Prop := match x with
  | .dic kvs => ∃ k d, keyD y = some k ∧ valD kvs k = some d ∧ Q (.tr d)
  | .dit kvs => ∃ k d, keyT y = some k ∧ valT kvs k = some d ∧ Q (.tr d)
  | _ => gIxD x y Q
section
variable {X : Cx} {EX : EXT}
theorem iw_all (hu : X.A.units + 1 < cLine) : IxW X gIxA := by
  intro H0 Ha Hb G H x y sx sy Qs Q ok r1 r2 q kk
  unfold gIxA at q
  split at q
  · rename_i kvs hx
    obtain ⟨k, d, hk, hd, q⟩ := q
    obtain ⟨a, ws, rfl, ea, r⟩ := r1.dic ok hx
    have ek := r2.key hk
    subst ek
    obtain ⟨v, ev, rv⟩ := (repk_val (k := k) r).1 d hd
    exact ⟨_, ix_dict hu, a, v, rfl, by rw [← ev]; exact dgetK ea, kq_tr kk ok rv q⟩
  · rename_i kvs hx
    obtain ⟨k, d, hk, hd, q⟩ := q
    obtain ⟨a, ws, rfl, ea, r⟩ := r1.dit ok hx
    obtain ⟨b, rfl, hb, _⟩ := r2.keyT ok hk
    obtain ⟨v, ev, rv⟩ := (rept_val (k := k) r).1 d hd
    exact ⟨_, ix_dictT hu, a, b, ws, k, v, rfl, rfl, .inl ea, hb, ev, kq_tr kk ok rv q⟩
  · exact iw_seq H0 Ha Hb G H x y sx sy Qs Q ok r1 r2 q kk
theorem ve_ixA (hu : X.A.units + 1 < cLine) {a b : Expr} {ga gb : GE} {pos : Pos} (ha : VE X EX a ga) (hb : VE X EX b gb) (hs : PlainIx b := by exact fun _ _ => rfl) : VE X EX (.Subscript a b pos) (gOp gIxA ga gb) := ve_ixW (iw_all hu) ha hb hs
end
@[simp] theorem gIxA_dic (kvs : List (Key × D)) (y : D) (Q : SV → Prop) : gIxA (.dic kvs) y Q = ∃ k d, keyD y = some k ∧ valD kvs k = some d ∧ Q (.tr d) := rfl
@[simp] theorem gIxA_dit (kvs : List (List Key × D)) (y : D) (Q : SV → Prop) : gIxA (.dit kvs) y Q = ∃ k d, keyT y = some k ∧ valT kvs k = some d ∧ Q (.tr d) := rfl
@[simp] theorem gIxA_lst (xs : List D) (i : Int) (Q : SV → Prop) : gIxA (.lst xs) (.int i) Q = ∃ d, atI xs i = some d ∧ Q (.tr d) := rfl
@[simp] theorem gIxA_tup (xs : List D) (i : Int) (Q : SV → Prop) : gIxA (.tup xs) (.int i) Q = ∃ d, atI xs i = some d ∧ Q (.tr d) := rfl
@[simp] theorem gIxA_str (z : Str) (i : Int) (Q : SV → Prop) : gIxA (.str z) (.int i) Q = ∃ c, atI z.cps.toList i = some c ∧ Q (.tr (.str ⟨#[c]⟩)) := rfl
end VT
namespace VT
open PySem PySem.Spec PyProof.Rows L2
def putD (kvs : List (Key × D)) (k : Key) (y : D) : List (Key × D) :=
  if (kvs.any fun kv => decide (kv.1 = k)) = true then kvs.map (fun kv => if kv.1 = k then (kv.1, y) else kv) else kvs ++ [(k, y)]
def putT (kvs : List (List Key × D)) (k : List Key) (y : D) : List (List Key × D) :=
  if (kvs.any fun kv => decide (kv.1 = k)) = true then kvs.map (fun kv => if kv.1 = k then (kv.1, y) else kv) else kvs ++ [(k, y)]
def putC (c k y : D) (F : D → Prop) : Prop := match c with
  | .lst ds => ∃ n j, k = .int n ∧ ixN ds.length n = some j ∧ F (.lst (ds.set j y))
  | .dic kvs => ∃ q, keyD k = some q ∧ kvs.length < sizeLine ∧ F (.dic (putD kvs q y))
  | _ => False
@[simp] theorem putC_lst (ds : List D) (k y : D) (F : D → Prop) : putC (.lst ds) k y F = ∃ n j, k = .int n ∧ ixN ds.length n = some j ∧ F (.lst (ds.set j y)) := rfl
@[simp] theorem putC_dic (kvs : List (Key × D)) (k y : D) (F : D → Prop) : putC (.dic kvs) k y F = ∃ q, keyD k = some q ∧ kvs.length < sizeLine ∧ F (.dic (putD kvs q y)) := rfl
@[simp] def gPutA (i : Nat) (ge gk : GE) : GS := fun D S => ge S fun sv => ∃ y c, sv = .tr y ∧ S[i]? = some (some (.own c)) ∧ gk S fun sk => putC c sk.d y fun c' => D.nx (S.set i (some (.own c')))
end VT
namespace VT
open PySem PySem.Spec PyProof.Rows L2
@[simp] def gGet2 (gd gk gz : GE) : GE := fun S Q => gd S fun x => ∃ kvs, x.d = .dic kvs ∧ gk S fun y => gz S fun z => ∃ k, keyD y.d = some k ∧ ((∃ d, valD kvs k = some d ∧ Q (.tr d)) ∨ (valD kvs k = none ∧ Q z))
section
variable {X : Cx} {EX : EXT}
@[simp] def gAugD (f : Int → Int → Int) (i : Nat) (gk ge : GE) : GS := fun D S => ∃ kvs0, S[i]? = some (some (.own (.dic kvs0))) ∧ gk S fun y => ∃ k n, keyD y.d = some k ∧ valD kvs0 k = some (.int n) ∧ ge S fun sv => ∃ b, sv.d = .int b ∧ kvs0.length < sizeLine ∧ D.nx (S.set i (some (.own (.dic (putD kvs0 k (.int (f n b)))))))
end
end VT
namespace VT
open PySem PySem.Spec PyProof.Rows L2
section
variable {P : Program} {w : World} {K : PySem.W.Frag} {mg : Str → Option Value} {base : Heap} {d : He.DefD} {f : Addr} {j k : Nat} {N ps : List Str} {F F' : FXp} {g : EXT → GS}
theorem FnX.mono (h : FnX P w K mg base d f j ps F) (hj : j ≤ k) : FnX P w K mg base d f k ps F := by
  obtain ⟨fd, cl, hf, hk⟩ := h
  exact ⟨fd, cl, hf, hk.mono hj⟩
end
end VT
namespace VT
open PySem PySem.Spec PyProof.Rows L2
def Keeps (X : Cx) (fv : Value) (P : Heap → Prop) : Prop := ∀ h, P h → ∃ k, (k = Keeper.frame ∨ k = Keeper.machine ∨ k = Keeper.boundFrame) ∧ PySem.W.Looks (model X.prog X.w) h (keeperOf fv) k
@[simp] def gCX (EX : EXT) (F : FXp) (n m : Nat) (ix : List Nat) (dd : List D) (ga gk : GA) : GE := fun S Q => ga S fun svs => gk S fun kvs => svs.length = n ∧ kvs.length = m ∧ F (arr ix (svs.map SV.arg ++ kvs.map SV.arg ++ dd.map SV.tr)) Q fun C fs => EX C fs S
end VT
namespace VT
open PySem PySem.Spec PyProof.Rows L2
section
variable {P : Program} {w : World} {K : PySem.W.Frag} {mg : Str → Option Value} {base : Heap} {d : He.DefD} {C f : Addr} {j k : Nat} {N ps : List Str} {F F' : FXp} {g : EXT → GS}
theorem IniX.mono (h : IniX P w K mg base d C f j ps F) (hj : j ≤ k) : IniX P w K mg base d C f k ps F := by
  obtain ⟨fd, cl, hf, hk⟩ := h
  exact ⟨fd, cl, hf, hk.mono hj⟩
end
end VT
namespace VT
open PySem PySem.Spec PyProof.Rows L2
abbrev envS (qual : Str) (scope : Scope) (L f : Addr) (cd : Value) (cc : Addr) : Env := PySem.W.ksEnv qual scope L f cd cc
def cxS (CX : CXT) (P : Program) (w : World) (K : PySem.W.Frag) (mg : Str → Option Value) (base : Heap) (N : List Str) (qual : Str) (scope : Scope) (f : Addr) (cd : Value) (cc : Addr) (A : Around) (outer : List Env) (s : Shared) (H : Hp) (E : XK) : Cx :=
  { prog := P, w := w, K := K, mg := mg, base := base, A := A.deeper (envS qual scope s.heap.objs.size f cd cc), N := N, s_0 := s, H_0 := H, env := envS qual scope s.heap.objs.size f cd cc, outer := outer, stack := envS qual scope s.heap.objs.size f cd cc :: outer,
    ex := [], calm := true, fn := fun _ => false, pn := [],
    xe := fun e s' => wpAny (model P w) (A.deeper (envS qual scope s.heap.objs.size f cd cc)) (leaving (envS qual scope s.heap.objs.size f cd cc) e) (fun _ s'' => CX outer H s E e s'') (fun e' s'' => CX outer H s E e' s'') s' }
theorem look_mem {x : Str} {u : Value} : ∀ {l : List (Str × Value)}, (l.map (·.1)).Nodup → (x, u) ∈ l → l.lookup x = some u
  | [], _, h => nomatch h
  | (y, v) :: l, nd, h => by
    obtain ⟨n1, n2⟩ := List.nodup_cons.mp (show (y :: l.map (·.1)).Nodup from nd)
    rcases List.mem_cons.mp h with e | h
    · cases e
      simp [List.lookup]
    · have hne : (x == y) = false := by
        simp only [beq_eq_false_iff_ne]
        intro z
        exact n1 (List.mem_map.mpr ⟨_, h, z⟩)
      rw [List.lookup, hne]
      exact look_mem n2 h
theorem inv_startS {CX : CXT} {P : Program} {w : World} {K : PySem.W.Frag} {mg : Str → Option Value} {base : Heap} {N ps : List Str} {qual : Str} {scope : Scope} {f cc : Addr} {cd : Value} {A : Around} {outer : List Env} {s : Shared} {H : Hp} {E : XK} {us : List Value} {vs : List V} {h₁ : Heap} {tk : Nat} {oc : Obj} {cv : Option Value}
    (S : SupScope N ps scope) (hd : A.handled = none) (e0 : Env0 P w K mg base A outer s H) (hl : vs.length = ps.length) (r : Vals vs us) (hcc : K.lookup cc = some oc) (hcd : oc.data = .cell cv)
    (hns : h₁.Ns s.heap.objs.size (fun x => (ps.zip us).reverse.lookup x)) (kp : ∀ b o, s.heap.get? b = some o → h₁.get? b = some o) : Inv (cxS CX P w K mg base N qual scope f cd cc A outer s H E) [] (L2.start N vs) H { s with heap := h₁, toks := tk } := by
  have hpl : ps.length ≤ N.length := by have := congrArg List.length S.pre; rw [List.length_take] at this; omega
  have bcc := e0.bs cc oc (e0.mod.kin cc oc hcc)
  have noA : ∀ b : Addr, b ∉ (cxS CX P w K mg base N qual scope f cd cc A outer s H E).ex := fun b z => absurd (show b ∈ ([] : List Addr) from z) (by simp)
  have one : ∀ {y : Str} {c : Addr}, ([("__class__", cc)] : List (Str × Addr)).lookup y = some c → y = "__class__" ∧ c = cc := fun {y c} h => by
    have hm := PySem.mem_of_lookup h
    rw [List.mem_singleton] at hm
    cases hm
    exact ⟨rfl, rfl⟩
  refine ⟨⟨e0.mod, S.kind, rfl, rfl, Nat.le_refl _, fun y z c h1 h2 => ?_, fun y hy => ?_, fun y c z _ => ?_, fun _ => hd, Around.frames_deeper e0.frames, .inr ⟨rfl, rfl⟩, fun b z => absurd z (noA b), e0.bs, e0.bsz, fun b _ _ => noA b, fun b z => absurd z (noA b), e0.funs, e0.frf⟩,
    rfl, e0.bare, Un.kept kp, ⟨_, hns, fun i y v h1 h2 h3 => ?_⟩, fun y c h => ?_, e0.hok.fresh (Nat.le_refl _), fun y c h => ?_, fun p hp => absurd (show p ∈ ([] : List (Addr × Obj)) from hp) (by simp), e0.hok.kept kp, ?_⟩
  · exact (one h1).1.trans (one h2).1.symm
  · have hy : scope.names.lookup y = some .cell ∨ scope.names.lookup y = some .free := hy
    rcases hy with hy | hy
    · exact absurd rfl (S.nocell _ (PySem.mem_of_lookup hy))
    · have e := S.free _ (PySem.mem_of_lookup hy) rfl
      dsimp only at e
      subst e
      exact ⟨cc, rfl⟩
  · cases z
  · have hi : i < vs.length := by
      unfold L2.start at h2
      by_cases hi : i < vs.length
      · exact hi
      · rw [List.getElem?_append_right (by simpa using hi), List.getElem?_replicate] at h2
        split at h2 <;> cases h2
    have ha : vs[i]? = some v := by
      unfold L2.start at h2
      rw [List.getElem?_append_left (by simpa using hi), List.getElem?_map] at h2
      cases e : vs[i]? with
      | none => rw [e] at h2; cases h2
      | some a => rw [e] at h2; cases h2; rfl
    obtain ⟨u, hu, rv⟩ := r.get ha
    have hp : ps[i]? = some y := by
      rw [← S.pre, List.getElem?_take_of_lt (by omega)]
      exact h1
    have ndP : ps.Nodup := by rw [← S.pre]; exact S.nd.sublist (List.take_sublist _ _)
    have hul : us.length = ps.length := r.length.symm.trans hl
    refine ⟨u, rv, .inl ⟨S.par y (List.mem_of_getElem? hp), look_mem ?_ ?_⟩⟩
    · rw [List.map_reverse, List.map_fst_zip (by omega)]
      exact List.pairwise_reverse.mpr (ndP.imp fun h => Ne.symm h)
    · rw [List.mem_reverse]
      refine List.mem_iff_getElem?.mpr ⟨i, ?_⟩
      rw [List.getElem?_zip_eq_some]
      exact ⟨hp, hu⟩
  · obtain ⟨_, rfl⟩ := one h
    exact ⟨cv, oc, kp _ _ bcc.1, hcd⟩
  · obtain ⟨_, rfl⟩ := one h
    exact bcc.2
  · unfold L2.start
    show _ = N.length
    rw [List.length_append, List.length_map, List.length_replicate]
    omega
structure PEA (X : Cx) (c : List Stmt) (e : Expr) (t : TE) : Prop where
  run : ∀ (pins : List (Addr × Obj)) (s : Shared) (σ : L2.St) (H : Hp) (Q : VK), Inv X pins σ H s → t σ H Q → PySem.wpAt (model X.prog X.w) X.A (.func c X.env) (eval e X.env) (EP X pins σ Q) X.xe s
structure PSA (X : Cx) (c : List Stmt) (st : Stmt) (t : TS) : Prop where
  run : ∀ (pins : List (Addr × Obj)) (s : Shared) (σ : L2.St) (H : Hp) (D : Ends), Inv X pins σ H s → t D σ H → PySem.wpAt (model X.prog X.w) X.A (.func c X.env) (exec st X.env) (SP X pins D) X.xe s
structure PSsA (X : Cx) (c : List Stmt) (st : List Stmt) (t : TS) : Prop where
  run : ∀ (pins : List (Addr × Obj)) (s : Shared) (σ : L2.St) (H : Hp) (D : Ends), Inv X pins σ H s → t D σ H → PySem.wpAt (model X.prog X.w) X.A (.func c X.env) (execs st X.env) (SP X pins D) X.xe s
section
variable {X : Cx} {c : List Stmt} {st : Stmt} {sts : List Stmt} {e : Expr} {t u : TS} {te : TE} {pos : Pos}
theorem pssa_of (h : PSs X sts t) : PSsA X c sts t := ⟨fun pins s σ H D I q => wpAt_of_wpAny (h.run pins s σ H D I q)⟩
theorem pssa_cons (h1 : PSA X c st t) (h2 : PSsA X c sts u) : PSsA X c (st :: sts) (tSeq t u) := by
  refine ⟨fun pins s σ H D I q => ks_wpAt_execs_cons (ks_wpAt_mono (h1.run pins s σ H _ I q) (fun fl s' hs => ?_) fun _ _ z => z)⟩
  cases fl with
  | next =>
    obtain ⟨σ', H', J, z⟩ := hs
    exact h2.run pins s' σ' H' D J z
  | ret _ => exact hs
  | brk => exact hs
  | cont => exact hs
theorem psa_expr (he : PEA X c e te) (hs : swapsWith e none pos.line X.env = pure false := by rfl) : PSA X c (.Expr e pos) (tDrop te) :=
  ⟨fun pins s σ H D I q => ks_wpAt_Expr_any (ks_wpAt_mono (he.run pins s σ H _ I q) (fun v s' ⟨_, H', J, _, z⟩ => ⟨σ, H', J, z⟩) fun _ _ z => z) I.quiet hs⟩
end
theorem fn_ofS {CX : CXT} {P : Program} {w : World} {K : PySem.W.Frag} {mg : Str → Option Value} {base : Heap} {x qual : Str} {params : Arguments} {body : List Stmt} {scope : Scope} {dvs : List V} {kws : List (Str × V)} {f cc : Addr} {fd : FuncData} {N ps : List Str} {k : Nat} {sp : Sp} {oc : Obj} {cv : Option Value}
    (F : FG K x qual params body scope [("__class__", cc)] dvs kws f fd) (hcc : K.lookup cc = some oc) (hcd : oc.data = .cell cv) (S : SupScope N ps scope) (len : ∀ vs H Q E, sp vs H Q E → vs.length = ps.length)
    (hbody : ∀ (cdv : Value) (A : Around) (outer : List Env) (s : Shared) (H : Hp) (vs : List V) (Q : VK) (E : XK), PySem.W.codeIn K cdv qual = true → (∃ oc od osl, K.lookup f = some ⟨oc, od, .func fd, osl⟩) → fd.params = params → fd.code = cdv → Room k (A.deeper (envS qual scope s.heap.objs.size f cdv cc)) → sp vs H Q E →
      ∃ t, PSsA (cxS CX P w K mg base N qual scope f cdv cc A outer s H E) body body t ∧ t { nx := fun _ H' => Q .non H', rt := Q } (L2.start N vs) H) : FnOk P w K mg base CX (k + 1) f fd ps sp := by
  obtain ⟨osl, od, an, ocl, dV, kV, doc, pm, cdv, ct, rfl, lk, hc, _, _⟩ := F.ex
  refine ⟨len, fun A outer s H args us vs Q E hr e0 hb r hsp => ?_⟩
  have hl := len _ _ _ _ hsp
  have KX : K.In s.heap := e0.mod.kin.keeps fun b o e => (e0.bs b o e).1
  have lim : s.heap.NoLimit := e0.mod.nolimit.keeps fun b o e => (e0.bs b o e).1
  refine ks_codeAny_call_defAt hr.depth (KX _ _ lk) rfl lim (PySem.W.codeRec_of KX hc) rfl hb S.nocell (fun y hy => S.par y.1 (List.of_mem_zip hy).1) (fun h₁ hns kp => ?_) S.co S.gen S.kind
  obtain ⟨t, ht, hq⟩ := hbody cdv A outer s H vs Q E hc ⟨_, _, _, lk⟩ rfl rfl (hr.deeper _) hsp
  have I : Inv (cxS CX P w K mg base N qual scope f cdv cc A outer s H E) [] (L2.start N vs) H { s with heap := h₁, toks := s.toks + (ps.zip us).length } := inv_startS S hr.hd e0 hl r hcc hcd hns kp
  refine ks_wpAt_mono (ht.run [] _ _ H _ I hq) (fun fl s' hs => ?_) fun e s' hs => hs
  have fin : ∀ {σ' : L2.St} {H' : Hp} {v : V} {u : Value}, Inv (cxS CX P w K mg base N qual scope f cdv cc A outer s H E) [] σ' H' s' → RelV v u → Q v H' → CE outer P w H s Q u s' :=
    fun {σ' H' v u} J rv q => ⟨v, H', J.os, J.bare, J.base, J.hok, rv, q⟩
  cases fl with
  | ret u =>
    obtain ⟨v, σ', H', J, rv, q⟩ := hs
    exact fin J rv q
  | next =>
    obtain ⟨σ', H', J, q⟩ := hs
    exact fin (v := V.non) (u := Value.none) J rfl q
  | brk =>
    obtain ⟨_, _, _, q⟩ := hs
    exact False.elim q
  | cont =>
    obtain ⟨_, _, _, q⟩ := hs
    exact False.elim q
end VT
namespace VT
open PySem PySem.Spec PyProof.Rows L2
structure SupX (X : Cx) (D : Addr) (sf : Str) : Prop where
  ks : X.env.kindOf "super" = some .globalImplicit
  kc : X.env.kindOf "__class__" = some .free
  ka : X.env.kindOf sf = some .local
  n0 : X.N[0]? = some sf
  def_ : ∃ f of fd ar, X.env.func = some f ∧ X.K.lookup f = some of ∧ of.data = .func fd ∧ (fd.params.posonlyargs ++ fd.params.args).head? = some ar ∧ ar.arg = sf
  code : ∃ cda oc vs file tf, X.env.code = .ref cda ∧ X.K.lookup cda = some oc ∧ oc.data = .fields vs ∧ vs[2]? = some (.str file tf) ∧ ((X.prog.main.file : Str) == file) = true
  cell : ∃ cc oc, X.env.cells.lookup ("__class__" : Str) = some cc ∧ X.K.lookup cc = some oc ∧ oc.data = .cell (some (.ref D))
  top : (X.prog.main.scope.names.lookup ("super" : Str)).isSome = false
  mg : X.mg "super" = none
  cls : (PySem.W.clsIn X.K D).isSome = true
  opq : PySem.W.nsIn X.K cStatics "thirdparty.any" = some none
section
variable {X : Cx} {pins : List (Addr × Obj)} {σ : L2.St} {H : Hp} {s : Shared} {c : List Stmt} {D x C : Addr} {self attr : Str} {ox : Obj} {p0 p1 : Pos} {whole : Sem Value} {Q : Value → Shared → Prop} {E : Value → Shared → Prop}
theorem sup_base (T : SupX X D self) (I : Inv X pins σ H s) (hx : s.heap.get? x = some ox) (hxc : ox.cls = .ref C) (hnc : ∀ k, ox.data ≠ .cls k) (hsub : PySem.W.mroIn X.K C (.ref D) = some true) (h0 : σ[0]? = some (some (.ref x))) (hat : (attr == ("__class__" : Str)) = false)
    (h : ∀ so s', Inv X ((so, PySem.W.ks_superObj D x C) :: pins) σ H s' → (∀ b o, s.heap.get? b = some o → s'.heap.get? b = some o) → Q (.ref so) s') :
    PySem.wpAt (model X.prog X.w) X.A (.func c X.env) (attributeBase (.Call (.Name "super" p0) [] [] p1) attr X.env whole) Q E s := by
  obtain ⟨f, of, fd, ar, ef, lf, df, hp, ha⟩ := T.def_
  obtain ⟨cda, oc, vs, file, tf, ec, lc, dc, hv, hfile⟩ := T.code
  obtain ⟨cc, ocl, el, lcl, dcl⟩ := T.cell
  obtain ⟨cd, hcd⟩ := Option.isSome_iff_exists.mp T.cls
  obtain ⟨oD, hD1, hD2⟩ : ∃ oD, s.heap.get? D = some oD ∧ oD.data = .cls cd := by
    unfold PySem.W.clsIn at hcd
    split at hcd
    · rename_i c d cd' sl ho
      cases hcd
      exact ⟨_, I.kIn _ _ ho, rfl⟩
    · cases hcd
  obtain ⟨mL, hns, hl⟩ := I.loc
  obtain ⟨u, ru, lk⟩ := hl 0 self (.ref x) T.n0 h0 (.inl T.ka)
  obtain rfl : u = Value.ref x := ru
  have hself : mL self = some (.ref x) := by
    rcases lk with ⟨_, e⟩ | ⟨k, _⟩
    · exact e
    · rw [T.ka] at k
      rcases k with k | k <;> cases k
  obtain ⟨mb, hb1, hb2⟩ := I.mod.blt
  refine ks_wpAt_super_base T.ks T.kc hat ef (I.kIn _ _ lf) df hp ec (I.kIn _ _ lc) dc hv hfile T.top ?_
  refine PySem.W.ks_loadName_global I.ok.kind T.ks (Calls.loadGlobal_builtin (by rw [I.ok.glob]; exact I.mod.glob.keeps I.bk) T.mg (by rw [I.ok.blt]; exact hb1.keeps I.bk) ((hb2 _ (by decide +kernel)).trans (show bootBuiltins "super" = some (.type "super") by decide +kernel)) ⟨rfl, ?_⟩)
  refine wpAny_loadName_free I.ok.kind T.kc el ⟨_, I.kIn _ _ lcl, dcl⟩ ?_
  rw [ha]
  refine wpAny_loadName_local I.ok.kind T.ka hns hself ?_
  obtain ⟨hh, g, d, t, os⟩ := s
  refine ks_wpAny_isType_cls hD1 hD2 ⟨rfl, ?_⟩
  refine ks_wpAny_call_super hD1 hD2 hx hxc hnc (PySem.W.looks_mroIn I.kIn hsub) fun h' e k => ?_
  exact h _ _ (ClX.pin_new (t' := t) I k (Nat.le_refl _) e fun v z => by cases z) k
end
section
variable {X : Cx} {pins : List (Addr × Obj)} {σ : L2.St} {H : Hp} {s : Shared} {a C D u dx : Addr} {us : List Value} {Q : Value → Shared → Prop} {E : Value → Shared → Prop} {A : Around} {B newId initId : String} {bmB : List Value} {f : Str} {y : V} {uv : Value} {fs : List (Str × V)}
theorem xinst (I : Inv X pins σ H s) (e : H a = some (exo a C none)) : ∃ t1 : Addr, s.heap.get? a = some (PySem.W.excRec (.ref C) t1 none .none .none (.bool false)) ∧ PySem.W.InstAt s.heap a (PySem.W.excRec (.ref C) t1 none .none .none (.bool false)) C none := by
  obtain ⟨t1, ho⟩ := exo_at I.hok e
  exact ⟨t1, ho, ho, rfl, rfl, trivial⟩
theorem xinit_ok (xb : XBase B newId initId bmB) (T : XCls X.K B newId initId bmB C) (I : Inv X ((u, PySem.W.kxs_mw initId a) :: pins) σ H s) (e : H a = some (exo a C none)) (hl : us.length ≤ sizeLine) (h : ∀ s', Inv X pins σ H s' → Q .none s') :
    wpAny (model X.prog X.w) A (call (.ref u) us) Q E s := by
  obtain ⟨nm, N, qn, bs, bm, hdct, sn, sub, ab, col, dd, k0, k1, k2, k3, k5, hC, hT⟩ := PySem.W.excInit_of I.kIn T.ini
  have hu := ClX.pin_at I
  obtain ⟨t1, ho, _⟩ := xinst I e
  have I0 := ClX.unpin I
  obtain ⟨hp, g, d, t, os⟩ := s
  have mw : ∀ z : Value, ((Value.type "method-wrapper" == Value.type "method") = false) ∧ ((Value.type "method-wrapper" == Value.type "builtin_function_or_method") = false) ∧ ((Value.type "method-wrapper" == Value.type "method-wrapper") = true) := fun _ => ⟨by decide, by decide, by decide⟩
  refine wpAny_call (codeAny_of_tree ?_)
  show wpAny _ _ (callAny (.ref u) ⟨us, []⟩) _ _ _
  simp only [callAny]
  refine wpAny_bind (wpAny_load hu ?_)
  simp only [PySem.W.kxs_mw, (mw .none).1, (mw .none).2.1, (mw .none).2.2, Bool.false_or, Bool.or_true, if_true]
  refine PySem.W.KFB.if_so (by decide) ?_
  refine wpAny_bind (PySem.W.check_bound_init xb.fb.toExcCallFacts hC ho rfl (wpAny_bind (wpAny_pure (wpAny_pure ?_))))
  refine ⟨plainId_quiet xb.fb.init.plain _, codeAny_builtin xb.fb.initEntry ?_⟩
  refine PySem.W.exc_init_tree ho hl fun h' k e' _ => ?_
  have J := I0.write (t' := t) (x := a) (e := a) (o := exo a C none) (by rw [e]; exact True.intro) (.inl rfl) k ⟨_, e'⟩ (exo_ok e')
  have eu : upd H a (exo a C none) = H := by
    funext b
    by_cases hb : b = a
    · rw [hb, upd_same, e]
    · rw [upd_ne hb]
  rw [eu] at J
  exact h _ J
end
end VT
namespace VT
open PySem PySem.Spec PyProof.Rows L2
section
variable {X : Cx} {pins : List (Addr × Obj)} {σ : L2.St} {H : Hp} {s : Shared} {a C D u dx : Addr} {us : List Value} {E : Value → Shared → Prop} {A : Around} {B newId initId : String} {bmB : List Value} {f self : Str} {y : V} {uv : Value} {fs : List (Str × V)} {c : List Stmt} {e o : Expr} {es : List Expr} {ta : TA} {te to : TE} {p0 p1 apos pos p p' : Pos}
def tXs (K : PySem.W.Frag) (D : Addr) (ta : TA) : TE := fun σ H Q => ∃ (a C : Addr) (B newId initId : String) (bmB : List Value), XBase B newId initId bmB ∧ XCls K B newId initId bmB C ∧ PySem.W.mroIn K C (.ref D) = some true ∧ PySem.W.ks_superIn K C D "__init__" = some (some (.builtin initId)) ∧
  σ[0]? = some (some (.ref a)) ∧ H a = some (exo a C none) ∧ ta σ H fun vs H1 => H1 a = some (exo a C none) ∧ vs.length ≤ 1000 ∧ Q .non H1
theorem keepsMw {i : String} : Keeps X (.ref u) (fun h => h.get? u = some (PySem.W.kxs_mw i a)) := fun h k => by
  refine ⟨.machine, .inr (.inl rfl), (PySem.W.Looks.ld (part := none) k).andThen ?_⟩
  exact .now
theorem pea_xsup {pl : Sem Bool} (T : SupX X D self) (ha : PA X (e :: es) ta) (he : starEach (e :: es) X.env = (false, eval e X.env) :: starEach es X.env := by rfl) (hpl : (backTo pos (starEach es X.env)).any (·.1) = false := by rfl)
    (ht : eval (.Call (.Attribute (.Call (.Name "super" p0) [] [] p1) "__init__" apos) (e :: es) [] pos) X.env = (do
      let ov ← attributeBase (.Call (.Name "super" p0) [] [] p1) "__init__" X.env (eval (.Call (.Name "super" p0) [] [] p1) X.env)
      standAt apos.atName
      let (f, first) ← holding [ov] (getMethod ov "__init__" pl)
      callWith pos f first (backTo pos (starEach (e :: es) X.env)) []) := by rfl) :
    PEA X c (.Call (.Attribute (.Call (.Name "super" p0) [] [] p1) "__init__" apos) (e :: es) [] pos) (tXs X.K D ta) := by
  refine ⟨fun pins s σ H Q I h => ?_⟩
  obtain ⟨a, C, B, newId, initId, bmB, xb, T2, hsub, hm, h0, ea, hta⟩ := h
  obtain ⟨t1, ho, _⟩ := xinst I ea
  refine ks_wpAt_MethodCall ?_ ht
  refine sup_base T I ho rfl (fun k z => by cases z) hsub h0 rfl fun so s1 I1 _ => ?_
  obtain ⟨t2, _, J⟩ := xinst I1 ea
  have hu := ClX.pin_at I1
  obtain ⟨hh, g, d, t, os⟩ := s1
  cases hc : PySem.W.clsIn X.K C with
  | none => unfold PySem.W.ks_superIn at hm; rw [hc] at hm; cases hm
  | some cd =>
    unfold PySem.W.ks_superIn at hm
    rw [hc] at hm
    have hI : PySem.W.Looks (model X.prog X.w) hh (isInstance (.ref a) (.type B)) true := J.type.andThen (PySem.W.looks_subIn I1.kIn T2.subB)
    refine PySem.W.kxs_getMethod xb.kf hu (PySem.W.looks_opaque I1.kIn T.opq) (l₀ := cd.mro) ?_ rfl I1.kIn hm hI (PySem.W.ks_ne I1.kIn J hc) rfl ?_
    · exact fun A Q E s k q => wpAny_bind ((PySem.W.looks_clsIn I1.kIn hc) A _ E s k (wpAny_pure q))
    have I2 := ClX.pin_new (t' := t + 1) (o := PySem.W.kxs_mw initId a) (h' := hh.push (PySem.W.kxs_mw initId a)) I1 (fun b o z => Heap.get?_push_of_some _ z) (Nat.le_refl _) (Heap.get?_push_at rfl rfl) (fun v z => by cases z)
    show wpAny _ _ (callWith pos (.ref hh.objs.size) [] (backTo pos (starEach (e :: es) X.env)) []) _ _ _
    rw [he]
    refine PySem.W.callWith_of (P := fun h => h.get? hh.objs.size = some (PySem.W.kxs_mw initId a)) (by show ((false || (backTo pos (starEach es X.env)).any (·.1)) || false) = false; rw [hpl]; rfl) (keepsMw (X := X)) (Calls.evalArgs_plain ?_)
    have r := ha.run pos _ _ σ H _ I2 hta
    rw [he] at r
    refine thn r fun us s3 ⟨vs, H1, I3, rv, e3, hl, q⟩ => ⟨ClX.pin_at I3, ?_⟩
    exact xinit_ok xb T2 I3 e3 (by show us.length ≤ sizeLine; rw [← rv.length, sizeLine_eq]; omega) fun s' J => ⟨.non, H1, ClX.unpin J, rfl, q⟩
theorem xd_new {h' : Heap} {t1 tk : Nat} (I : Inv X pins σ H s) (ea : H a = some (exo a C none)) (ry : RelV y uv) (k : ∀ b o, b ≠ a → s.heap.get? b = some o → h'.get? b = some o) (dn : s.heap.objs.size ≤ dx) (dne : dx ≠ a)
    (hx : h'.get? a = some (PySem.W.excRec (.ref C) t1 (some dx) .none .none (.bool false))) (hn : h'.Ns1 dx (fun z => if z = f then some uv else none)) :
    Inv X pins σ (upd (upd H dx (exd dx [(f, y)])) a (exo a C (some dx))) { s with heap := h', toks := tk } := by
  have hnd : H dx = none := I.hok.fresh dn
  have old : ∀ {b : Addr} {o : Obj}, s.heap.get? b = some o → b ≠ dx := fun {b o} q => Nat.ne_of_lt (Nat.lt_of_lt_of_le (Heap.lt_size q) dn)
  have off : ∀ {b : Addr}, H b = none → b ≠ a := fun {b} n z => by
    rw [z, ea] at n
    cases n
  have keepT : ∀ {b : Addr} {u : HO}, H b = some u → exo a C none ≠ u → upd (upd H dx (exd dx [(f, y)])) a (exo a C (some dx)) b = some u := fun {b u} q n => by
    rw [upd_ne (at_ne ea q n), upd_ne (ne_of_none q hnd)]
    exact q
  refine I.un (t' := tk) ⟨fun b o q n _ _ => k b o (off n) q, fun b o q n _ _ => ⟨o.slots, k b o (off n) q⟩, fun b o q n _ => ?_, fun b o q _ => ?_, fun b xs q => keepT q exo_tup, fun b o v q => keepT q exo_frz, fun b ps q => ⟨#[], by rw [keepT q exo_tbl]; simp⟩⟩ fun b o q => ?_
  · rw [upd_ne (off n), upd_ne (old q)]
    exact n
  · by_cases hb : b = a
    · exact ⟨_, by rw [hb]; exact hx⟩
    · exact ⟨o, k b o hb q⟩
  · by_cases hb : b = a
    · subst hb
      rw [upd_same] at q
      cases q
      exact exo_ok hx
    rw [upd_ne hb] at q
    by_cases hd : b = dx
    · subst hd
      rw [upd_same] at q
      cases q
      exact exd_ok hn (relO_put (fs := []) ry fun g => True.intro)
    rw [upd_ne hd] at q
    refine (I.hok b o q).stay (fun c v hc z => k c v ?_ z) (fun c hc => keepT hc exo_own) fun c xs hc => keepT hc exo_tup
    rcases hc with hc | hc
    · rw [hc]
      exact hb
    · exact at_ne ea hc exo_own
theorem xst_new {Q : Unit → Shared → Prop} (xb : XBase B newId initId bmB) (T : XCls X.K B newId initId bmB C) (I : Inv X pins σ H s) (ea : H a = some (exo a C none)) (hno : PySem.W.findIn X.K (.ref C) f = some none) (ry : RelV y uv)
    (h : ∀ dx s', H dx = none → dx ≠ a → Inv X pins σ (upd (upd H dx (exd dx [(f, y)])) a (exo a C (some dx))) s' → Q () s') : wpAny (model X.prog X.w) A (setAttr (.ref a) f uv) Q E s := by
  obtain ⟨cd, hcd, hh⟩ := T.dict
  obtain ⟨t1, ho, J⟩ := xinst I ea
  have KX := I.kIn
  obtain ⟨hp, g, d, t, os⟩ := s
  refine PySem.W.set_plain KX J T.sa (PySem.W.osa_openX xb.sf KX J T.over (r := none) (by unfold PySem.W.takerIn; rw [hno]; rfl) fun b => ?_)
  have hcls : PySem.W.Looks (model X.prog X.w) hp (classData C) cd := PySem.W.looks_clsIn KX hcd
  have hxs : a ≠ hp.objs.size := Nat.ne_of_lt (Heap.lt_size ho)
  obtain ⟨nm, bs, mro, ns, qn, hd, sn, sb, ab, col, dl⟩ := cd
  dsimp only at hh
  subst hh
  dsimp only
  unfold Builtin.ObjectAttr.storeInOwnDict Builtin.ObjectAttr.ownDictForStores
  repeat (first | with_reducible refine PySem.HandSPX.store_in_new ?_ ?_ | with_reducible refine wpAny_loadPart_at ho ?_ | with_reducible refine hcls.at ?_ | wp_step)
  · exact ⟨_, #[], _, (Heap.get?_update_ne _ _ _ _ hxs.symm).trans (Heap.get?_push_at rfl rfl), rfl, fun e he => absurd he (by simp), fun _ => rfl⟩
  · intro h' tk' hn' hs
    have ho1 : (hp.push { cls := .type "dict", data := .dict #[] }).get? a = some (PySem.W.excRec (.ref C) t1 none .none .none (.bool false)) := Heap.get?_push_of_some _ ho
    refine h hp.objs.size _ (I.hok.fresh (Nat.le_refl _)) hxs.symm (xd_new (t1 := t1) (tk := tk') I ea ry (fun b o hb hbo => ?_) (Nat.le_refl _) hxs.symm ?_ hn')
    · exact (hs.2 b (Nat.ne_of_lt (Heap.lt_size hbo))).trans ((Heap.get?_update_ne _ _ _ _ hb).trans (Heap.get?_push_of_some _ hbo))
    · exact (hs.2 a hxs).trans (Heap.get?_update_self _ ho1 rfl)
theorem xst_old {Q : Unit → Shared → Prop} (xb : XBase B newId initId bmB) (T : XCls X.K B newId initId bmB C) (I : Inv X pins σ H s) (ea : H a = some (exo a C (some dx))) (ed : H dx = some (exd dx fs)) (hl : fs.length ≤ 900) (hno : PySem.W.findIn X.K (.ref C) f = some none) (ry : RelV y uv)
    (h : ∀ s', Inv X pins σ (upd H dx (exd dx ((f, y) :: fs))) s' → Q () s') : wpAny (model X.prog X.w) A (setAttr (.ref a) f uv) Q E s := by
  obtain ⟨cd, hcd, hh⟩ := T.dict
  obtain ⟨t1, ho⟩ := exo_at I.hok ea
  obtain ⟨mA, hns, rel⟩ := exd_at I.hok ed
  have hw := within_of rel
  have KX := I.kIn
  obtain ⟨hp, g, d, t, os⟩ := s
  obtain ⟨oD, _, _, hoD, _, _⟩ := hns.count hw
  have J : PySem.W.InstAt hp a (PySem.W.excRec (.ref C) t1 (some dx) .none .none (.bool false)) C (some oD) := ⟨ho, rfl, rfl, hoD⟩
  refine PySem.W.set_plain KX J T.sa (PySem.W.osa_openX xb.sf KX J T.over (r := none) (by unfold PySem.W.takerIn; rw [hno]; rfl) fun b => ?_)
  have hcls : PySem.W.Looks (model X.prog X.w) hp (classData C) cd := PySem.W.looks_clsIn KX hcd
  obtain ⟨nm, bs, mro, ns, qn, hd, sn, sb, ab, col, dl⟩ := cd
  dsimp only at hh
  subst hh
  dsimp only
  unfold Builtin.ObjectAttr.storeInOwnDict Builtin.ObjectAttr.ownDictForStores
  repeat (first | with_reducible refine PySem.OEX.store_in_old hns hw (by rw [List.length_map]; omega) ?_ | with_reducible refine wpAny_loadPart_at ho ?_ | with_reducible refine hcls.at ?_ | wp_step)
  intro h' tk' hn hs
  have there : ∃ o, h'.get? dx = some o := by
    obtain ⟨o, _, _, e', _⟩ := hn
    exact ⟨o, e'⟩
  exact h _ (I.write (t' := tk') (x := dx) (e := dx) (o := exd dx ((f, y) :: fs)) (by rw [ed]; exact True.intro) (.inl rfl) (fun b o hb hbo => (hs.2 b hb).trans hbo) there (exd_ok hn (relO_put ry rel)))
def XC (K : PySem.W.Frag) (C : Addr) : Prop := ∃ B newId initId bmB, XBase B newId initId bmB ∧ XCls K B newId initId bmB C
def tXst (K : PySem.W.Frag) (f : Str) (to te : TE) : TS := fun D σ H => te σ H fun y H1 => to σ H1 fun x H2 => ∃ a C : Addr, x = .ref a ∧ XC K C ∧ PySem.W.findIn K (.ref C) f = some none ∧
  ((H2 a = some (exo a C none) ∧ ∀ dx, H2 dx = none → dx ≠ a → D.nx σ (upd (upd H2 dx (exd dx [(f, y)])) a (exo a C (some dx)))) ∨
    ∃ (dx : Addr) (fs : List (Str × V)), H2 a = some (exo a C (some dx)) ∧ H2 dx = some (exd dx fs) ∧ fs.length ≤ 900 ∧ D.nx σ (upd H2 dx (exd dx ((f, y) :: fs))))
theorem ps_xst (ho : PE X o to) (he : PE X e te) (hs : swapsWith e (some (.Attribute o f p')) pos.line X.env = pure false := by rfl) : PS X (.Assign [.Attribute o f p'] e pos) (tXst X.K f to te) := by
  refine ⟨fun pins s σ H D I h => plainObj_wpAny_Assign_Attribute (thn (he.run pins s σ H _ I h) fun v s1 ⟨y, H1, I1, r1, q1⟩ => thn (ho.run pins s1 σ H1 _ I1 q1) fun u s2 ⟨x, H2, I2, r2, a, C, ex, ⟨B, newId, initId, bmB, xb, T⟩, hno, q⟩ => ?_) hs⟩
  subst ex
  obtain rfl : u = Value.ref a := r2
  rcases q with ⟨ea, q⟩ | ⟨dx, fs, ea, ed, hl, q⟩
  · exact xst_new xb T I2 ea hno r1 fun dx s' n ne J => ⟨σ, _, J, q dx n ne⟩
  · exact xst_old xb T I2 ea ed hl hno r1 fun s' J => ⟨σ, _, J, q⟩
end
end VT
namespace VT
open PySem PySem.Spec PyProof.Rows L2
theorem fileB_ok {P : Program} {K : PySem.W.Frag} {cd : Value} (h : fileB P K cd = true) : ∃ cda oc vs file tf, cd = .ref cda ∧ K.lookup cda = some oc ∧ oc.data = .fields vs ∧ vs[2]? = some (.str file tf) ∧ ((P.main.file : Str) == file) = true := by
  unfold fileB at h
  split at h
  · rename_i c
    split at h
    · rename_i vs _ lk
      split at h
      · rename_i file tf hv
        exact ⟨c, _, vs, file, tf, rfl, lk, rfl, hv, h⟩
      · cases h
    · cases h
  · cases h
theorem supx_of {CX : CXT} {P : Program} {w : World} {K : PySem.W.Frag} {mg : Str → Option Value} {base : Heap} {N : List Str} {qual self : Str} {scope : Scope} {f D : Addr} {cdv : Value} {A : Around} {outer : List Env} {s : Shared} {H : Hp} {E : XK} {params : Arguments} {fd : FuncData} {ar : Arg}
    (T : SupK P K mg f D) (lk : ∃ oc od osl, K.lookup f = some ⟨oc, od, .func fd, osl⟩) (hp : fd.params = params) (hcd : fd.code = cdv) (hh : (params.posonlyargs ++ params.args).head? = some ar) (ha : ar.arg = self)
    (ks : scope.names.lookup ("super" : Str) = some .globalImplicit) (kc : scope.names.lookup ("__class__" : Str) = some .free) (ka : scope.names.lookup self = some .local) (n0 : N[0]? = some self) :
    SupX (cxS CX P w K mg base N qual scope f cdv (ccA K f) A outer s H E) D self := by
  obtain ⟨oc, od, osl, lk⟩ := lk
  have hok := T.ok
  unfold supB at hok
  rw [lk] at hok
  simp only [Bool.and_eq_true, decide_eq_true_eq, Bool.not_eq_true'] at hok
  obtain ⟨h1, _, h3, h4, h5⟩ := hok
  subst hp hcd
  obtain ⟨ocl, e1, e2⟩ := T.cell
  exact ⟨ks, kc, ka, n0, ⟨f, _, fd, ar, rfl, lk, rfl, hh, ha⟩, fileB_ok h1, ⟨_, ocl, rfl, e1, e2⟩, h5, T.mg, h3, h4⟩
def spXin (C : Addr) (np : Nat) (mk : List V → List (Str × V)) : Sp := fun vs H Q _ => ∃ a ws, vs = .ref a :: ws ∧ ws.length = np ∧ H a = some (exo a C none) ∧
  ∀ dx H', H dx = none → dx ≠ a → H' a = some (exo a C (some dx)) → H' dx = some (exd dx (mk ws)) → (∀ b, b ≠ a → b ≠ dx → H' b = H b) → Q .non H'
section
variable {P : Program} {w : World} {K : PySem.W.Frag} {mg : Str → Option Value} {base : Heap} {d : He.DefD} {f C D : Addr} {fl cn t : Str} {j j2 : Nat} {p0 p1 p2 p3 p4 p5 p6 p7 p8 p9 p10 p11 p12 p13 : Pos} {ar : Arg}
theorem XKind.xcls {K : PySem.W.Frag} {C D f : Addr} (h : XKind K C D f) : XC K C := by
  obtain ⟨B, newId, initId, bmB, xb, T, _⟩ := h.xc
  exact ⟨B, newId, initId, bmB, xb, T⟩
theorem xin_ok1 (X : XKind K C D f) (hfl : PySem.W.findIn K (.ref C) fl = some none) (T : SupK P K mg f D) (F : ∃ fd, FG K d.name d.qual d.params d.body d.scope [("__class__", ccA K f)] [] [] f fd) (S : SupScope ["self", fl] ["self", fl] d.scope)
    (hb : d.body = [.Expr (.Call (.Attribute (.Call (.Name "super" p0) [] [] p1) "__init__" p2) [.Constant (.str t) j p3] [] p4) p5, .Assign [.Attribute (.Name "self" p6) "code" p7] (.Constant (.str cn) j2 p8) p9, .Assign [.Attribute (.Name "self" p10) fl p11] (.Name fl p12) p13])
    (ht : ∀ env : Env, ∃ pl : Sem Bool, eval (.Call (.Attribute (.Call (.Name "super" p0) [] [] p1) "__init__" p2) [.Constant (.str t) j p3] [] p4) env = (do
      let ov ← attributeBase (.Call (.Name "super" p0) [] [] p1) "__init__" env (eval (.Call (.Name "super" p0) [] [] p1) env)
      standAt p2.atName
      let (f, first) ← holding [ov] (getMethod ov "__init__" pl)
      callWith p4 f first (backTo p4 (starEach [.Constant (.str t) j p3] env)) []))
    (hh : (d.params.posonlyargs ++ d.params.args).head? = some ar) (ha : ar.arg = "self") (ks : d.scope.names.lookup ("super" : Str) = some .globalImplicit) (kc : d.scope.names.lookup ("__class__" : Str) = some .free) (hne : (fl == ("__debug__" : Str)) = false) (hne2 : (fl == ("__classdict__" : Str)) = false) :
    ∃ fd, FG K d.name d.qual d.params d.body d.scope [("__class__", ccA K f)] [] [] f fd ∧ FnOk P w K mg base CX0 1 f fd ["self", fl] (spXin C 1 fun ws => [(fl, ws.getD 0 .non), ("code", .str cn)]) := by
  obtain ⟨fd, F⟩ := F
  obtain ⟨oc, e1, e2⟩ := T.cell
  obtain ⟨B, newId, initId, bmB, xb, TC, hm⟩ := X.xc
  refine ⟨fd, F, fn_ofS F e1 e2 S (fun vs H Q E ⟨a, ws, ev, hl, _⟩ => by rw [ev, List.length_cons, hl]; rfl) fun cdv A outer s H vs Q E hc lk hp hcd hr hsp => ?_⟩
  obtain ⟨a, ws, rfl, hl, ea, hq⟩ := hsp
  obtain ⟨y, rfl⟩ : ∃ y, ws = [y] := by
    match ws, hl with
    | [y], _ => exact ⟨y, rfl⟩
  have SX : SupX (cxS CX0 P w K mg base ["self", fl] d.qual d.scope f cdv (ccA K f) A outer s H E) D "self" := supx_of T lk hp hcd hh ha ks kc (S.par _ (List.mem_cons_self ..)) rfl
  have vs0 : Vis d.scope "self" := .inl (S.par _ (List.mem_cons_self ..))
  have vs1 : Vis d.scope fl := .inl (S.par _ (List.mem_cons_of_mem _ (List.mem_cons_self ..)))
  obtain ⟨pl, ht⟩ := ht (cxS CX0 P w K mg base _ d.qual d.scope f cdv (ccA K f) A outer s H E).env
  rw [hb]
  refine ⟨_, pssa_cons (psa_expr (pea_xsup SX (pa_cons pe_str pa_nil) (ht := ht))) (pssa_of (pss_cons (ps_xst (pe_var (i := 0) rfl vs0) pe_str) (pss_one (ps_xst (pe_var (i := 0) rfl vs0) (pe_var (i := 1) rfl vs1 hne hne2))))), ?_⟩
  refine ⟨a, C, B, newId, initId, bmB, xb, TC, X.sub, hm, rfl, ea, ea, by show 1 ≤ 1000; decide, _, rfl, a, C, rfl, X.xcls, X.code, .inl ⟨ea, fun dx hdx hda => ?_⟩⟩
  have e3 : (upd (upd H dx (exd dx [("code", .str cn)])) a (exo a C (some dx))) dx = some (exd dx [("code", .str cn)]) := by rw [upd_ne hda, upd_same]
  refine ⟨y, rfl, _, rfl, a, C, rfl, X.xcls, hfl, .inr ⟨dx, _, upd_same, e3, by show 1 ≤ 900; decide, ?_⟩⟩
  refine hq dx _ hdx hda ?_ upd_same fun b h1 h2 => ?_
  · rw [upd_ne (Ne.symm hda), upd_same]
  · rw [upd_ne h2, upd_ne h1, upd_ne h2]
theorem xin_ok0 (X : XKind K C D f) (T : SupK P K mg f D) (F : ∃ fd, FG K d.name d.qual d.params d.body d.scope [("__class__", ccA K f)] [] [] f fd) (S : SupScope ["self"] ["self"] d.scope)
    (hb : d.body = [.Expr (.Call (.Attribute (.Call (.Name "super" p0) [] [] p1) "__init__" p2) [.Constant (.str t) j p3] [] p4) p5, .Assign [.Attribute (.Name "self" p6) "code" p7] (.Constant (.str cn) j2 p8) p9])
    (ht : ∀ env : Env, ∃ pl : Sem Bool, eval (.Call (.Attribute (.Call (.Name "super" p0) [] [] p1) "__init__" p2) [.Constant (.str t) j p3] [] p4) env = (do
      let ov ← attributeBase (.Call (.Name "super" p0) [] [] p1) "__init__" env (eval (.Call (.Name "super" p0) [] [] p1) env)
      standAt p2.atName
      let (f, first) ← holding [ov] (getMethod ov "__init__" pl)
      callWith p4 f first (backTo p4 (starEach [.Constant (.str t) j p3] env)) []))
    (hh : (d.params.posonlyargs ++ d.params.args).head? = some ar) (ha : ar.arg = "self") (ks : d.scope.names.lookup ("super" : Str) = some .globalImplicit) (kc : d.scope.names.lookup ("__class__" : Str) = some .free) :
    ∃ fd, FG K d.name d.qual d.params d.body d.scope [("__class__", ccA K f)] [] [] f fd ∧ FnOk P w K mg base CX0 1 f fd ["self"] (spXin C 0 fun _ => [("code", .str cn)]) := by
  obtain ⟨fd, F⟩ := F
  obtain ⟨oc, e1, e2⟩ := T.cell
  obtain ⟨B, newId, initId, bmB, xb, TC, hm⟩ := X.xc
  refine ⟨fd, F, fn_ofS F e1 e2 S (fun vs H Q E ⟨a, ws, ev, hl, _⟩ => by rw [ev, List.length_cons, hl]; rfl) fun cdv A outer s H vs Q E hc lk hp hcd hr hsp => ?_⟩
  obtain ⟨a, ws, rfl, hl, ea, hq⟩ := hsp
  obtain rfl : ws = [] := List.eq_nil_of_length_eq_zero hl
  have SX : SupX (cxS CX0 P w K mg base ["self"] d.qual d.scope f cdv (ccA K f) A outer s H E) D "self" := supx_of T lk hp hcd hh ha ks kc (S.par _ (List.mem_cons_self ..)) rfl
  have vs0 : Vis d.scope "self" := .inl (S.par _ (List.mem_cons_self ..))
  obtain ⟨pl, ht⟩ := ht (cxS CX0 P w K mg base _ d.qual d.scope f cdv (ccA K f) A outer s H E).env
  rw [hb]
  refine ⟨_, pssa_cons (psa_expr (pea_xsup SX (pa_cons pe_str pa_nil) (ht := ht))) (pssa_of (pss_one (ps_xst (pe_var (i := 0) rfl vs0) pe_str))), ?_⟩
  refine ⟨a, C, B, newId, initId, bmB, xb, TC, X.sub, hm, rfl, ea, ea, by show 1 ≤ 1000; decide, _, rfl, a, C, rfl, X.xcls, X.code, .inl ⟨ea, fun dx hdx hda => ?_⟩⟩
  refine hq dx _ hdx hda upd_same ?_ fun b h1 h2 => ?_
  · rw [upd_ne hda, upd_same]
  · rw [upd_ne h1, upd_ne h2]
end
end VT
namespace VT
open PySem PySem.Spec PyProof.Rows L2
structure XMk (P : Program) (w : World) (K : PySem.W.Frag) (mg : Str → Option Value) (base : Heap) (x : Str) (C : Addr) (np : Nat) (mkD : List D → List (Str × D)) : Prop where
  gl : mg x = some (.ref C)
  ex : ∃ D f fd ps mk, XKind K C D f ∧ FnOk P w K mg base CX0 1 f fd ps (spXin C np mk) ∧ (∀ (s : Shared) (us : List Value), us.length = np + 1 → BindsTo s fd ⟨us, []⟩ (ps.zip us)) ∧ ∀ F ds vs, reps F ds vs → ds.length = np → repf F (mkD ds) (mk vs)
section
variable {P : Program} {w : World} {K : PySem.W.Frag} {mg : Str → Option Value} {base : Heap} {d : He.DefD} {f C D : Addr} {fl cn x : Str}
theorem xmk_1 (X : XKind K C D f) (hm : mg x = some (.ref C)) (hc : okS cn) (h : ∃ fd, FG K d.name d.qual d.params d.body d.scope [("__class__", ccA K f)] [] [] f fd ∧ FnOk P w K mg base CX0 1 f fd ["self", fl] (spXin C 1 fun ws => [(fl, ws.getD 0 .non), ("code", .str cn)]))
    (hb : ∀ (cl : List (Str × Addr)) (kV doc pm cdv ct : Value) (an : Option Addr) (us : List Value), us.length = 2 → bindArgs (PySem.W.fnX d.name d.qual d.params d.body d.scope cl .none kV doc pm an cdv ct) ⟨us, []⟩ = pure ((["self", fl] : List Str).zip us)) :
    XMk P w K mg base x C 1 fun ds => [(fl, ds.getD 0 .non), ("code", .str cn)] := by
  obtain ⟨fd, F, hF⟩ := h
  obtain ⟨osl, od, an, oc, dV, kV, doc, pm, cdv, ct, rfl, lk, hcd, hD, hK⟩ := F.ex
  refine ⟨hm, D, f, _, _, _, X, hF, fun s us hl => ?_, fun F ds vs r hl => ?_⟩
  · rcases hD with ⟨_, rfl⟩ | ⟨e, _⟩
    · exact .of_eq (hb _ kV doc pm cdv ct an us hl)
    · exact absurd rfl e
  · match ds, hl with
    | [y], _ =>
      obtain ⟨v, t, rfl, rv, rt⟩ := r
      exact ⟨_, _, rfl, rv, _, _, rfl, ⟨rfl, hc⟩, rfl⟩
theorem xmk_0 (X : XKind K C D f) (hm : mg x = some (.ref C)) (hc : okS cn) (h : ∃ fd, FG K d.name d.qual d.params d.body d.scope [("__class__", ccA K f)] [] [] f fd ∧ FnOk P w K mg base CX0 1 f fd ["self"] (spXin C 0 fun _ => [("code", .str cn)]))
    (hb : ∀ (cl : List (Str × Addr)) (kV doc pm cdv ct : Value) (an : Option Addr) (us : List Value), us.length = 1 → bindArgs (PySem.W.fnX d.name d.qual d.params d.body d.scope cl .none kV doc pm an cdv ct) ⟨us, []⟩ = pure ((["self"] : List Str).zip us)) :
    XMk P w K mg base x C 0 fun _ => [("code", .str cn)] := by
  obtain ⟨fd, F, hF⟩ := h
  obtain ⟨osl, od, an, oc, dV, kV, doc, pm, cdv, ct, rfl, lk, hcd, hD, hK⟩ := F.ex
  refine ⟨hm, D, f, _, _, _, X, hF, fun s us hl => ?_, fun F ds vs r hl => ?_⟩
  · rcases hD with ⟨_, rfl⟩ | ⟨e, _⟩
    · exact .of_eq (hb _ kV doc pm cdv ct an us hl)
    · exact absurd rfl e
  · exact ⟨_, _, rfl, ⟨rfl, hc⟩, rfl⟩
end
section
variable {X : Cx} {EX : EXT} {pins : List (Addr × Obj)} {σ : L2.St} {H : Hp} {s : Shared} {C D f : Addr} {fd : FuncData} {ps : List Str} {np : Nat} {mk : List V → List (Str × V)} {mkD : List VT.D → List (Str × VT.D)} {x : Str} {p pos pos2 : Pos} {e : Expr} {es : List Expr} {ta : TA} {ga : GA} {vs : List V} {us : List Value} {Q : XK}
theorem run_xmk (XD : XKind X.K C D f) (Fn : FnOk X.prog X.w X.K X.mg X.base CX0 1 f fd ps (spXin C np mk)) (hb : ∀ (s : Shared) (us : List Value), us.length = np + 1 → BindsTo s fd ⟨us, []⟩ (ps.zip us)) (hr : Room 2 X.A) (I : Inv X pins σ H s) (rv : Vals vs us) (hl : vs.length = np) (hz : np ≤ 1000)
    (q : ∀ dx, H dx = none → Q (.ref C) (some dx) (upd H dx (.xd (mk vs)))) : wpAny (model X.prog X.w) X.A (call (.ref C) us) (L2N.MkP X pins σ Q) X.xe s := by
  obtain ⟨B, newId, initId, bmB, xb, T, _⟩ := XD.xc
  obtain ⟨nm, N, qn, bs, bm, hdct, sn, sub, ab, col, dd, k0, k1, k2, k3, k5, hC, hT⟩ := PySem.W.excInit_of I.kIn T.ini
  have hi := XD.init
  have hty := XD.fn
  obtain ⟨hp, g, dr, tk, os⟩ := s
  have hsz : hp.objs.size ≤ hp.objs.size + 1 := Nat.le_succ _
  have hn : H (hp.objs.size + 1) = none := I.hok.fresh hsz
  have hul : us.length ≤ sizeLine := by rw [← rv.length, sizeLine_eq, hl]; omega
  have kk : ∀ b o, hp.get? b = some o → ((hp.push (PySem.W.kdv_tup us)).push (PySem.HandSPX.excO C hp.objs.size)).get? b = some o := fun b o e => Heap.get?_push_of_some _ (Heap.get?_push_of_some _ e)
  have hget : ((hp.push (PySem.W.kdv_tup us)).push (PySem.HandSPX.excO C hp.objs.size)).get? (hp.objs.size + 1) = some (PySem.HandSPX.excO C hp.objs.size) := Heap.get?_push_at (Heap.size_push _ _).symm rfl
  have I2 : Inv X pins σ (upd H (hp.objs.size + 1) (exo (hp.objs.size + 1) C none)) ⟨(hp.push (PySem.W.kdv_tup us)).push (PySem.HandSPX.excO C hp.objs.size), g, dr, tk, os⟩ := I.laid (t' := tk) kk hsz (exo_ok hget)
  have n1 : (Value.ref (hp.objs.size + 1) :: us).length = np + 1 := by rw [List.length_cons, ← rv.length, hl]
  refine wpAny_call (PySem.HandSPX.call_own xb.fb hT hC (PySem.W.looks_findIn I.kIn hi) (fun self => PySem.W.bind_fn I.kIn self hty) hul
    (codeAny_mono (Fn.run _ X.stack _ _ ⟨Value.ref (hp.objs.size + 1) :: us, []⟩ (Value.ref (hp.objs.size + 1) :: us) (V.ref (hp.objs.size + 1) :: vs)
      (fun v H2 => v = .non ∧ ∃ dx, H dx = none ∧ dx ≠ hp.objs.size + 1 ∧ H2 (hp.objs.size + 1) = some (exo (hp.objs.size + 1) C (some dx)) ∧ H2 dx = some (exd dx (mk vs)) ∧ ∀ b, b ≠ hp.objs.size + 1 → b ≠ dx → H2 b = H b) (fun _ _ _ => False)
      (hr.make C us []) (I2.env0.make C us []) (hb _ _ n1) (.cons rfl rv) ⟨_, vs, rfl, hl, upd_same, fun dx H' h1 h2 h3 h4 h5 => ⟨rfl, dx, ?_, h2, h3, h4, fun b b1 b2 => (h5 b b1 b2).trans (upd_ne b1)⟩⟩) fun r s' hq => ?_))
  · rw [upd_ne h2] at h1
    exact h1
  cases r with
  | error er => exact (show False from hq).elim
  | ok fl =>
    cases fl with
    | ret u =>
      obtain ⟨v, H2, os2, bare2, un2, hok2, rv2, ev, dx, hdx, hne, ea, ed, off⟩ := hq
      subst ev
      obtain ⟨h2, g2, d2, t2, os'⟩ := s'
      have eH : upd (L2.del H2 (hp.objs.size + 1)) dx (.xd (mk vs)) = upd H dx (.xd (mk vs)) := by
        funext b
        by_cases h1 : b = dx
        · rw [h1, upd_same, upd_same]
        rw [upd_ne h1, upd_ne h1]
        by_cases h3 : b = hp.objs.size + 1
        · rw [h3, L2.del_same, hn]
        · rw [L2.del_ne h3, off b h3 h1]
      obtain ⟨t0, G, J, kG, ge, hoe, na⟩ := mk_end0 (d2 := d2) (t2 := t2) I hsz kk un2 hok2 os2 bare2 ea ed hdx
      exact ⟨rv2, hp.objs.size + 1, _, _, ⟨G, g2, d2, t2, os'⟩, _, .ref C, some dx, rfl, J, kG, ge, hoe, ⟨rfl, rfl, fun vs hv => by cases hv; rfl⟩, rfl, rfl, na, rfl, bare2, raises_own T.sub T.ty, by rw [eH]; exact q dx hdx⟩
    | next => exact False.elim hq
    | brk => exact False.elim hq
    | cont => exact False.elim hq
@[simp] def gRaise (EX : EXT) (C : Addr) (np : Nat) (mkD : List VT.D → List (Str × VT.D)) (ga : GA) : GS := fun _ S => ga S fun svs => onTrs svs fun ds => ds.length = np ∧ np ≤ 1000 ∧ EX C (mkD ds) S
end
end VT
namespace VT
open PySem PySem.Spec PyProof.Rows L2
def gTryEX (mt : Value → Option Bool) (i : Nat) (gs : Addr → Addr → Addr → GS) (EX : EXT) (D : VEnds) : EXT := ⟨fun C fs S' => ∃ b, mt (.ref C) = some b ∧
  (b = true → ∀ a dx, gs a C dx { nx := fun S2 => D.nx (S2.set i none), rt := D.rt, bk := fun S2 => D.bk (S2.set i none), ct := fun S2 => D.ct (S2.set i none) } (S'.set i (some (.exc a C dx fs)))) ∧ (b = false → EX C fs S'), EX.tl⟩
@[simp] def gTry (mt : Value → Option Bool) (i : Nat) (gb : EXT → GS) (gs : Addr → Addr → Addr → GS) (EX : EXT) : GS := fun D S => gb (gTryEX mt i gs EX D) D S
section
variable {X : Cx} {EX : EXT} {n : Str} {tx e : Expr} {mt : Value → Option Bool} {i : Nat} {body suite : List Stmt} {b0 : Stmt} {pos pos' : Pos} {gb : EXT → GS} {gs : Addr → Addr → Addr → GS} {ge : GE} {f : Str} {a C dx : Addr} {oe : Obj} {pn : List (Addr × Obj)}
theorem repf_get {F : Hp} {f : Str} {d : VT.D} : ∀ {fs : List (Str × VT.D)} {ws : List (Str × V)}, repf F fs ws → fs.lookup f = some d → ∃ v, ws.lookup f = some v ∧ rep F d v
  | [], _, _, h => by cases h
  | (g, d') :: fs, _, ⟨v, t, e, r, z⟩, h => by
    rw [e]
    by_cases hg : f = g
    · subst hg
      have h2 : some d' = some d := by simpa [List.lookup] using h
      cases h2
      exact ⟨v, by simp [List.lookup], r⟩
    · have hb : (f == g) = false := by simpa using hg
      rw [List.lookup, hb] at h
      obtain ⟨v2, e2, r2⟩ := repf_get z h
      exact ⟨v2, by rw [List.lookup, hb]; exact e2, r2⟩
end
end VT
namespace VT
open PySem PySem.Spec PyProof.Rows L2
@[simp] theorem sd_tz (ds : List D) : (SV.d (SV.tz ds)) = .tup ds := rfl
@[simp] theorem slook_tz (ds : List D) : (SV.look (SV.tz ds)) = .tz ds := rfl
@[simp] theorem slet_tz (ds : List D) : (SV.let_ (SV.tz ds)) = .tr (.tup ds) := rfl
@[simp] theorem sok_tz (ds : List D) : (SV.ok (SV.tz ds)) = True := rfl
@[simp] theorem sarg_tz (ds : List D) : (SV.arg (SV.tz ds)) = .tr (.tup ds) := rfl
@[simp] theorem sisret_tz (ds : List D) : (SV.isRet (SV.tz ds)) = False := rfl
@[simp] theorem sstays_tz (c : Bool) (ds : List D) : (SV.stays c (SV.tz ds)) = True := rfl
end VT
namespace VT
open PySem PySem.Spec PyProof.Rows L2
def gFmtD : D → (SV → Prop) → Prop
  | .str z, Q => Q (.tr (.str z))
  | .int i, Q => i.natAbs.log2 < 1920 ∧ Q (.tr (.str (Str.ofString (toString i))))
  | _, _ => False
@[simp] theorem gFmtD_str (z : Str) (Q : SV → Prop) : gFmtD (.str z) Q = Q (.tr (.str z)) := rfl
@[simp] theorem gFmtD_int (i : Int) (Q : SV → Prop) : gFmtD (.int i) Q = (i.natAbs.log2 < 1920 ∧ Q (.tr (.str (Str.ofString (toString i))))) := rfl
@[simp] def gFmt (g : GE) : GE := fun S Q => g S fun sv => gFmtD sv.d Q
abbrev GJ := S → Str → (Str → Prop) → Prop
@[simp] def gjNil : GJ := fun _ acc Q => Q acc
@[simp] def gjCons (g : GE) (gj : GJ) : GJ := fun S acc Q => g S fun sv => ∃ z, sv.d = .str z ∧ (acc ++ z).length ≤ sizeLine ∧ gj S (acc ++ z) Q
@[simp] def gJs (gj : GJ) : GE := fun S Q => gj S Str.empty fun out => Q (.tr (.str out))
def mergeD (kvs more : List (Key × D)) : List (Key × D) := more.foldl (fun acc kv => putD acc kv.1 kv.2) kvs
@[simp] theorem mergeD_nil (kvs : List (Key × D)) : mergeD kvs [] = kvs := rfl
@[simp] theorem mergeD_cons (kvs more : List (Key × D)) (k : Key) (d : D) : mergeD kvs ((k, d) :: more) = mergeD (putD kvs k d) more := rfl
section
variable {X : Cx} {EX : EXT}
abbrev GP := S → (List (Key × D) → Prop) → Prop
@[simp] def gpNil : GP := fun _ Q => Q []
@[simp] def gpCons (gk gv : GE) (gp : GP) : GP := fun S Q => gk S fun sk => ∃ k, keyD sk.d = some k ∧ gv S fun sv => ∃ d, sv = .tr d ∧ gp S fun kds => Q ((k, d) :: kds)
@[simp] def gDisp (gp : GP) : GE := fun S Q => gp S fun kds => kds.length ≤ 15 ∧ Q (.own (.dic (mergeD [] kds)))
end
end VT
namespace VT
open PySem PySem.Spec PyProof.Rows L2
section
variable {L : Lks} {K : PySem.W.Frag}
theorem Lks.Ok.fact (c : L.Ok K) (i : Nat) {f : He.Fa} (h : L.fa[i]? = some f := by rfl) : f.ok K = true := c.all.1 f (List.mem_of_getElem? h)
theorem Lks.Ok.fun_ (c : L.Ok K) (i : Nat) {d : He.DefD} (h : L.fn[i]? = some d := by rfl) : ∃ fd, FunD K d.name d.qual d.params d.body d.scope (d.dvs K) (d.kws K) (He.fAd K d.at_) fd := by
  have e := congrArg (fun l => l[i]?) c.fns.1
  simp only [List.getElem?_map, h] at e
  exact He.DefD.funD (Option.some.inj e) (c.all.2.1 d (List.mem_of_getElem? h))
end
theorem hu1 {A : Around} {k : Nat} (hr : Room k A) : A.units + 1 < cLine := by have := hr.un; omega
end VT
namespace VT
open PySem PySem.Spec PyProof.Rows L2
@[simp] theorem isT_exn (C : Addr) (fs : List (Str × D)) (T : Ty) : (D.exn C fs).isT T = false := by cases T <;> rfl
@[simp] theorem dat_exn (C : Addr) (fs : List (Str × D)) : (D.exn C fs).dat = false := rfl
@[simp] theorem items_exn (C : Addr) (fs : List (Str × D)) : (D.exn C fs).items = none := rfl
@[simp] theorem kind_exn (C : Addr) (fs : List (Str × D)) : (D.exn C fs).kind = none := rfl
@[simp] theorem isNon_exn (C : Addr) (fs : List (Str × D)) : (D.exn C fs).isNon = false := rfl
@[simp] theorem ofS_inj (a b : String) : (Str.ofString a = Str.ofString b) ↔ a = b := by
  constructor
  · intro h
    rw [Str.ofString_eq_toList, Str.ofString_eq_toList] at h
    have h1 : a.toList.map Char.toNat = b.toList.map Char.toNat := by
      have := congrArg (fun z : Str => z.cps.toList) h
      simpa using this
    have h2 : a.toList = b.toList := List.map_inj_right (fun x y e => Char.ext (UInt32.toNat_inj.mp e)) |>.mp h1
    exact String.ext (by simpa using h2)
  · rintro rfl
    rfl
@[simp] theorem ofS_beq (a b : String) : (Str.ofString a == Str.ofString b) = (a == b) := by
  rw [Bool.eq_iff_iff, beq_iff_eq, beq_iff_eq, ofS_inj]
@[simp] theorem fput_nil (f : Str) (x : FV) : fput f x [] = [(f, x)] := rfl
@[simp] theorem fput_cons (f g : Str) (x y : FV) (r : List (Str × FV)) : fput f x ((g, y) :: r) = if g = f then (g, x) :: r else (g, y) :: fput f x r := rfl
end VT
namespace VT
open PySem PySem.Spec PyProof.Rows L2
section
variable {cs : List (Addr × Obj)} {H H' : Hp} {b : Addr} {o : Obj} {u : HO}
theorem free_at (h : cs.lookup b = some o) : freeH cs H b = none := by unfold freeH; rw [h]
theorem of_free (h : freeH cs H b = some u) : cs.lookup b = none ∧ H b = some u := by
  cases e : cs.lookup b with
  | some o => rw [free_at e] at h; cases h
  | none => rw [free_off e] at h; exact ⟨rfl, h⟩
theorem freeN (e : H b = none) : freeH cs H b = none := by
  cases q : cs.lookup b with
  | none => rw [free_off q]; exact e
  | some o => exact free_at q
end
end VT
namespace VT
open PySem PySem.Spec PyProof.Rows L2
abbrev FTp := TLT → FXp
def spT (P : Program) (w : World) (K : PySem.W.Frag) (mg : Str → Option Value) (base : Heap) (F : FTp) : Sp := fun vs H Q E => ∃ G svs Qs Qx TL, (OkG G H ∧ G.T = TabsOf K) ∧ RepL H H G H vs svs ∧ (∀ sv ∈ svs, sv.isArg) ∧ ThkOk P w K mg base TL G H ∧ F TL svs Qs Qx ∧
  (∀ v H' G' sv, Ext G H G' H' → RepV H H G' H' v sv → sv.isRet → Qs sv → Q v H') ∧ ∀ cls d H', XOf G H Qx cls d H' → E cls d H'
structure FnT (P : Program) (w : World) (K : PySem.W.Frag) (mg : Str → Option Value) (base : Heap) (d : He.DefD) (k : Nat) (ps : List Str) (F : FTp) : Prop where
  ex : ∃ fd cl, FG K d.name d.qual d.params d.body d.scope cl (d.dvs K) (d.kws K) (He.fAd K d.at_) fd ∧ FnOk P w K mg base (L2N.CX P w) k (He.fAd K d.at_) fd ps (spT P w K mg base F)
  mg : mg d.name = some (.ref (He.fAd K d.at_))
section
variable {P : Program} {w : World} {K : PySem.W.Frag} {mg : Str → Option Value} {base : Heap} {d : He.DefD} {j k : Nat} {N ps : List Str} {F : FTp} {g : EXT → GS}
theorem FnT.mono (h : FnT P w K mg base d j ps F) (hj : j ≤ k) : FnT P w K mg base d k ps F := by
  obtain ⟨⟨fd, cl, hf, hk⟩, hm⟩ := h
  exact ⟨⟨fd, cl, hf, hk.mono hj⟩, hm⟩
end
end VT
namespace VT
open PySem PySem.Spec PyProof.Rows L2
structure LamF (K : PySem.W.Frag) (x : Str) : Prop where
  inn : x ∈ lamIn K
  uni : ∀ p ∈ (TabsOf K).tabs, p.1 = (He.cT K (x, none)).2 → p.2 = lamQ x
def TabBs (K : PySem.W.Frag) (mg : Str → Option Value) (base : Heap) : Prop := ∀ p ∈ (lamIn K).map fun x => He.cT K (x, none), LamX.TabB base mg p.1 p.2
theorem LamF.tb {K : PySem.W.Frag} {mg : Str → Option Value} {base : Heap} {x : Str} (h : LamF K x) (t : TabBs K mg base) : LamX.TabB base mg (He.cT K (x, none)).1 (He.cT K (x, none)).2 := t _ (List.mem_map.mpr ⟨x, h.inn, rfl⟩)
end VT
namespace VT
open PySem PySem.Spec PyProof.Rows L2
theorem LksX.Ok.ll {L : LksX} {K : PySem.W.Frag} (c : L.Ok K) : L.l.Ok K := congrArg (fun z : (Bool × List He.FnW) × Bool × List He.FnW => z.1) c
section
variable {P : Program} {K : PySem.W.Frag} {e : XE}
theorem XOk.code (h : XOk P K e) : XfC K (e.C K) ∧ PySem.W.findIn K (.ref (e.C K)) "code" = some none := ⟨h.all.2.2.2.1, h.all.1.code⟩
theorem XOk.field (h : XOk P K e) {fl : Str} (hf : e.fl = some fl) : XfC K (e.C K) ∧ PySem.W.findIn K (.ref (e.C K)) fl = some none := ⟨h.all.2.2.2.1, h.all.2.2.2.2 fl hf⟩
end
section
variable {P : Program} {w : World} {K : PySem.W.Frag} {mg : Str → Option Value} {base : Heap} {e : XE} {fl cn t : Str} {j j2 : Nat} {p0 p1 p2 p3 p4 p5 p6 p7 p8 p9 p10 p11 p12 p13 : Pos} {ar : Arg}
theorem xmk1 (h : XOk P K e) (hs : mg "super" = none) (hg : mg e.x = some (.ref (He.ga K e.x))) (hfl : e.fl = some fl) (hd : e.d.dfl = []) (hk : e.d.kwd = []) (hc : okS cn) (S : SupScope ["self", fl] ["self", fl] e.d.scope)
    (hb : e.d.body = [.Expr (.Call (.Attribute (.Call (.Name "super" p0) [] [] p1) "__init__" p2) [.Constant (.str t) j p3] [] p4) p5, .Assign [.Attribute (.Name "self" p6) "code" p7] (.Constant (.str cn) j2 p8) p9, .Assign [.Attribute (.Name "self" p10) fl p11] (.Name fl p12) p13])
    (ht : ∀ env : Env, ∃ pl : Sem Bool, eval (.Call (.Attribute (.Call (.Name "super" p0) [] [] p1) "__init__" p2) [.Constant (.str t) j p3] [] p4) env = (do
      let ov ← attributeBase (.Call (.Name "super" p0) [] [] p1) "__init__" env (eval (.Call (.Name "super" p0) [] [] p1) env)
      standAt p2.atName
      let (f, first) ← holding [ov] (getMethod ov "__init__" pl)
      callWith p4 f first (backTo p4 (starEach [.Constant (.str t) j p3] env)) []))
    (hh : (e.d.params.posonlyargs ++ e.d.params.args).head? = some ar) (ha : ar.arg = "self") (ks : e.d.scope.names.lookup ("super" : Str) = some .globalImplicit) (kc : e.d.scope.names.lookup ("__class__" : Str) = some .free) (hne : (fl == ("__debug__" : Str)) = false) (hne2 : (fl == ("__classdict__" : Str)) = false)
    (hbd : ∀ (cl : List (Str × Addr)) (kV doc pm cdv ct : Value) (an : Option Addr) (us : List Value), us.length = 2 → bindArgs (PySem.W.fnX e.d.name e.d.qual e.d.params e.d.body e.d.scope cl .none kV doc pm an cdv ct) ⟨us, []⟩ = pure ((["self", fl] : List Str).zip us)) :
    XMk P w K mg base e.x (He.ga K e.x) 1 fun ds => [(fl, ds.getD 0 .non), ("code", .str cn)] := by
  have e1 : e.d.dvs K = [] := by unfold He.DefD.dvs; rw [hd]; rfl
  have e2 : e.d.kws K = [] := by unfold He.DefD.kws; rw [hk]; rfl
  have F := h.fg
  rw [e1, e2] at F
  exact xmk_1 h.all.1 hg hc (xin_ok1 h.all.1 (h.all.2.2.2.2 fl hfl) ⟨h.all.2.2.1, hs⟩ F S hb ht hh ha ks kc hne hne2) hbd
theorem xmk0 (h : XOk P K e) (hs : mg "super" = none) (hg : mg e.x = some (.ref (He.ga K e.x))) (hd : e.d.dfl = []) (hk : e.d.kwd = []) (hc : okS cn) (S : SupScope ["self"] ["self"] e.d.scope)
    (hb : e.d.body = [.Expr (.Call (.Attribute (.Call (.Name "super" p0) [] [] p1) "__init__" p2) [.Constant (.str t) j p3] [] p4) p5, .Assign [.Attribute (.Name "self" p6) "code" p7] (.Constant (.str cn) j2 p8) p9])
    (ht : ∀ env : Env, ∃ pl : Sem Bool, eval (.Call (.Attribute (.Call (.Name "super" p0) [] [] p1) "__init__" p2) [.Constant (.str t) j p3] [] p4) env = (do
      let ov ← attributeBase (.Call (.Name "super" p0) [] [] p1) "__init__" env (eval (.Call (.Name "super" p0) [] [] p1) env)
      standAt p2.atName
      let (f, first) ← holding [ov] (getMethod ov "__init__" pl)
      callWith p4 f first (backTo p4 (starEach [.Constant (.str t) j p3] env)) []))
    (hh : (e.d.params.posonlyargs ++ e.d.params.args).head? = some ar) (ha : ar.arg = "self") (ks : e.d.scope.names.lookup ("super" : Str) = some .globalImplicit) (kc : e.d.scope.names.lookup ("__class__" : Str) = some .free)
    (hbd : ∀ (cl : List (Str × Addr)) (kV doc pm cdv ct : Value) (an : Option Addr) (us : List Value), us.length = 1 → bindArgs (PySem.W.fnX e.d.name e.d.qual e.d.params e.d.body e.d.scope cl .none kV doc pm an cdv ct) ⟨us, []⟩ = pure ((["self"] : List Str).zip us)) :
    XMk P w K mg base e.x (He.ga K e.x) 0 fun _ => [("code", .str cn)] := by
  have e1 : e.d.dvs K = [] := by unfold He.DefD.dvs; rw [hd]; rfl
  have e2 : e.d.kws K = [] := by unfold He.DefD.kws; rw [hk]; rfl
  have F := h.fg
  rw [e1, e2] at F
  exact xmk_0 h.all.1 hg hc (xin_ok0 h.all.1 ⟨h.all.2.2.1, hs⟩ F S hb ht hh ha ks kc) hbd
end
end VT
namespace VT
open PySem PySem.Spec PyProof.Rows L2
section
variable {X : Cx} {EX : EXT} {pins : List (Addr × Obj)} {σ : L2.St} {H0 Hs H : Hp} {G : Gh} {s : Shared} {k n : Nat} {m : Str} {C : Addr} {F : FXp} {vs : List V} {us : List Value} {svs : List SV} {Qs : SV → Prop} {Q : VK} {alts : List (Addr × FXp)}
@[simp] def gCS (g : List SV → (SV → Prop) → Prop) (ga : GA) : GE := fun S Q => ga S fun svs => g svs Q
end
end VT
namespace VT
open PySem PySem.Spec PyProof.Rows L2
section
variable {X : Cx} {EX : EXT} {pins : List (Addr × Obj)} {σ : L2.St} {H0 Hs H : Hp} {G : Gh} {s : Shared} {k : Nat} {v : V} {u : Value} {sv : SV} {alts : List (Addr × FXp)}
@[simp] def gOpS (g : SV → SV → (SV → Prop) → Prop) (ga gb : GE) : GE := fun S Q => ga S fun x => gb S fun y => g x y Q
end
end VT
namespace VT
open PySem PySem.Spec PyProof.Rows L2
@[simp] theorem kind_fn (f : Addr) (b : LamB) : D.kind (.fn f b) = none := rfl
@[simp] theorem isNon_fn (f : Addr) (b : LamB) : D.isNon (.fn f b) = false := rfl
@[simp] theorem tru_fn (f : Addr) (b : LamB) : D.tru (.fn f b) = none := rfl
@[simp] theorem items_fn (f : Addr) (b : LamB) : D.items (.fn f b) = none := rfl
@[simp] theorem dat_fn (f : Addr) (b : LamB) : D.dat (.fn f b) = false := rfl
@[simp] theorem isT_fn (f : Addr) (b : LamB) (t : Ty) : D.isT (.fn f b) t = false := by cases t <;> rfl
end VT
namespace VT
open PySem PySem.Spec PyProof.Rows L2
structure IsK (K : PySem.W.Frag) (D : Addr) : Prop where
  ha : PySem.W.findIn K (.ref D) "__class__" = some (some (.builtin "object.__class__"))
  hn : PySem.W.specialIn K (.builtin "object.__class__") "__get__" = some (some (.builtin "getset_descriptor.__get__"))
  htk : PySem.W.takesIn K (.builtin "object.__class__") = some true
  hm : PySem.W.mroIn K D (.type "object") = some true
theorem iskB_ok {x : Str} {K : PySem.W.Frag} (h : iskB x K = true) : IsK K (He.ga K x) := by
  unfold iskB at h
  simp only [Bool.and_eq_true, decide_eq_true_eq] at h
  exact ⟨h.1, h.2.1, h.2.2.1, h.2.2.2⟩
def InK (K : PySem.W.Frag) (D C : Addr) (b : Bool) : Prop := PySem.W.kitOne K (.ref D) (.ref C) = some b
theorem inkB_ok {x y : Str} {b : Bool} {K : PySem.W.Frag} (h : inkB x y b K = true) : InK K (He.ga K x) (He.ga K y) b := by
  show PySem.W.kitOne K (.ref (He.ga K x)) (.ref (He.ga K y)) = some b
  exact of_decide_eq_true h
end VT
namespace VT
open PySem PySem.Spec PyProof.Rows L2
theorem nt_own (x : Addr) : ∀ o, HO.own x ≠ tupO o := fun o z => by cases z
theorem nt_tup (x : List V) : ∀ o, HO.tup x ≠ tupO o := fun o z => by cases z
theorem nt_tbl (x : Array Value) : ∀ o, HO.tbl x ≠ tupO o := fun o z => by cases z
def addH (ext : List (Addr × Obj)) (H : Hp) : Hp := fun b => match ext.lookup b with
  | some o => some (tupO o)
  | none => H b
section
variable {P : Program} {w : World} {ext : List (Addr × Obj)} {H H' : Hp} {b : Addr} {o : Obj} {u : HO} {h h' : Heap} {fs : List Addr}
theorem add_at (h : ext.lookup b = some o) : addH ext H b = some (tupO o) := by unfold addH; rw [h]
theorem add_off (h : ext.lookup b = none) : addH ext H b = H b := by unfold addH; rw [h]
theorem Out.add (h : Out ext H) (e : H b = some u) : addH ext H b = some u := by rw [add_off (h.off e)]; exact e
theorem addN (h : ext.lookup b = none) (e : H b = none) : addH ext H b = none := by rw [add_off h]; exact e
def Stand (ext : List (Addr × Obj)) (h : Heap) : Prop := ∀ c o, ext.lookup c = some o → h.get? c = some o ∧ ∃ ds, TupB ds o
theorem hok_add (hok : HOk P w H h) (ho : Out ext H) (hc : Stand ext h) : HOk P w (addH ext H) h := fun b u e => by
  cases q : ext.lookup b with
  | some o =>
    rw [add_at q] at e
    cases e
    obtain ⟨z, ds, t⟩ := hc b o q
    obtain ⟨its, n, hd, hv⟩ := t.data
    exact ⟨z, t.len, its.toList, hv, o, z, t.cls, n, by rw [hd]⟩
  | none =>
    rw [add_off q] at e
    exact (hok b u e).stay (fun _ _ _ q => q) (fun c q => ho.add q) fun c xs q => ho.add q
theorem hok_drop (hok : HOk P w H h) (hk : KnT ext H) : HOk P w (freeH ext H) h := fun b u e => by
  obtain ⟨q, e⟩ := of_free e
  exact (hok b u e).stay (fun _ _ _ q => q) (fun c q => hk.free q (nt_own _)) fun c xs q => hk.free q (nt_tup _)
theorem un_add (u : Un fs [] (addH ext H) H' h h') (ho : Out ext H) (hc : Stand ext h) (hok : HOk P w H' h') : Un fs [] H (freeH ext H') h h' := by
  have kn : KnT ext H' := fun c o q => u.frzs c o _ (add_at q)
  have at_ : ∀ c o ob, h.get? c = some ob → ext.lookup c = some o → h'.get? c = some ob := fun c o ob e q => by
    have z := (hok c _ (kn c o q)).1
    rw [(hc c o q).1] at e
    cases e
    exact z
  refine ⟨fun b o e n hb hx => ?_, fun b o e n hb hx => ?_, fun b o e n hx => ?_, fun b o e hx => u.there b o e hx, fun b xs e => kn.free (u.tups b xs (ho.add e)) (nt_tup _), fun b o xs e => ?_, fun b ps e => ?_⟩
  · cases q : ext.lookup b with
    | some ob => exact at_ b ob o e q
    | none => exact u.keep b o e (addN q n) hb hx
  · cases q : ext.lookup b with
    | some ob => exact ⟨o.slots, at_ b ob o e q⟩
    | none => exact u.slot b o e (addN q n) hb hx
  · cases q : ext.lookup b with
    | some ob => exact free_at q
    | none => exact freeN (u.free b o e (addN q n) hx)
  · have q := ho.off e
    rw [free_off q]
    exact u.frzs b o xs (ho.add e)
  · obtain ⟨m, z⟩ := u.tbls b ps (ho.add e)
    exact ⟨m, kn.free z (nt_tbl _)⟩
end
theorem ff_base {h base base' : Heap} (k : ∀ b, base.get? b = none → base'.get? b = none) : ∀ {l : List Env}, h.FunFrames base l → h.FunFrames base' l
  | [], _ => trivial
  | _ :: _, ⟨a, ⟨L, o, h1, h2, h3, h4⟩, r⟩ => ⟨a, ⟨L, o, h1, k _ h2, h3, h4⟩, ff_base k r⟩
theorem ff_frs {h base : Heap} {b : Addr} : ∀ {l : List Env}, h.FunFrames base l → b ∈ frs l → base.get? b = none
  | [], _, hb => by cases hb
  | e :: l, ⟨a, ⟨L, o, h1, h2, h3, h4⟩, r⟩, hb => by
    unfold frs at hb
    rw [List.filterMap_cons, h1] at hb
    rcases List.mem_cons.mp hb with rfl | hb
    · exact h2
    · exact ff_frs r hb
def spLaw2 (K K2 : PySem.W.Frag) : Sp := fun vs H Q _ => ∃ (a : Addr) (ns : List Int), vs = [.ref a] ∧ SqL K2 H a (ns.map V.int) ∧ (∀ p ∈ (TabsOf K).tabs, H p.1 = some (.tbl #[])) ∧ ∀ H', Q (.bl true) H'
section
variable {P : Program} {w : World} {K : PySem.W.Frag} {ext : List (Addr × Obj)} {mg : Str → Option Value} {base : Heap} {k : Nat} {fa : Addr} {fd : FuncData} {x : Str}
theorem look2 {a : Addr} : List.lookup a (K ++ ext) = (List.lookup a K).or (List.lookup a ext) := List.lookup_append
theorem fnok_tup (hN : ∀ c o, ext.lookup c = some o → K.lookup c = none ∧ ∃ ds, TupB ds o) (hT : ∀ p ∈ tupIn K, ∃ o, ext.lookup p.1 = some o ∧ TupB p.2 o) (hb : PySem.W.Frag.In (K ++ ext) base) (hG : base.Ns mainGlobals mg) (hTB : TabBs K mg base)
    (hF : ∀ base' : Heap, K.In base' → base'.Ns mainGlobals mg → TabBs K mg base' → FnOk P w K mg base' CX0 k fa fd [x] (spLaw K)) : FnOk P w (K ++ ext) mg base CX0 k fa fd [x] (spLaw2 K (K ++ ext)) := by
  have inB : ∀ c o, ext.lookup c = some o → base.get? c = some o := fun c o e => hb c o (by
    show List.lookup c (K ++ ext) = _
    rw [look2, show List.lookup c K = none from (hN c o e).1]; exact e)
  have inK : ∀ c o, K.lookup c = some o → base.get? c = some o := fun c o e => hb c o (by
    show List.lookup c (K ++ ext) = _
    rw [look2, show List.lookup c K = some o from e]; rfl)
  have st : Stand ext base := fun c o e => ⟨inB c o e, (hN c o e).2⟩
  let B := hidT base (addH ext fun _ => none)
  have kept : ∀ {b : Addr} {o : Obj}, base.get? b = some o → (∀ its n, o.data ≠ .seq its n) → B.get? b = some o := fun {b o} e n => hidT_get e (by
    cases q : ext.lookup b with
    | none => exact addN q rfl
    | some o' =>
      obtain ⟨z, ds, t⟩ := st b o' q
      rw [e] at z
      cases z
      obtain ⟨its, m, hd, _⟩ := t.data
      exact (n its m hd).elim)
  have keptN : ∀ {b : Addr} {m : Str → Option Value}, base.Ns b m → B.Ns b m := fun ⟨o, es, ep, e, d, r⟩ => ⟨o, es, ep, kept e (fun its n z => by rw [d] at z; cases z), d, r⟩
  have ofB : ∀ {b : Addr} {o : Obj}, B.get? b = some o → base.get? b = some o ∧ ext.lookup b = none := fun {b o} e => by
    obtain ⟨e1, e2⟩ := of_hidT e
    refine ⟨e1, ?_⟩
    cases q : ext.lookup b with
    | none => rfl
    | some o' => rw [add_at q] at e2; cases e2
  have KB : K.In B := fun c o e => hidT_get (inK c o e) (by
    cases q : ext.lookup c with
    | none => exact addN q rfl
    | some o' => rw [(hN c o' q).1] at e; cases e)
  have TB : TabBs K mg B := fun p hp => by
    obtain ⟨⟨o, vs, file, tf, flags, tg, inF, text, tt, e1, e2, e3, r⟩, ⟨bm, ob, b1, b2, b3, b4, b5, b6, b7, b8⟩, g⟩ := hTB p hp
    exact ⟨⟨o, vs, file, tf, flags, tg, inF, text, tt, kept e1 (fun its n z => by rw [e3] at z; cases z), e2, e3, r⟩, ⟨bm, ob, b1, b2, b3, b4, kept b5 (fun its n z => by rw [b8] at z; cases z), b6, b7, b8⟩, g⟩
  have F := hF B KB (keptN hG) TB
  refine ⟨fun vs H Q E ⟨a, ns, e, _⟩ => by rw [e]; rfl, fun A outer s H args us vs Q E hr e0 hbi rv hs => ?_⟩
  obtain ⟨a, ns, rfl, hS, hTb, hq⟩ := hs
  have out : Out ext H := fun c o e => (e0.bs c o (inB c o e)).2
  have stS : Stand ext s.heap := fun c o e => ⟨(e0.bs c o (inB c o e)).1, (hN c o e).2⟩
  have nfr : ∀ b ∈ frs outer, ext.lookup b = none := fun b hb' => by
    have z := ff_frs e0.funs hb'
    cases q : ext.lookup b with
    | none => rfl
    | some o => rw [inB b o q] at z; cases z
  obtain ⟨mb, m1, m2⟩ := e0.mod.blt
  obtain ⟨mc, l1, l2⟩ := e0.mod.nolimit
  have e1 : Env0 P w K mg B A outer s (addH ext H) := ⟨e0.frames, ⟨KB, keptN e0.mod.glob, ⟨mb, keptN m1, m2⟩, ⟨mc, keptN l1, l2⟩⟩, fun b o e => ⟨(e0.bs b o (ofB e).1).1, addN (ofB e).2 (e0.bs b o (ofB e).1).2⟩, by
      rw [show B.objs.size = base.objs.size from hidT_size _ _]
      exact e0.bsz, ff_base (fun b n => by
      cases q : B.get? b with
      | none => rfl
      | some o => rw [(ofB q).1] at n; cases n) e0.funs, fun b hb' => addN (nfr b hb') (e0.frf b hb'), hok_add e0.hok out stS, e0.bare⟩
  have hS1 : SqL K (addH ext H) a (ns.map V.int) := by
    rcases hS with (q | ⟨o, q⟩) | ⟨o, its, n, q, c, r⟩
    · exact .inl (.inl (out.add q))
    · exact .inl (.inr ⟨o, out.add q⟩)
    · have q : List.lookup a (K ++ ext) = some o := q
      rw [look2] at q
      cases z : List.lookup a K with
      | some o' =>
        rw [z] at q
        cases q
        exact .inr ⟨_, its, n, z, c, r⟩
      | none =>
        rw [z] at q
        obtain ⟨_, ds, t⟩ := hN a o q
        have c1 := t.cls.symm.trans c
        injection c1 with z
        exact absurd z (by decide)
  refine codeAny_mono (F.run A outer s (addH ext H) args us [.ref a] (fun v _ => v = .bl true) E hr e1 hbi rv ⟨a, ns, rfl, hS1, ⟨fun p hp => out.add (hTb p hp), fun p hp => ?_⟩, fun _ => rfl⟩) fun r s' z => ?_
  · obtain ⟨o, q, t⟩ := hT p hp
    exact ⟨o, tupV o, t.dict, add_at q, t.reps⟩
  · cases r with
    | error e => exact z
    | ok fl =>
      cases fl with
      | ret u =>
        obtain ⟨v, H', os, ag, un, hok, rv', q⟩ := z
        have q : v = .bl true := q
        subst q
        have kn : KnT ext H' := fun c o q => un.frzs c o _ (add_at q)
        exact ⟨.bl true, freeH ext H', os, ag, un_add un out stS hok, hok_drop hok kn, rv', hq _⟩
      | next => exact z
      | brk => exact z
      | cont => exact z
end
theorem hookZ_eq {β : Type} {n : Nat} {o : PySem.W.Frag → β} {v : β} {g : Addr → Option Obj} {s : Shared} (h : ∀ a, g a = s.heap.get? a) : obsZ n o g = (hookZ n o v).obs s := by
  have e : g = s.heap.get? := funext h
  rw [e]
  rfl
def mkExt (h : Heap) : List (Addr × List D) → List (Addr × Obj)
  | [] => []
  | p :: l => match h.get? p.1 with
    | some o => (p.1, o) :: mkExt h l
    | none => mkExt h l
theorem mkExt_of {h : Heap} {a : Addr} {o : Obj} : ∀ {l : List (Addr × List D)}, (mkExt h l).lookup a = some o → h.get? a = some o ∧ ∃ p ∈ l, p.1 = a
  | [], e => by cases e
  | p :: l, e => by
    unfold mkExt at e
    split at e
    · rename_i o' q
      by_cases z : a = p.1
      · subst z
        have e : some o' = some o := by simpa [List.lookup] using e
        cases e
        exact ⟨q, p, List.mem_cons_self .., rfl⟩
      · rw [List.lookup_cons, show (a == p.1) = false from beq_false_of_ne z] at e
        obtain ⟨e1, r, e2, e3⟩ := mkExt_of e
        exact ⟨e1, r, List.mem_cons_of_mem _ e2, e3⟩
    · obtain ⟨e1, r, e2, e3⟩ := mkExt_of e
      exact ⟨e1, r, List.mem_cons_of_mem _ e2, e3⟩
theorem mkExt_at {h : Heap} {a : Addr} {o : Obj} (q : h.get? a = some o) : ∀ {l : List (Addr × List D)}, (∃ p ∈ l, p.1 = a) → (mkExt h l).lookup a = some o
  | [], ⟨p, hp, _⟩ => by cases hp
  | r :: l, ⟨p, hp, e⟩ => by
    unfold mkExt
    by_cases z : a = r.1
    · rw [← z, q]
      simp [List.lookup]
    · have hl : ∃ p ∈ l, p.1 = a := by
        rcases List.mem_cons.mp hp with rfl | hp
        · exact (z e.symm).elim
        · exact ⟨p, hp, e⟩
      split
      · rw [List.lookup_cons, show (a == r.1) = false from beq_false_of_ne z]
        exact mkExt_at q hl
      · exact mkExt_at q hl
theorem lawAtZ {l : PySem.W.OpenLaw} {w : World} {K : PySem.W.Frag} {k n : Nat} {x : Str} {mg : Str → Option Value} {fa : Addr} {h : Heap} {fd : FuncData} (KX : K.In h) (t : ∀ x ∈ lamIn K, h.get? (He.cT K (x, none)).2 = some { cls := .none, data := .fields #[] } ∧ K.lookup (He.cT K (x, none)).2 = none)
    (u : ∀ p ∈ tupIn K, ∃ o, h.get? p.1 = some o ∧ K.lookup p.1 = none ∧ TupB p.2 o)
    (hb : ∀ (s : Shared) (u : Value), BindsTo s fd ⟨[u], []⟩ [(x, u)]) (hF : ∀ base : Heap, K.In base → base.Ns mainGlobals mg → TabBs K mg base → FnOk l.prog w K mg base CX0 k fa fd [x] (spLaw K)) :
    ∃ K2 : PySem.W.Frag, K2.In h ∧ LamX.LawAtS l w K2 CX0 k n x mg fa h := by
  have hN : ∀ c o, (mkExt h (tupIn K)).lookup c = some o → K.lookup c = none ∧ ∃ ds, TupB ds o := fun c o e => by
    obtain ⟨e1, p, hp, rfl⟩ := mkExt_of e
    obtain ⟨o', h1, h2, h3⟩ := u p hp
    rw [e1] at h1
    cases h1
    exact ⟨h2, _, h3⟩
  have inn : PySem.W.Frag.In (K ++ mkExt h (tupIn K)) h := fun a o e => by
    have e : List.lookup a (K ++ mkExt h (tupIn K)) = some o := e
    rw [look2] at e
    cases z : List.lookup a K with
    | some o' =>
      rw [z] at e
      cases e
      exact KX a _ z
    | none =>
      rw [z] at e
      exact (mkExt_of e).1
  refine ⟨K ++ mkExt h (tupIn K), inn, fd, (lamIn K).map fun x => He.cT K (x, none), spLaw2 K (K ++ mkExt h (tupIn K)), fun p hp => ?_, fun p hp => ?_, fun p hp => ?_, hb, fun H a ns _ _ hT hS => ⟨a, ns, rfl, hS, fun p hp => ?_, fun _ => rfl⟩, fun base h1 h2 h3 => fnok_tup hN (fun p hp => ?_) h1 h2 h3 hF⟩
  · obtain ⟨x, hx, rfl⟩ := List.mem_map.mp hp
    exact (t x hx).1
  · obtain ⟨x, hx, rfl⟩ := List.mem_map.mp hp
    show List.lookup _ (K ++ mkExt h (tupIn K)) = none
    rw [look2, show List.lookup _ K = none from (t x hx).2]
    cases z : (mkExt h (tupIn K)).lookup (He.cT K (x, none)).2 with
    | none => rfl
    | some o =>
      obtain ⟨_, ds, tb⟩ := hN _ o z
      obtain ⟨z1, _⟩ := mkExt_of z
      rw [(t x hx).1] at z1
      cases z1
      cases tb.cls
  · obtain ⟨x, hx, rfl⟩ := List.mem_map.mp hp
    exact PySem.W.codeHd_of_K KX (List.mem_filter.mp hx).2
  · obtain ⟨x, hx, rfl⟩ := List.mem_map.mp hp
    exact hT _ (List.mem_map.mpr ⟨x, hx, rfl⟩)
  · obtain ⟨o, h1, h2, h3⟩ := u p hp
    exact ⟨o, mkExt_at h1 ⟨p, hp, rfl⟩, h3⟩
end VT
namespace VT
open PySem PySem.Spec PyProof.Rows L2
theorem onTrs_app {P : List D → Prop} {r : List SV} : ∀ {ds : List D}, onTrs (ds.map SV.tr ++ r) P ↔ onTrs r fun es => P (ds ++ es)
  | [] => Iff.rfl
  | d :: ds => by
    show onTrs (ds.map SV.tr ++ r) (fun es => P (d :: es)) ↔ _
    exact onTrs_app (ds := ds)
@[simp] theorem onTrs_apps {P : List D → Prop} {r : List SV} {ds : List D} : onTrs (ds.map SV.tr ++ r) P = onTrs r fun es => P (ds ++ es) := propext onTrs_app
@[simp] theorem onTrs_maps {P : List D → Prop} {ds : List D} : onTrs (ds.map SV.tr) P = P ds := by
  have := onTrs_apps (P := P) (r := []) (ds := ds)
  simpa using this
def FnB (P : Program) (w : World) (K : PySem.W.Frag) (mg : Str → Option Value) (base : Heap) (CX : CXT) (k : Nat) (f : Addr) (fd : FuncData) (ps : List Str) (sp : Sp) : Prop :=
  ∀ (A : Around) (outer : List Env) (s : Shared) (H : Hp) (args : Args) (Q : VK) (E : XK), Room k A → Env0 P w K mg base A outer s H → StX.Bnd CX P w K mg base fd args ps A outer s H E (fun vs H2 => sp vs H2 Q E) →
    codeAny (model P w) A (.call (.ref f) args) (CR CX outer P w H s Q E) s
theorem FnB.mono {P : Program} {w : World} {K : PySem.W.Frag} {mg : Str → Option Value} {base : Heap} {CX : CXT} {j k : Nat} {f : Addr} {fd : FuncData} {ps : List Str} {sp : Sp} (h : FnB P w K mg base CX j f fd ps sp) (hj : j ≤ k) : FnB P w K mg base CX k f fd ps sp :=
  fun A outer s H args Q E hr => h A outer s H args Q E (hr.mono hj)
structure FnS (P : Program) (w : World) (K : PySem.W.Frag) (mg : Str → Option Value) (base : Heap) (d : He.DefD) (f : Addr) (k : Nat) (ps : List Str) (F : FXp) : Prop where
  ex : ∃ fd cl, FG K d.name d.qual d.params d.body d.scope cl (d.dvs K) (d.kws K) f fd ∧ FnB P w K mg base (L2N.CX P w) k f fd ps (spX K F)
section
variable {P : Program} {w : World} {K : PySem.W.Frag} {mg : Str → Option Value} {base : Heap} {d : He.DefD} {C f : Addr} {j k : Nat} {N ps : List Str} {F F' : FXp} {g : EXT → GS}
theorem FnS.mono (h : FnS P w K mg base d f j ps F) (hj : j ≤ k) : FnS P w K mg base d f k ps F := by
  obtain ⟨fd, cl, hf, hk⟩ := h
  exact ⟨fd, cl, hf, hk.mono hj⟩
end
end VT
namespace VT
open PySem PySem.Spec PyProof.Rows L2
section
variable {G0 G G' : Gh} {H0 H H' Hb : Hp} {σ : L2.St} {S : S} {i : Nat} {v : V} {x C dx : Addr} {fs fs' : List (Str × FV)} {ws : List (Str × V)}
theorem Rel.off {L : Addr → Prop} (R : Rel G0 H0 G H σ S) (E : Ext G0 H0 G H') (off : ∀ b, ¬ L b → H' b = H b) (hL : ∀ b, L b → H0 b = none) (no : ∀ (i : Nat) (sv : SV) (v : V) (b : Addr), S[i]? = some (some sv) → σ[i]? = some (some v) → Owns H v sv b → ¬ L b) : Rel G0 H0 G H' σ S := by
  have old : ∀ b, H0 b ≠ none → H' b = H b := fun b h => off b fun z => h (hL b z)
  have back : ∀ (i : Nat) (sv : SV) (v : V) (b : Addr), S[i]? = some (some sv) → σ[i]? = some (some v) → Owns H' v sv b → Owns H v sv b := fun i sv v b e1 e2 o => by
    obtain ⟨u, e6, r6⟩ := R.slot i sv e1
    rw [e2] at e6
    cases e6
    exact o.at r6 fun b ob => off b (no i sv v b e1 e2 ob)
  refine ⟨E, R.len, fun j sw ej => ?_, fun j l sj sl u w b hjl e2 e3 e4 e5 o1 o2 => R.sep j l sj sl u w b hjl e2 e3 e4 e5 (back _ _ _ _ e2 e4 o1) (back _ _ _ _ e3 e5 o2), R.nopk⟩
  obtain ⟨u, e6, r6⟩ := R.slot j sw ej
  refine ⟨u, e6, ?_⟩
  have keep : ∀ b, Owns H u sw b → Mine H0 G b ∧ H' b = H b := fun b ob => ⟨(r6.owns ob).1, off b (no j sw u b ej e6 ob)⟩
  have okj := R.nopk j sw ej
  cases sw with
  | tr d' => exact r6
  | exc a' C d fs => exact r6
  | tz ds => exact r6
  | fn f => exact r6
  | own d' => exact r6.at (fun _ => nofun) (fun _ => nofun) nofun (fun _ _ => nofun) (fun _ _ => nofun) (fun _ _ z => z) keep
  | obj q C fs => exact r6.at (fun _ => nofun) (fun _ => nofun) nofun (fun _ _ => nofun) (fun _ _ => nofun) (fun _ _ z => z) keep
  | dob q kvs => exact r6.at (fun _ => nofun) (fun _ => nofun) nofun (fun _ _ => nofun) (fun _ _ => nofun) (fun _ _ z => z) keep
  | tow q c ds d2 => exact r6.at (fun _ => nofun) (fun _ => nofun) nofun (fun _ _ => nofun) (fun _ _ => nofun) (fun _ _ z => z) keep
  | brw d' =>
    obtain ⟨b, rfl, q1, q2, q3⟩ := r6
    exact ⟨b, rfl, q1, q2, q3.at (fun _ _ z => z) (old b q1)⟩
  | pk d' => exact okj.elim
  | bag => exact r6
  | pob C fs => exact okj.elim
  | bob C fs =>
    obtain ⟨b, dx, ws, q1, q2, q3, q4, q5⟩ := r6
    exact ⟨b, dx, ws, q1, q2, (old b q2).trans q3, q4, q5.off fun b h u hu => (old b h).trans hu⟩
end
end VT
namespace VT
open PySem PySem.Spec PyProof.Rows L2
abbrev FUp := Addr → List (Str × FV) → List SV → (List (Str × FV) → Prop) → XP → Prop
def spU (K : PySem.W.Frag) (F : FUp) : Sp := fun vs H Q E => ∃ G Hb x C fs vs' svs Qf Qx, G.T = TabsOf K ∧ Ext G Hb G H ∧ vs = .ref x :: vs' ∧ RepV Hb Hb G H (.ref x) (.obj x C fs) ∧ RepL Hb Hb G H vs' svs ∧ (∀ sv ∈ svs, sv.isArg) ∧ F C fs svs Qf Qx ∧
  (∀ H' G' fs', Ext G Hb G' H' → RepV Hb Hb G' H' (.ref x) (.obj x C fs') → Qf fs' → Q .non H') ∧ ∀ cls d H', XOf G Hb Qx cls d H' → E cls d H'
structure IniU (P : Program) (w : World) (K : PySem.W.Frag) (mg : Str → Option Value) (base : Heap) (d : He.DefD) (f : Addr) (k : Nat) (ps : List Str) (F : FUp) : Prop where
  ex : ∃ fd cl, FG K d.name d.qual d.params d.body d.scope cl (d.dvs K) (d.kws K) f fd ∧ FnOk P w K mg base (L2N.CX P w) k f fd ps (spU K F)
section
variable {P : Program} {w : World} {K : PySem.W.Frag} {mg : Str → Option Value} {base : Heap} {d : He.DefD} {C D f : Addr} {j k : Nat} {N ps : List Str} {self : Str} {F : FXp} {FU : FUp} {g : EXT → GS}
theorem IniU.mono (h : IniU P w K mg base d f j ps FU) (hj : j ≤ k) : IniU P w K mg base d f k ps FU := by
  obtain ⟨fd, cl, hf, hk⟩ := h
  exact ⟨fd, cl, hf, hk.mono hj⟩
theorem IniU.ini (h : IniU P w K mg base d f k ps FU) (C : Addr) : IniX P w K mg base d C f k ps (fun svs Q Qx => FU C [] svs (fun fs => Q (.tr (.ins C (frzF fs)))) Qx) := by
  obtain ⟨fd, cl, hf, hk⟩ := h
  refine ⟨fd, cl, hf, hk.imp fun vs H Q E ⟨G, H1, x, dx, vs', svs, Qs, Qx, e1, e2, e3, e4, ok, ev, r, ha, q, z, zx⟩ => ?_⟩
  obtain ⟨E1, ro⟩ := ext_made (C := C) ok.1 e2 e3 e4
  subst e1
  exact ⟨G, H1, x, C, [], vs', svs, _, Qx, ok.2, E1, ev, ro, r.ext E1, ha, q, fun H' G' fs' E' r' q' => z H' G' fs' E' r' q', zx⟩
end
end VT
namespace VT
open PySem PySem.Spec PyProof.Rows L2
theorem LksZ.Ok.lx {L : LksZ} {K : PySem.W.Frag} (c : L.Ok K) : L.l.Ok K := congrArg (fun z : ((Bool × List He.FnW) × Bool × List He.FnW) × Bool × List He.FnW => z.1) c
end VT
namespace VT
open PySem PySem.Spec PyProof.Rows L2
@[simp] def gHdS (i j : Nat) (ge : GE) : GS := fun D S => ge S fun sv => ∃ x xs, sv.d = .lst (x :: xs) ∧ D.nx ((S.set i (some (.tr x))).set j (some (.own (.lst xs))))
@[simp] def gLtS (i j : Nat) (ge : GE) : GS := fun D S => ge S fun sv => ∃ x xs, sv.d = .lst (xs ++ [x]) ∧ D.nx ((S.set i (some (.own (.lst xs)))).set j (some (.tr x)))
end VT
namespace VT
open PySem PySem.Spec PyProof.Rows L2
def keyE : Key → D
  | .inl i => .int i
  | .inr x => .str x
@[simp] theorem keyE_inl (i : Int) : keyE (.inl i) = .int i := rfl
@[simp] theorem keyE_inr (x : Str) : keyE (.inr x) = .str x := rfl
def okK : Key → Prop
  | .inl _ => True
  | .inr x => okS x
@[simp] theorem okK_inl (i : Int) : okK (.inl i) = True := rfl
@[simp] theorem okK_inr (x : Str) : okK (.inr x) = okS x := rfl
@[simp] def giKeys (g : GE) : GI := fun S Q => g S fun sv => ∃ kvs, sv = .tr (.dic kvs) ∧ (∀ p ∈ kvs, okK p.1) ∧ Q (kvs.map fun p => keyE p.1)
end VT
namespace VT
open PySem PySem.Spec PyProof.Rows L2
@[simp] theorem atI_4 {α : Type} (a b c d x : α) (xs : List α) : atI (a :: b :: c :: d :: x :: xs) 4 = some x := atN (a :: b :: c :: d :: x :: xs) 4
@[simp] theorem atI_5 {α : Type} (a b c d e x : α) (xs : List α) : atI (a :: b :: c :: d :: e :: x :: xs) 5 = some x := atN (a :: b :: c :: d :: e :: x :: xs) 5
@[simp] theorem atI_6 {α : Type} (a b c d e f x : α) (xs : List α) : atI (a :: b :: c :: d :: e :: f :: x :: xs) 6 = some x := atN (a :: b :: c :: d :: e :: f :: x :: xs) 6
section
variable {X : Cx} {EX : EXT} {k : Nat} {alts : List (Addr × FXp)}
@[simp] def gTestS (g : SV → SV → (SV → Prop) → Prop) (ga gb : GE) : GT := fun S Q => ga S fun x => gb S fun y => g x y fun z => ∃ k, z = .tr (.bl k) ∧ Q k
end
end VT
namespace VT
open PySem PySem.Spec PyProof.Rows L2
structure StM (K : PySem.W.Frag) (C : Addr) (m : Str) (g : Addr) : Prop where
  rd : PySem.W.readsIn K C (.type "type") = true
  ga : PySem.W.specialIn K (.ref C) "__getattribute__" = some (some (.builtin "type.__getattribute__"))
  at_ : ∃ p rest, PySem.W.findCls K (.ref C) (.type "type") m = some (.get (.builtin "staticmethod.__get__") (.ref p) .none (.ref C)) ∧ PySem.W.recIn K p "staticmethod" = some (.ref g :: rest)
structure ClM (K : PySem.W.Frag) (C : Addr) (m : Str) (g : Addr) : Prop where
  rd : ClX.CRead K C (.type "type")
  at_ : ∃ p, ClX.CMet K C (.type "type") m p g
end VT
namespace VT
open PySem PySem.Spec PyProof.Rows L2
section
variable {L : LksW} {K : PySem.W.Frag}
theorem LksW.Ok.lx (c : L.Ok K) : L.z.l.Ok K := c.z.lx
end
structure StV (P : Program) (w : World) (K : PySem.W.Frag) (mg : Str → Option Value) (base : Heap) (x m : Str) (d : He.DefD) (k : Nat) (ps : List Str) (F : FXp) : Prop where
  ex : ∃ g, StM K (He.ga K x) m g ∧ FnX P w K mg base d g k ps F
structure ClV (P : Program) (w : World) (K : PySem.W.Frag) (mg : Str → Option Value) (base : Heap) (x m : Str) (d : He.DefD) (k : Nat) (ps : List Str) (F : FXp) : Prop where
  ex : ∃ g, ClM K (He.ga K x) m g ∧ FnX P w K mg base d g k ps F
section
variable {P : Program} {w : World} {K : PySem.W.Frag} {mg : Str → Option Value} {base : Heap} {x m : Str} {d : He.DefD} {j k : Nat} {ps : List Str} {F F' : FXp}
theorem StV.mono (h : StV P w K mg base x m d j ps F) (hj : j ≤ k) : StV P w K mg base x m d k ps F := let ⟨g, a, b⟩ := h.ex; ⟨g, a, b.mono hj⟩
theorem ClV.mono (h : ClV P w K mg base x m d j ps F) (hj : j ≤ k) : ClV P w K mg base x m d k ps F := let ⟨g, a, b⟩ := h.ex; ⟨g, a, b.mono hj⟩
end
end VT
namespace VT
open PySem PySem.Spec PyProof.Rows L2
@[simp] def ggTupL (is : List Nat) : GG := fun d S Q => ∃ ds, d = .lst ds ∧ ds.length = is.length ∧ Q (ggAll is ds S)
end VT
namespace VT
open PySem PySem.Spec PyProof.Rows L2
@[simp] theorem sisret_tow (q b : Addr) (ds : List D) (e : D) : SV.isRet (SV.tow q b ds e) = True := rfl
@[simp] theorem slet_tow (q b : Addr) (ds : List D) (e : D) : SV.let_ (SV.tow q b ds e) = .tr (.tup [.lst ds, e]) := rfl
@[simp] theorem sok_tow (q b : Addr) (ds : List D) (e : D) : SV.ok (SV.tow q b ds e) = True := rfl
end VT
namespace VT
open PySem PySem.Spec PyProof.Rows L2
open Sem (wp)
section
variable {X : Cx} {EX : EXT} {pos : Pos}
@[simp] def fExtendT (ds : List VT.D) (svs : List SV) (F : List VT.D → Prop) : Prop := ∃ sv ys, svs = [sv] ∧ sv.d = .tup ys ∧ ds.length + ys.length ≤ sizeLine ∧ F (ds ++ ys)
@[simp] def ggTupN (i : Nat) (is : List Nat) : GG := fun d S Q => ∃ d1 ds2, d = .tup [d1, .tup ds2] ∧ ds2.length = is.length ∧ Q (ggAll is ds2 (S.set i (some (.tr d1))))
end
end VT
namespace VT
open PySem PySem.Spec PyProof.Rows L2
structure StS (P : Program) (w : World) (K : PySem.W.Frag) (mg : Str → Option Value) (base : Heap) (x m : Str) (d : He.DefD) (k : Nat) (ps : List Str) (F : FXp) : Prop where
  ex : ∃ g, StM K (He.ga K x) m g ∧ FnS P w K mg base d g k ps F
theorem StS.mono {P : Program} {w : World} {K : PySem.W.Frag} {mg : Str → Option Value} {base : Heap} {x m : Str} {d : He.DefD} {j k : Nat} {ps : List Str} {F : FXp} (h : StS P w K mg base x m d j ps F) (hj : j ≤ k) : StS P w K mg base x m d k ps F := let ⟨g, a, b⟩ := h.ex; ⟨g, a, b.mono hj⟩
end VT
namespace VT
open PySem PySem.Spec PyProof.Rows L2 RZ
inductive Wk (M : Heap) (j l : Addr) (k : Nat) (xs : Array Value) : Bool → Prop
  | ls (a : M.IsListIter j l k) (b : M.IsList l xs) : Wk M j l k xs false
  | tp (a : M.IsTupleIter j l k) (b : M.IsTuple l xs) : Wk M j l k xs true
theorem Wk.up {M N : Heap} {t : Bool} {j l : Addr} {k : Nat} {xs : Array Value} (W : Wk M j l k xs t) (f : ∀ o, M.get? j = some o → N.get? j = some o) (g : ∀ o, M.get? l = some o → N.get? l = some o) : Wk N j l k xs t := by
  cases W with
  | ls a b => exact .ls (a.at f) (b.at g)
  | tp a b =>
    obtain ⟨o, ho, r⟩ := b
    exact .tp (a.at f) ⟨o, g _ ho, r⟩
theorem Wk.lt {M : Heap} {t : Bool} {j l : Addr} {k : Nat} {xs : Array Value} (W : Wk M j l k xs t) : j < M.objs.size := by
  cases W with
  | ls a b =>
    obtain ⟨_, e, _⟩ := a
    exact Heap.lt_size e
  | tp a b =>
    obtain ⟨_, e, _⟩ := a
    exact Heap.lt_size e
end VT
namespace VT
open PySem PySem.Spec PyProof.Rows L2 RZ
structure ZmS (z tI tO j1 j2 a b : Addr) (i : Nat) (M : Heap) : Prop where
  z : IsZip M z tI tO .none
  tI : IsPair M tI (.ref j1) (.ref j2)
  tO : ∃ x y, IsPair M tO x y
  j1 : M.IsTupleIter j1 a i
  j2 : M.IsListIter j2 b i
theorem ZmS.up {z tI tO j1 j2 a b : Addr} {i : Nat} {M N : Heap} (S : ZmS z tI tO j1 j2 a b i M) (k : ∀ c, c ∈ [z, tI, tO, j1, j2] → ∀ o, M.get? c = some o → N.get? c = some o) : ZmS z tI tO j1 j2 a b i N where
  z := k z (by simp) _ S.z
  tI := k tI (by simp) _ S.tI
  tO := let ⟨x, y, e⟩ := S.tO; ⟨x, y, k tO (by simp) _ e⟩
  j1 := S.j1.at (k j1 (by simp))
  j2 := S.j2.at (k j2 (by simp))
theorem ZmS.obj {z tI tO j1 j2 a b : Addr} {i : Nat} {M : Heap} (S : ZmS z tI tO j1 j2 a b i M) : ∀ c ∈ [z, tI, tO, j1, j2], ∃ o, M.get? c = some o ∧ ∀ v, o.data ≠ .cell v := by
  obtain ⟨e1, e2, ⟨x, y, e3⟩, ⟨o1, e4, _, d4⟩, ⟨o2, e5, _, d5⟩⟩ := S
  intro c hc
  simp only [List.mem_cons, List.not_mem_nil, or_false] at hc
  rcases hc with rfl | rfl | rfl | rfl | rfl
  · exact ⟨_, e1, nofun⟩
  · exact ⟨_, e2, nofun⟩
  · exact ⟨_, e3, nofun⟩
  · exact ⟨_, e4, by rw [d4]; nofun⟩
  · exact ⟨_, e5, by rw [d5]; nofun⟩
end VT
namespace VT
open PySem
open Sem (wp)
theorem Rl.push {G a b : Array GenState} (r : Rl G a b) {x : GenState} (hx : NogS x) : Rl G (a.push x) (b.push x) where
  size := by rw [Array.size_push, Array.size_push, r.size]
  old := fun i y h hs => by
    obtain ⟨h1, h2⟩ := r.old i y h hs
    have l1 := (Array.getElem?_eq_some_iff.mp h1).1
    have l2 := (Array.getElem?_eq_some_iff.mp h2).1
    rw [Array.getElem?_push_lt l1, Array.getElem?_push_lt l2, ← Array.getElem?_eq_getElem l1, ← Array.getElem?_eq_getElem l2]
    exact ⟨h1, h2⟩
  new := fun i z h => by
    rcases Nat.lt_trichotomy i a.size with hlt | heq | hgt
    · have hlb : i < b.size := by rw [← r.size]; exact hlt
      rw [Array.getElem?_push_lt hlt, ← Array.getElem?_eq_getElem hlt] at h
      rw [Array.getElem?_push_lt hlb, ← Array.getElem?_eq_getElem hlb]
      exact r.new i z h
    · subst heq
      rw [Array.getElem?_push_size] at h
      cases h
      rw [r.size, Array.getElem?_push_size]
      exact .inr ⟨rfl, hx⟩
    · rw [Array.getElem?_eq_none (by rw [Array.size_push]; omega)] at h
      cases h
theorem Rl.set {G a b : Array GenState} (r : Rl G a b) {g : Nat} (hg : ∀ y, G[g]? = some y → ¬ Slp y) {x : GenState} (hx : NogS x) : Rl G (a.setIfInBounds g x) (b.setIfInBounds g x) where
  size := by rw [Array.size_setIfInBounds, Array.size_setIfInBounds, r.size]
  old := fun i y h hs => by
    have ne : g ≠ i := fun e => hg y (by rw [e]; exact h) hs
    obtain ⟨h1, h2⟩ := r.old i y h hs
    rw [Array.getElem?_setIfInBounds_ne ne, Array.getElem?_setIfInBounds_ne ne]
    exact ⟨h1, h2⟩
  new := fun i z h => by
    by_cases e : g = i
    · subst e
      have hlt : g < a.size := by
        have := (Array.getElem?_eq_some_iff.mp h).1
        rw [Array.size_setIfInBounds] at this
        exact this
      rw [Array.getElem?_setIfInBounds_self_of_lt hlt] at h
      cases h
      rw [Array.getElem?_setIfInBounds_self_of_lt (by rw [← r.size]; exact hlt)]
      exact .inr ⟨rfl, hx⟩
    · rw [Array.getElem?_setIfInBounds_ne e] at h ⊢
      exact r.new i z h
end VT
namespace VT
open PySem PySem.Spec PyProof.Rows L2
open Sem (wp)
structure Dead (h h' : Heap) : Prop where
  size : h.objs.size ≤ h'.objs.size
  gone : ∀ a, a < h.objs.size → h.get? a = none → h'.get? a = none
theorem Dead.refl {h : Heap} : Dead h h := ⟨Nat.le_refl _, fun _ _ e => e⟩
theorem Dead.trans {h h1 h2 : Heap} (a : Dead h h1) (b : Dead h1 h2) : Dead h h2 := ⟨Nat.le_trans a.size b.size, fun c hc e => b.gone c (Nat.lt_of_lt_of_le hc a.size) (a.gone c hc e)⟩
end VT
namespace VT
open PySem PySem.Spec PyProof.Rows L2 GenW
def cutH (n : Nat) (h : Heap) : Heap := { h with objs := h.objs.extract 0 n }
abbrev gX (U : GD) (z : Shared) (M0 : Hp) : Cx where
  prog := U.P
  w := U.w
  K := U.K
  mg := U.mg
  base := U.base
  A := U.A.deeper U.env
  N := U.N
  s_0 := { z with heap := cutH U.env.locals z.heap }
  H_0 := M0
  env := U.env
  outer := U.outer
  stack := U.env :: U.outer
  ex := []
  fn := fun _ => true
  calm := true
  pn := U.pn
  xe := fun _ _ => False
structure RunG (U : GD) (z : Shared) (M0 : Hp) (G0 : Gh) (ip : List (Addr × Obj)) (σ : L2.St) (S : VT.S) (G : Gh) (M : Hp) (s : Shared) : Prop where
  inv : Inv (gX U z M0) ip σ M s
  rel : Rel G0 M0 G M σ S
  tabs : G0.T = TabsOf U.K
  low : U.env.locals < z.heap.objs.size
  ipl : ∀ p ∈ ip, U.env.locals ≤ p.1
  dead : Dead z.heap s.heap
structure WkG (U : GD) (ip : List (Addr × Obj)) (σ : L2.St) (G : Gh) (z : Shared) (M0 : Hp) (G0 : Gh) : Prop where
  inv : Inv (gX U z M0) ip σ M0 z
  ok : OkG G0 M0
  tabs : G0.T = TabsOf U.K
  mono : Mono G G0
def AllTr (S : VT.S) : Prop := ∀ (i : Nat) (sv : SV), S[i]? = some (some sv) → ∃ d, sv = .tr d
def SegP (M : Model) (A : Around) (E : End → Shared → Prop) (c : Code) (t : Sem PySem.Fin) (fs : List Frame) (s : Shared) : Prop :=
  ∀ (Γ : PySem.Ctx) (p : Pos), Γ.code = c → Γ.Woken A → ∃ e s', Runs M Γ p t fs s e s' ∧ E e s'
def WakeP (U : GD) : List D → Shared → Hp → Gh → End → Shared → Prop
  | [], z, M0, G0 => fun e s' => match e with
    | .ret r => r = .ok (.ret .none) ∧ ∃ ip σ S G M, RunG U z M0 G0 ip σ S G M s'
    | .susp .. => False
  | d :: rem, z, M0, G0 => fun e s' => match e with
    | .ret _ => False
    | .susp v g l k c p fs => (End.susp v g l k c p fs).quiet = true ∧ ∃ ip σ S G M x, RunG U z M0 G0 ip σ S G M s' ∧ AllTr S ∧ RelV x v ∧ rep G.F d x ∧ ∀ z' M' G', WkG U ip σ G z' M' G' → SegP (model U.P U.w) U.A (WakeP U rem z' M' G') c (k (.send .none)) fs z'
abbrev SegU (U : GD) (rem : List D) (z : Shared) (M0 : Hp) (G0 : Gh) (c : Code) (t : Sem PySem.Fin) (fs : List Frame) (s : Shared) : Prop := SegP (model U.P U.w) U.A (WakeP U rem z M0 G0) c t fs s
end VT
namespace VT
open PySem PySem.Spec PyProof.Rows L2 GenW
structure VGE where
  nx : List D → S → Prop
  bk : List D → S → Prop := fun _ _ => False
  ct : List D → S → Prop := fun _ _ => False
abbrev GN := VGE → List D → S → Prop
def GSPv (U : GD) (z : Shared) (M0 : Hp) (G0 : Gh) (ip : List (Addr × Obj)) (G : Gh) (DV : VGE) (rem : List D) (f : Flow) (s : Shared) : Prop :=
  ∃ σ S G' M, RunG U z M0 G0 ip σ S G' M s ∧ Mono G G' ∧ match f with
    | .next => DV.nx rem S
    | .brk => DV.bk rem S
    | .cont => DV.ct rem S
    | .ret _ => False
abbrev KGv (U : GD) (ip : List (Addr × Obj)) (G : Gh) (DV : VGE) (c : Code) (fs : List Frame) (K : Flow → Sem PySem.Fin) : Prop :=
  ∀ (rem : List D) (z : Shared) (M0 : Hp) (G0 : Gh) (s : Shared) (f : Flow), GSPv U z M0 G0 ip G DV rem f s → SegU U rem z M0 G0 c (K f) fs s
section
variable {U : GD} {st : Stmt} {sts : List Stmt} {pos : Pos}
theorem GSPv.mono {z : Shared} {M0 : Hp} {G0 : Gh} {ip : List (Addr × Obj)} {G G1 : Gh} {DV : VGE} {rem : List D} {f : Flow} {s : Shared} (h : GSPv U z M0 G0 ip G1 DV rem f s) (m : Mono G G1) : GSPv U z M0 G0 ip G DV rem f s := by
  obtain ⟨σ, S, G', M, r, m1, q⟩ := h
  exact ⟨σ, S, G', M, r, fun b o e => m1 b o (m b o e), q⟩
theorem KGv.mono {ip : List (Addr × Obj)} {G G1 : Gh} {DV : VGE} {c : Code} {fs : List Frame} {K : Flow → Sem PySem.Fin} (k : KGv U ip G DV c fs K) (m : Mono G G1) : KGv U ip G1 DV c fs K :=
  fun rem z M0 G0 s f h => k rem z M0 G0 s f (h.mono m)
@[simp] def gnPlain (g : GS) : GN := fun DV rem S => g { nx := DV.nx rem, rt := fun _ => False, bk := DV.bk rem, ct := DV.ct rem } S
@[simp] def gnNil : GN := fun DV rem S => DV.nx rem S
@[simp] def gnIf (gt : GT) (a b : GN) : GN := fun DV rem S => gt S fun x => if x = true then a DV rem S else b DV rem S
@[simp] def gnYield (ge : GE) : GN := fun DV rem S => ge S fun sv => AllTr S ∧ ∃ d r, sv = .tr d ∧ rem = d :: r ∧ DV.nx r S
end
end VT
namespace VT
open PySem PySem.Spec PyProof.Rows L2 GenW
section
variable {X : Cx} {tg e : Expr} {g : GE} {ga : GA} {p pos : Pos}
@[simp] def giTup (g : GE) : GI := fun S Q => g S fun sv => ∃ ds, sv = .tr (.tup ds) ∧ Q ds
end
def ForN (gg : GG) (gb : GN) (DV : VGE) (rem : List D) (S : VT.S) (ds : List D) : Prop :=
  ∃ W : List D → List D → VT.S → Prop, W rem ds S ∧ (∀ rem S, W rem [] S → DV.nx rem S) ∧
    ∀ d r rem S, W rem (d :: r) S → gg d S fun S' => gb { nx := fun rem S => W rem r S, ct := fun rem S => W rem r S, bk := DV.nx } rem S'
@[simp] def gnFor (gi : GI) (gg : GG) (gb : GN) : GN := fun DV rem S => gi S fun ds => ForN gg gb DV rem S ds
end VT
namespace VT
open PySem PySem.Spec PyProof.Rows L2
@[simp] theorem allTr_nil : AllTr [] := fun i sv h => by simp at h
@[simp] theorem allTr_some (sv : SV) (S : VT.S) : AllTr (some sv :: S) ↔ (∃ d, sv = .tr d) ∧ AllTr S :=
  ⟨fun h => ⟨h 0 sv rfl, fun i sv e => h (i + 1) sv (by simpa using e)⟩, fun ⟨h, t⟩ i sv e => by
    cases i with
    | zero => cases e; exact h
    | succ i => exact t i sv (by simpa using e)⟩
@[simp] theorem allTr_none (S : VT.S) : AllTr (none :: S) ↔ AllTr S :=
  ⟨fun h i sv e => h (i + 1) sv (by simpa using e), fun t i sv e => by
    cases i with
    | zero => cases e
    | succ i => exact t i sv (by simpa using e)⟩
@[simp] theorem allTr_map (x : Option VT.D) (S : VT.S) : AllTr (x.map .tr :: S) ↔ AllTr S := by
  cases x with
  | none => exact allTr_none S
  | some d => exact (allTr_some _ S).trans ⟨fun h => h.2, fun h => ⟨⟨_, rfl⟩, h⟩⟩
end VT
namespace VT
open PySem PySem.Spec PyProof.Rows L2
section
variable {X : Cx} {EX : EXT} {e : Expr} {g : GE} {te : TE} {k : Nat} {p p1 p2 p3 pos : Pos}
@[simp] def gRevA (g : GE) : GE := fun S Q => g S fun sv => (∃ xs, sv.d = .lst xs ∧ Q (.own (.lst xs.reverse))) ∨ (∃ xs, sv.d = .tup xs ∧ Q (.tr (.tup xs.reverse)))
end
end VT
namespace VT
open PySem PySem.Spec PyProof.Rows L2
def SV.trb : SV → Prop
  | .tr _ => True
  | .brw _ => True
  | _ => False
@[simp] theorem trb_tr (d : D) : SV.trb (.tr d) = True := rfl
@[simp] theorem trb_brw (d : D) : SV.trb (.brw d) = True := rfl
theorem SV.trb.arg {sv : SV} (h : sv.trb) : sv.isArg := by
  cases sv <;> first | trivial | exact h.elim
def rngC (lo c : Int) (n : Nat) : List D := (List.range n).map fun (k : Nat) => .int (lo + (k : Int) * c)
@[simp] def giR3 (ga : GA) : GI := fun S Q => ga S fun svs => ∃ m n c N, svs.map SV.d = [.int m, .int n, .int c] ∧ RgC m n c N ∧ Q (rngC m c N)
end VT
namespace VT
open PySem PySem.Spec PyProof.Rows L2
section
variable {X : Cx} {EX : EXT} {pos : Pos}
@[simp] def gDit0 : GE := fun S Q => Q (.own (.dit []))
end
@[simp] def gPutT (i : Nat) (ge gk : GE) : GS := fun D S => ge S fun sv => ∃ y kvs, sv = .tr y ∧ S[i]? = some (some (.own (.dit kvs))) ∧ gk S fun sk => ∃ q, keyT sk.d = some q ∧ kvs.length < sizeLine ∧ D.nx (S.set i (some (.own (.dit (putT kvs q y)))))
@[simp] def gFputT (i : Nat) (Cs : List Addr) (fl : Str) (ge gk : GE) : GS := fun D S => ge S fun sv => ∃ y q C fs kvs, sv = .tr y ∧ S[i]? = some (some (.obj q C fs)) ∧ C ∈ Cs ∧ fs.lookup fl = some (.own (.dit kvs)) ∧ gk S fun sk => ∃ kk, keyT sk.d = some kk ∧ kvs.length < sizeLine ∧ D.nx (S.set i (some (.obj q C (fput fl (.own (.dit (putT kvs kk y))) fs))))
end VT
namespace VT
open PySem PySem.Spec PyProof.Rows L2
@[simp] def gDit1 (gk gv : GE) : GE := fun S Q => gk S fun sk => ∃ k, keyT sk.d = some k ∧ gv S fun sv => ∃ d, sv = .tr d ∧ Q (.own (.dit [(k, d)]))
end VT
namespace VT
open PySem PySem.Spec PyProof.Rows L2
def tupS (l : List Str) : D := .tup (l.map .str)
end VT
namespace VT
open PySem PySem.Spec PyProof.Rows L2
def SV.fldB : SV → FV → SV
  | .bob _ _, .own d => .brw d
  | _, x => x.sv
@[simp] theorem fldB_bob (C : Addr) (fs : List (Str × FV)) (d : D) : SV.fldB (.bob C fs) (.own d) = .brw d := rfl
@[simp] theorem fldB_t (sv : SV) (d : D) : SV.fldB sv (.tr d) = .tr d := by cases sv <;> rfl
@[simp] def gFldB (i : Nat) (Cs : List Addr) (f : Str) : GE := fun S Q => ∃ sv C fs x, S[i]? = some (some sv) ∧ sv.ins? = some (C, fs) ∧ C ∈ Cs ∧ fs.lookup f = some x ∧ Q (sv.fldB x)
end VT
namespace VT
open PySem PySem.Spec PyProof.Rows L2
section
variable {X : Cx} {EX : EXT} {pos : Pos}
@[simp] def fRemoveS (ds : List VT.D) (svs : List SV) (F : List VT.D → Prop) : Prop := ∃ (n : Str) (ss : List Str), svs = [.tr (.str n)] ∧ ds = ss.map .str ∧ n ∈ ss ∧ ss.Nodup ∧ F ((ss.filter fun x => decide (x ≠ n)).map .str)
end
end VT
namespace VT
open PySem PySem.Spec PyProof.Rows L2
def fPickT : FSp := fun svs Q => (∃ sv xs, svs = [.bag, sv] ∧ (IsA sv (.lst xs) ∨ IsA sv (.tup xs)) ∧ 0 < xs.length ∧ xs.length ≤ 1000000 ∧ ∀ d ∈ xs, Q (.tr d)) ∨ (∃ z, svs = [.bag, .tr (.str z)] ∧ 0 < z.length ∧ z.length ≤ 1000000 ∧ ∀ c ∈ z.cps.toList, Q (.tr (.str ⟨#[c]⟩)))
@[simp] theorem fPickT_lst (xs : List D) (Q : SV → Prop) : fPickT [.bag, .tr (.lst xs)] Q ↔ 0 < xs.length ∧ xs.length ≤ 1000000 ∧ ∀ d ∈ xs, Q (.tr d) := by
  refine ⟨fun h => ?_, fun h => .inl ⟨_, xs, rfl, .inl ((isA_tr _ _).mpr rfl), h⟩⟩
  rcases h with ⟨sv, ys, e, h, r⟩ | ⟨z, e, _⟩
  · cases e
    rcases h with h | h
    · rw [isA_tr] at h; cases h; exact r
    · rw [isA_tr] at h; cases h
  · cases e
@[simp] theorem fPickT_tup (xs : List D) (Q : SV → Prop) : fPickT [.bag, .tr (.tup xs)] Q ↔ 0 < xs.length ∧ xs.length ≤ 1000000 ∧ ∀ d ∈ xs, Q (.tr d) := by
  refine ⟨fun h => ?_, fun h => .inl ⟨_, xs, rfl, .inr ((isA_tr _ _).mpr rfl), h⟩⟩
  rcases h with ⟨sv, ys, e, h, r⟩ | ⟨z, e, _⟩
  · cases e
    rcases h with h | h
    · rw [isA_tr] at h; cases h
    · rw [isA_tr] at h; cases h; exact r
  · cases e
@[simp] theorem fPickT_brw (xs : List D) (Q : SV → Prop) : fPickT [.bag, .brw (.lst xs)] Q ↔ 0 < xs.length ∧ xs.length ≤ 1000000 ∧ ∀ d ∈ xs, Q (.tr d) := by
  refine ⟨fun h => ?_, fun h => .inl ⟨_, xs, rfl, .inl ((isA_brw _ _).mpr rfl), h⟩⟩
  rcases h with ⟨sv, ys, e, h, r⟩ | ⟨z, e, _⟩
  · cases e
    rcases h with h | h
    · rw [isA_brw] at h; cases h; exact r
    · rw [isA_brw] at h; cases h
  · cases e
@[simp] theorem fPickT_str (z : Str) (Q : SV → Prop) : fPickT [.bag, .tr (.str z)] Q ↔ 0 < z.length ∧ z.length ≤ 1000000 ∧ ∀ c ∈ z.cps.toList, Q (.tr (.str ⟨#[c]⟩)) := by
  refine ⟨fun h => ?_, fun h => .inr ⟨z, rfl, h⟩⟩
  rcases h with ⟨sv, ys, e, h, r⟩ | ⟨y, e, r⟩
  · cases e
    rcases h with h | h <;> (rw [isA_tr] at h; cases h)
  · cases e
    exact r
end VT
namespace VT
open PySem PySem.Spec PyProof.Rows L2 GenW
section
variable {X : Cx} {EX : EXT} {k : Nat} {e : Expr} {gi : GI} {nm : Str} {p pos : Pos}
@[simp] def gListG (gi : GI) : GE := fun S Q => gi S fun ds => ds.length ≤ sizeLine ∧ Q (.own (.lst ds))
end
end VT
namespace VT
open PySem PySem.Spec PyProof.Rows L2 GenW
@[simp] def gnYieldL (i : Nat) (ge : GE) : GN := fun DV rem S => ge S fun sv => AllTr (S.set i none) ∧ (∃ ds, S[i]? = some (some (.own (.lst ds)))) ∧ ∃ d r, sv = .tr d ∧ rem = d :: r ∧ DV.nx r S
section
variable {U : GD} {st : Stmt} {sts : List Stmt} {pos : Pos}
def WhileN (gt : GT) (gb : GN) (DV : VGE) (rem : List D) (S : VT.S) : Prop :=
  ∃ W : Nat → List D → VT.S → Prop, (∃ m, W m rem S) ∧ ∀ m rem S, W m rem S → gt S fun b => if b = true then gb { nx := fun rem S => ∃ m', m' < m ∧ W m' rem S, ct := fun rem S => ∃ m', m' < m ∧ W m' rem S, bk := DV.nx } rem S else DV.nx rem S
@[simp] def gnWhile (gt : GT) (gb : GN) : GN := fun DV rem S => WhileN gt gb DV rem S
end
section
variable {X : Cx} {EX : EXT} {pos : Pos}
@[simp] def gPopT (i : Nat) (gg : GG) : GS := fun DV S => ∃ ds d, S[i]? = some (some (.own (.lst (ds ++ [d])))) ∧ gg d (S.set i (some (.own (.lst ds)))) DV.nx
end
end VT
namespace VT
open PySem PySem.Spec PyProof.Rows HandSPX
section
variable {prog : Program} {w : World} {A : Around} {E : Value → Shared → Prop} {R : Result → Shared → Prop} {hp : Heap} {gs : Array GenState} {dr : Drawn} {tk : Nat} {os : OsState} {cn cq : Str} {C Nd fI : Addr} {ubs um umB : List Value} {bd : Bool} {us : List Str} {usub : List Value} {ua : Bool} {uc : Option Bool} {ud : Option Addr} {w0 w1 w2 w3 w5 : Option Value} {base nw ini : String} {kn : Str} {kv : Value}
abbrev kwHeap (hp : Heap) (C : Addr) : Heap := (hp.push (PySem.W.kdv_tup [])).push (excO C hp.objs.size)
theorem kw_new (F : ExcBaseFacts base nw ini umB) (hm : ∀ T : String, um.contains (.type T) = umB.contains (.type T)) (hC : hp.get? C = some (excClassObj cn cq C Nd ubs um bd us usub ua uc ud w0 w1 w2 w3 w5 nw)) (k : R (.ok (.ret (.ref (hp.objs.size + 1)))) ⟨kwHeap hp C, gs, dr, tk, os⟩) :
    codeAny (model prog w) A (.call (.builtin nw) ⟨[.ref C], [(kn, kv)]⟩) R ⟨hp, gs, dr, tk, os⟩ := by
  have up : ∀ {T : String} {b : Bool}, umB.contains (.type T) = b → (Value.ref C :: um).contains (.type T) = b := fun {T b} e => by
    rw [List.contains_cons, hm, e]
    cases b <;> rfl
  have hB := up F.hasB
  have nA := up F.noAttr
  have nN := up F.noName
  have e1 := F.ends
  have e2 := F.noStar
  refine codeAny_call_builtin_code (Code.quiet_builtin _ F.quiet) ?_
  simp only [checkBuiltinCall, F.newKind, F.newSplit, F.newRow]
  repeat (first | with_reducible refine wpAny_loadPart_at hC ?_ | (with_reducible refine wpAny_isSubtype_exc hC ?_; rw [hB]) | with_reducible refine wpAny_staticBase_exc hC ?_ | with_reducible refine wpAny_madeBy_exc hC ?_ | wp_step | simp only [bne_self_eq_false, Bool.false_eq_true, if_false])
  refine codeAny_builtinAt F.entry ?_
  unfold Builtin.«BaseException.__new__»
  refine PySem.wpAt_bind (show PySem.wpAt _ _ _ (stack >>= _) _ _ _ from PySem.wpAt_bind (PySem.wpAt_stack fun _ _ => PySem.wpAt_of_wpAny ?_))
  wp_walk
  refine PySem.wpAt_of_wpAny ?_
  rw [F.owner]
  repeat (first | with_reducible refine wpAny_madeHere_exc F.canon hC ?_ | (with_reducible refine wpAny_isSubtype_exc hC ?_; first | rw [nA] | rw [nN]) | with_reducible refine wpAny_loadPart_at hC ?_ | (with_reducible refine wpAny_isSubtype_exc hC ?_; rw [hB]) | with_reducible refine wpAny_staticBase_exc hC ?_ | with_reducible refine wpAny_madeBy_exc hC ?_ | wp_step)
  have e : R _ _ := k
  unfold kwHeap at e
  rw [← Heap.size_push (h := hp) (o := PySem.W.kdv_tup [])] at e
  exact e
theorem kw_call (F : ExcBaseFacts base nw ini umB) (hm : ∀ T : String, um.contains (.type T) = umB.contains (.type T)) (hC : hp.get? C = some (excClassObj cn cq C Nd ubs um bd us usub ua uc ud w0 w1 w2 w3 w5 nw))
    (hI : PySem.W.Looks (model prog w) hp (typeLookup (.ref C) "__init__") (some (.ref fI))) (hB : ∀ o, PySem.W.Looks (model prog w) hp (bindSpecial (.ref fI) o) (.ref fI, [o]))
    (k : codeAny (model prog w) (A.under (.builtin "type.__call__" ⟨[.ref C], [(kn, kv)]⟩)) (.call (.ref fI) ⟨[.ref (hp.objs.size + 1)], [(kn, kv)]⟩) (PySem.W.InitBack (hp.objs.size + 1) R) ⟨kwHeap hp C, gs, dr, tk, os⟩) :
    codeAny (model prog w) A (.call (.ref C) ⟨[], [(kn, kv)]⟩) R ⟨hp, gs, dr, tk, os⟩ := by
  have up : ∀ b o, hp.get? b = some o → (kwHeap hp C).get? b = some o := fun b o e => by
    unfold kwHeap
    exact Heap.get?_push_of_some _ (Heap.get?_push_of_some _ e)
  have hC2 := up _ _ hC
  have hx : (kwHeap hp C).get? (hp.objs.size + 1) = some (excO C hp.objs.size) := by
    unfold kwHeap
    heap_get
  have hs : (Value.ref C :: um).contains (.ref C) = true := by simp
  have tT : (⟨hp, gs, dr, tk, os⟩ : Shared).TypeIs (.ref C) "type" := ⟨_, hC, rfl⟩
  have l1 := tc_lookup
  have l2 := tc_bind (.ref C)
  have l3 := tc_sub
  refine codeAny_of_tree (show wpAny _ _ (callAny (.ref C) _) _ _ _ from ?_)
  repeat (any_goals (first | assumption | with_reducible refine wpAny_loadPart_at hC ?_ | wp_step))
  refine ⟨rfl, codeAny_call_builtin_at (Code.quiet_builtin _ (by decide +kernel)) entry_typeCall ?_⟩
  simp only [checkBuiltinCall, tc_kind, tc_split]
  repeat (any_goals (first | assumption | with_reducible refine wpAny_loadPart_at hC ?_ | with_reducible refine wpAny_onRaise ?_ | with_reducible refine wpAny_map ?_ | wp_step))
  repeat (first | with_reducible refine wpAny_loadPart_at hC ?_ | with_reducible refine wpAny_madeBy_exc hC ?_ | wp_step)
  refine kw_new F hm hC (show wpAny _ _ _ _ _ _ from ?_)
  unfold isInstance
  repeat (first | with_reducible refine wpAny_loadPart_at hx ?_ | (with_reducible refine wpAny_isSubtype_exc hC2 ?_; rw [hs]) | wp_step)
  refine (hI.keeps up).at ?_
  refine wpAny_holding (wpAny_bind (((hB _).keeps up).at (wpAny_bind (wpAny_call (codeAny_mono k fun r s' z => ?_)))))
  rcases r with e | (v | _ | _ | _) <;> first | exact z | exact z.elim | skip
  obtain ⟨rfl, z⟩ := z
  first
    | exact wpAny_pure (wpAny_pure z)
    | (wp_walk; exact z)
end
end VT
namespace VT
open PySem PySem.Spec PyProof.Rows L2
structure XMkK (P : Program) (w : World) (K : PySem.W.Frag) (mg : Str → Option Value) (base : Heap) (x : Str) (C : Addr) (kn : Str) (mkD : List D → List (Str × D)) : Prop where
  gl : mg x = some (.ref C)
  ex : ∃ D f fd ps mk, XKind K C D f ∧ FnOk P w K mg base CX0 1 f fd ps (spXin C 1 mk) ∧ (∀ (s : Shared) (u0 u : Value), BindsTo s fd ⟨[u0], [(kn, u)]⟩ (ps.zip [u0, u])) ∧ ∀ F ds vs, reps F ds vs → ds.length = 1 → repf F (mkD ds) (mk vs)
section
variable {P : Program} {w : World} {K : PySem.W.Frag} {mg : Str → Option Value} {base : Heap} {e : XE} {fl cn t : Str} {j j2 : Nat} {p0 p1 p2 p3 p4 p5 p6 p7 p8 p9 p10 p11 p12 p13 : Pos} {ar : Arg}
theorem xmk1K (h : XOk P K e) (hs : mg "super" = none) (hg : mg e.x = some (.ref (He.ga K e.x))) (hfl : e.fl = some fl) (hd : e.d.dfl = []) (hk : e.d.kwd = []) (hc : okS cn) (S : SupScope ["self", fl] ["self", fl] e.d.scope)
    (hb : e.d.body = [.Expr (.Call (.Attribute (.Call (.Name "super" p0) [] [] p1) "__init__" p2) [.Constant (.str t) j p3] [] p4) p5, .Assign [.Attribute (.Name "self" p6) "code" p7] (.Constant (.str cn) j2 p8) p9, .Assign [.Attribute (.Name "self" p10) fl p11] (.Name fl p12) p13])
    (ht : ∀ env : Env, ∃ pl : Sem Bool, eval (.Call (.Attribute (.Call (.Name "super" p0) [] [] p1) "__init__" p2) [.Constant (.str t) j p3] [] p4) env = (do
      let ov ← attributeBase (.Call (.Name "super" p0) [] [] p1) "__init__" env (eval (.Call (.Name "super" p0) [] [] p1) env)
      standAt p2.atName
      let (f, first) ← holding [ov] (getMethod ov "__init__" pl)
      callWith p4 f first (backTo p4 (starEach [.Constant (.str t) j p3] env)) []))
    (hh : (e.d.params.posonlyargs ++ e.d.params.args).head? = some ar) (ha : ar.arg = "self") (ks : e.d.scope.names.lookup ("super" : Str) = some .globalImplicit) (kc : e.d.scope.names.lookup ("__class__" : Str) = some .free) (hne : (fl == ("__debug__" : Str)) = false) (hne2 : (fl == ("__classdict__" : Str)) = false)
    (hbd : ∀ (cl : List (Str × Addr)) (kV doc pm cdv ct : Value) (an : Option Addr) (u0 u : Value), bindArgs (PySem.W.fnX e.d.name e.d.qual e.d.params e.d.body e.d.scope cl .none kV doc pm an cdv ct) ⟨[u0], [(fl, u)]⟩ = pure ((["self", fl] : List Str).zip [u0, u])) :
    XMkK P w K mg base e.x (He.ga K e.x) fl fun ds => [(fl, ds.getD 0 .non), ("code", .str cn)] := by
  have e1 : e.d.dvs K = [] := by unfold He.DefD.dvs; rw [hd]; rfl
  have e2 : e.d.kws K = [] := by unfold He.DefD.kws; rw [hk]; rfl
  have F := h.fg
  rw [e1, e2] at F
  obtain ⟨fd, F, hF⟩ := xin_ok1 (w := w) (mg := mg) (base := base) h.all.1 (h.all.2.2.2.2 fl hfl) ⟨h.all.2.2.1, hs⟩ F S hb ht hh ha ks kc hne hne2
  obtain ⟨osl, od, an, oc, dV, kV, doc, pm, cdv, ct, rfl, lk, hcd, hD, hK⟩ := F.ex
  refine ⟨hg, _, _, _, _, _, h.all.1, hF, fun s u0 u => ?_, fun F ds vs r hl => ?_⟩
  · rcases hD with ⟨_, rfl⟩ | ⟨e, _⟩
    · exact .of_eq (hbd _ kV doc pm cdv ct an u0 u)
    · exact absurd rfl e
  · match ds, hl with
    | [y], _ =>
      obtain ⟨v, t, rfl, rv, rt⟩ := r
      exact ⟨_, _, rfl, rv, _, _, rfl, ⟨rfl, hc⟩, rfl⟩
end
section
variable {X : Cx} {EX : EXT} {pins : List (Addr × Obj)} {σ : L2.St} {H : Hp} {s : Shared} {C D f : Addr} {fd : FuncData} {ps : List Str} {np : Nat} {mk : List V → List (Str × V)} {mkD : List VT.D → List (Str × VT.D)} {x : Str} {p pos pos2 : Pos} {e : Expr} {es : List Expr} {ta : TA} {ga : GA} {vs : List V} {us : List Value} {Q : XK}
theorem run_xmkK {kn : Str} {v : V} {u : Value} (XD : XKind X.K C D f) (Fn : FnOk X.prog X.w X.K X.mg X.base CX0 1 f fd ps (spXin C 1 mk)) (hb : ∀ (s : Shared) (u0 u : Value), BindsTo s fd ⟨[u0], [(kn, u)]⟩ (ps.zip [u0, u])) (hr : Room 2 X.A) (I : Inv X pins σ H s) (rv : RelV v u)
    (q : ∀ dx, H dx = none → Q (.ref C) (some dx) (upd H dx (.xd (mk [v])))) : wpAny (model X.prog X.w) X.A (call (.ref C) [] [(kn, u)]) (L2N.MkP X pins σ Q) X.xe s := by
  obtain ⟨B, newId, initId, bmB, xb, T, _⟩ := XD.xc
  obtain ⟨nm, N, qn, bs, bm, hdct, sn, sub, ab, col, dd, k0, k1, k2, k3, k5, hC, hT⟩ := PySem.W.excInit_of I.kIn T.ini
  have hi := XD.init
  have hty := XD.fn
  obtain ⟨hp, g, dr, tk, os⟩ := s
  have hsz : hp.objs.size ≤ hp.objs.size + 1 := Nat.le_succ _
  have hn : H (hp.objs.size + 1) = none := I.hok.fresh hsz
  have kk : ∀ b o, hp.get? b = some o → ((hp.push (PySem.W.kdv_tup [])).push (PySem.HandSPX.excO C hp.objs.size)).get? b = some o := fun b o e => Heap.get?_push_of_some _ (Heap.get?_push_of_some _ e)
  have hget : ((hp.push (PySem.W.kdv_tup [])).push (PySem.HandSPX.excO C hp.objs.size)).get? (hp.objs.size + 1) = some (PySem.HandSPX.excO C hp.objs.size) := Heap.get?_push_at (Heap.size_push _ _).symm rfl
  have I2 : Inv X pins σ (upd H (hp.objs.size + 1) (exo (hp.objs.size + 1) C none)) ⟨(hp.push (PySem.W.kdv_tup [])).push (PySem.HandSPX.excO C hp.objs.size), g, dr, tk, os⟩ := I.laid (t' := tk) kk hsz (exo_ok hget)
  refine wpAny_call (kw_call xb.fb hT hC (PySem.W.looks_findIn I.kIn hi) (fun self => PySem.W.bind_fn I.kIn self hty)
    (codeAny_mono (Fn.run _ X.stack _ _ ⟨[Value.ref (hp.objs.size + 1)], [(kn, u)]⟩ [Value.ref (hp.objs.size + 1), u] [V.ref (hp.objs.size + 1), v]
      (fun v2 H2 => v2 = .non ∧ ∃ dx, H dx = none ∧ dx ≠ hp.objs.size + 1 ∧ H2 (hp.objs.size + 1) = some (exo (hp.objs.size + 1) C (some dx)) ∧ H2 dx = some (exd dx (mk [v])) ∧ ∀ b, b ≠ hp.objs.size + 1 → b ≠ dx → H2 b = H b) (fun _ _ _ => False)
      (hr.make C [] [(kn, u)]) (I2.env0.make C [] [(kn, u)]) (hb _ _ _) (.cons rfl (.cons rv .nil)) ⟨_, [v], rfl, rfl, upd_same, fun dx H' h1 h2 h3 h4 h5 => ⟨rfl, dx, ?_, h2, h3, h4, fun b b1 b2 => (h5 b b1 b2).trans (upd_ne b1)⟩⟩) fun r s' hq => ?_))
  · rw [upd_ne h2] at h1
    exact h1
  cases r with
  | error er => exact (show False from hq).elim
  | ok fl =>
    cases fl with
    | ret u2 =>
      obtain ⟨v2, H2, os2, bare2, un2, hok2, rv2, ev, dx, hdx, hne, ea, ed, off⟩ := hq
      subst ev
      obtain ⟨h2, g2, d2, t2, os'⟩ := s'
      have eH : upd (L2.del H2 (hp.objs.size + 1)) dx (.xd (mk [v])) = upd H dx (.xd (mk [v])) := by
        funext b
        by_cases h1 : b = dx
        · rw [h1, upd_same, upd_same]
        rw [upd_ne h1, upd_ne h1]
        by_cases h3 : b = hp.objs.size + 1
        · rw [h3, L2.del_same, hn]
        · rw [L2.del_ne h3, off b h3 h1]
      obtain ⟨t0, G, J, kG, ge, hoe, na⟩ := mk_end0 (d2 := d2) (t2 := t2) I hsz kk un2 hok2 os2 bare2 ea ed hdx
      exact ⟨rv2, hp.objs.size + 1, _, _, ⟨G, g2, d2, t2, os'⟩, _, .ref C, some dx, rfl, J, kG, ge, hoe, ⟨rfl, rfl, fun vs hv => by cases hv; rfl⟩, rfl, rfl, na, rfl, bare2, raises_own T.sub T.ty, by rw [eH]; exact q dx hdx⟩
    | next => exact False.elim hq
    | brk => exact False.elim hq
    | cont => exact False.elim hq
theorem mk_val {QV : VK} {u : Value} {s' : Shared} (h : L2N.MkP X pins σ (fun cls d H' => ∃ C dx, cls = .ref C ∧ d = some dx ∧ ∀ a oe, H' a = none → QV (.ref a) (upd H' a (.frz oe (exnO a C dx)))) u s') :
    ∃ v H1, Inv X pins σ H1 s' ∧ RelV v u ∧ QV v H1 := by
  obtain ⟨a, oe, vs, sI, H', cls, d, rfl, J, k, hne, ha, hz, hd, h1, na, os, ag, r, C, dx, rfl, rfl, q⟩ := h
  have new : ObjOk X.prog X.w (upd H' a (.frz oe (exnO a C dx))) s'.heap a (.frz oe (exnO a C dx)) :=
    ⟨ha, ⟨oe, vs, ha, hz.1, hz.2.1, hd⟩, ⟨oe, ha⟩, fun h1 h2 ⟨o, w, q1, q2⟩ kk => ⟨o, w, kk o q1, q2⟩⟩
  exact ⟨.ref a, _, J.call' (ch := []) os (Un.laidN k hne na) (J.hok.laidN k na new) ag (fun _ z => nomatch z), rfl, q a oe na⟩
theorem exn_val {G G1 : Gh} {H0 H1 : Hp} {Qs : SV → Prop} {Q : VK} {dx a : Addr} {oe : Obj} {fs : List (Str × VT.D)} {ws : List (Str × V)} (E : Ext G H G1 H1) (hdx : H1 dx = none) (na : upd H1 dx (.xd ws) a = none) (r : repf G1.F fs ws) (k : KQ H0 G H Qs Q) (q : Qs (.tr (.exn C fs))) :
    Q (.ref a) (upd (upd H1 dx (.xd ws)) a (.frz oe (exnO a C dx))) := by
  have E1 := ext_frz E.ok hdx (.xd ws)
  have E2 := ext_frz E1.ok na (.frz oe (exnO a C dx)) (fun o' vs z => by cases z)
  have hda : dx ≠ a := fun z => by
    rw [z, upd_same] at na
    cases na
  refine kq_tr (d := .exn C fs) (kq_back ((E.trans E1).trans E2) k) E2.ok ⟨a, dx, ws, oe, rfl, upd_same, ?_, repf.mono (fun b o e => E2.frz b o (E1.frz b o e)) _ _ r⟩ q
  exact E2.frz dx _ upd_same
@[simp] def gXmk (C : Addr) (np : Nat) (mkD : List VT.D → List (Str × VT.D)) (ga : GA) : GE := fun S Q => ga S fun svs => onTrs svs fun ds => ds.length = np ∧ np ≤ 1000 ∧ Q (.tr (.exn C (mkD ds)))
theorem ve_xmk (M : XMk X.prog X.w X.K X.mg X.base x C np mkD) (hr : Room 2 X.A) (hg : Gl X x) (ha : VA X EX (e :: es) ga) (hdb : (x == ("__debug__" : Str)) = false := by decide) (he : starEach (e :: es) X.env = (false, eval e X.env) :: starEach es X.env := by rfl)
    (hpl : (backTo pos (starEach es X.env)).any (·.1) = false := by rfl) : VE X EX (.Call (.Name x p) (e :: es) [] pos) (gXmk C np mkD ga) := by
  obtain ⟨D, f, fd, ps, mk, XD, Fn, hb, hrel⟩ := M.ex
  obtain ⟨_, _, _, _, _, T, _⟩ := XD.xc
  refine ⟨fun G0 H0 tk => ⟨fun pins s σ H Q I h => ?_⟩⟩
  obtain ⟨G, S, Qs, R, q, kq⟩ := h
  refine wpAny_Call_Name_kw (ld_glob I hg M.gl ?_ hdb)
  refine PySem.W.callWith_K (h₀ := X.base) I.ok.mod.kin T.keep (thn ((ha.pa G0 H0 tk).run pos pins s σ H (fun vs H1 => ∃ G1 svs, Ext G H G1 H1 ∧ RepL H0 H G1 H1 vs svs ∧ onTrs svs fun ds => ds.length = np ∧ np ≤ 1000 ∧ Qs (.tr (.exn C (mkD ds)))) I ⟨G, S, _, R, q, fun vs H1 G1 svs E1 r1 q1 => ⟨G1, svs, E1, r1, q1⟩⟩) fun us s1 ⟨vs, H1, I1, rv, G1, svs, E1, r1, q1⟩ => ⟨I1.kIn, ?_⟩) he hpl
  obtain ⟨ds, rd, hl, hz, q2⟩ := onTrs_of r1 q1
  exact thn (run_xmk XD Fn hb hr I1 rv (rd.length.trans hl) hz (Q := fun cls d H' => ∃ C dx, cls = .ref C ∧ d = some dx ∧ ∀ a oe, H' a = none → Q (.ref a) (upd H' a (.frz oe (exnO a C dx)))) fun dx hdx => ⟨C, dx, rfl, rfl, fun a oe na => exn_val E1 hdx na (hrel _ _ _ rd hl) kq q2⟩) fun u s2 hu => mk_val hu
theorem ve_xmk0 (M : XMk X.prog X.w X.K X.mg X.base x C 0 mkD) (hr : Room 2 X.A) (hg : Gl X x) (hdb : (x == ("__debug__" : Str)) = false := by decide) : VE X EX (.Call (.Name x p) [] [] pos) (gXmk C 0 mkD gaNil) := by
  obtain ⟨D, f, fd, ps, mk, XD, Fn, hb, hrel⟩ := M.ex
  obtain ⟨_, _, _, _, _, T, _⟩ := XD.xc
  refine ⟨fun G0 H0 tk => ⟨fun pins s σ H Q I h => ?_⟩⟩
  obtain ⟨G, S, Qs, R, q, kq⟩ := h
  obtain ⟨_, _, q2⟩ := q
  refine wpAny_Call_Name_kw (ld_glob I hg M.gl ?_ hdb)
  refine PySem.W.callWith_K0 I.kIn T.keep (thn (run_xmk (us := []) (vs := []) XD Fn hb hr I .nil rfl (by decide) (Q := fun cls d H' => ∃ C dx, cls = .ref C ∧ d = some dx ∧ ∀ a oe, H' a = none → Q (.ref a) (upd H' a (.frz oe (exnO a C dx)))) fun dx hdx => ⟨C, dx, rfl, rfl, fun a oe na => exn_val (.refl R.ok) hdx na (hrel _ [] [] rfl rfl) kq q2⟩) fun u s2 hu => mk_val hu)
@[simp] def gXmkK (C : Addr) (mkD : List VT.D → List (Str × VT.D)) (gk : GA) : GE := fun S Q => gk S fun svs => onTrs svs fun ds => ds.length = 1 ∧ Q (.tr (.exn C (mkD ds)))
theorem ve_xmkK {kn : Str} {kws : List Keyword} {gk : GA} (M : XMkK X.prog X.w X.K X.mg X.base x C kn mkD) (hr : Room 2 X.A) (hg : Gl X x) (hkw : VKw X EX kws gk) (hall : (backToKw pos (keywordEach kws X.env)).all (·.1.isSome) = true := by rfl) (hks : (backToKw pos (keywordEach kws X.env)).filterMap (·.1) = [kn] := by rfl)
    (hdb : (x == ("__debug__" : Str)) = false := by decide)
    (hpl : ((backTo pos (starEach [] X.env)).any (·.1) || (backToKw pos (keywordEach kws X.env)).any (·.1.isNone)) = false := by rfl) : VE X EX (.Call (.Name x p) [] kws pos) (gXmkK C mkD gk) := by
  obtain ⟨D, f, fd, ps, mk, XD, Fn, hb, hrel⟩ := M.ex
  obtain ⟨_, _, _, _, _, T, _⟩ := XD.xc
  refine ⟨fun G0 H0 tk => ⟨fun pins s σ H Q I h => ?_⟩⟩
  obtain ⟨G, S, Qs, R, q, kq⟩ := h
  refine wpAny_Call_Name_kw (ld_glob I hg M.gl ?_ hdb)
  refine PySem.W.callWith_KW0 (h₀ := X.base) I.ok.mod.kin T.keep hall ?_ hpl
  refine thn ((hkw.pk G0 H0 tk).run pos pins s σ H (fun vs H1 => ∃ G1 svs, Ext G H G1 H1 ∧ RepL H0 H G1 H1 vs svs ∧ onTrs svs fun ds => ds.length = 1 ∧ Qs (.tr (.exn C (mkD ds)))) I ⟨G, S, _, R, q, fun vs H1 G1 svs E1 r1 q1 => ⟨G1, svs, E1, r1, q1⟩⟩) fun us s1 ⟨vs, H1, I1, rv, G1, svs, E1, r1, q1⟩ => ⟨I1.kIn, ?_⟩
  rw [hks]
  obtain ⟨ds, rd, hl, q2⟩ := onTrs_of r1 q1
  match ds, hl with
  | [d], hl =>
    obtain ⟨v, t, e0, rd0, rt⟩ := id rd
    have et : t = [] := rt
    subst e0 et
    cases rv with
    | cons rx rr =>
      cases rr
      exact thn (run_xmkK XD Fn hb hr I1 rx (Q := fun cls d H' => ∃ C dx, cls = .ref C ∧ d = some dx ∧ ∀ a oe, H' a = none → Q (.ref a) (upd H' a (.frz oe (exnO a C dx)))) fun dx hdx => ⟨C, dx, rfl, rfl, fun a oe na => exn_val E1 hdx na (hrel _ _ _ rd hl) kq q2⟩) fun u s2 hu => mk_val hu
end
section
variable {X : Cx} {EX : EXT} {pins : List (Addr × Obj)} {σ : L2.St} {H H0 Hs : Hp} {G : Gh} {s : Shared} {C dx a : Addr} {f x : Str} {p p2 pos : Pos} {e : Expr} {ge : GE} {v : V} {sv : SV} {fs : List (Str × VT.D)}
def SV.exn? : SV → Option (Addr × List (Str × VT.D))
  | .tr (.exn C fs) => some (C, fs)
  | _ => none
theorem RepV.exnAt (r : RepV H0 Hs G H v sv) (h : sv.exn? = some (C, fs)) : rep G.F (.exn C fs) v := by
  unfold SV.exn? at h
  split at h
  · cases h
    exact r
  · cases h
theorem exn_inst (I : Inv X pins σ H s) (ok : OkG G H) {o : Obj} {ws : List (Str × V)} (e1 : G.F a = some (.frz o (exnO a C dx))) (e2 : G.F dx = some (.xd ws)) : ∃ oe od, PySem.W.InstAt s.heap a oe C (some od) ∧ ∀ g v, ws.lookup g = some v → ∃ u, PySem.W.lookIn g od = some (some u) ∧ RelV v u := by
  obtain ⟨ea, ⟨oe, vs, h1, h2, h3, h4⟩, _⟩ := (show ObjOk X.prog X.w H s.heap a (.frz o (exnO a C dx)) from I.hok a _ (ok.sub _ _ e1))
  obtain ⟨mA, hns, hr⟩ := (show ObjOk X.prog X.w H s.heap dx (.xd ws) from I.hok dx _ (ok.sub _ _ e2))
  obtain ⟨od, ho, hlo⟩ := lookIn_ns hns
  refine ⟨oe, od, ⟨h1, h2, by unfold PySem.W.notCls; rw [h4] <;> rfl, by rw [h3]; exact ho⟩, fun g v hv => ?_⟩
  obtain ⟨u, hu, ru⟩ := RelO.some_of (v := v) (o := mA g) (by rw [← hv]; exact hr g)
  exact ⟨u, by rw [hlo, hu], ru⟩
def xatD (Cs : List Addr) (f : Str) (sv : SV) (Q : SV → Prop) : Prop := ∃ C fs d, sv.exn? = some (C, fs) ∧ C ∈ Cs ∧ fs.lookup f = some d ∧ Q (.tr d)
def gXat (Cs : List Addr) (f : Str) (g : GE) : GE := fun S Q => g S fun sv => xatD Cs f sv Q
@[simp] theorem gXat_eq (Cs : List Addr) (f : Str) (g : GE) (S : S) (Q : SV → Prop) : gXat Cs f g S Q = g S fun sv => xatD Cs f sv Q := rfl
@[simp] theorem xatD_exn (Cs : List Addr) (f : Str) (C : Addr) (fs : List (Str × VT.D)) (Q : SV → Prop) : xatD Cs f (.tr (.exn C fs)) Q = (C ∈ Cs ∧ ∃ d, fs.lookup f = some d ∧ Q (.tr d)) := propext ⟨fun ⟨_, _, d, e, h⟩ => by cases e; exact ⟨h.1, d, h.2⟩, fun ⟨h, d, h2⟩ => ⟨_, _, d, rfl, h, h2⟩⟩
theorem ve_xat (Cs : List Addr) (hc : ∀ C ∈ Cs, XfC X.K C ∧ PySem.W.findIn X.K (.ref C) f = some none) (he : VE X EX e ge) (hb : attributeBase e f X.env (eval e X.env) = eval e X.env := by rfl) : VE X EX (.Attribute e f pos) (gXat Cs f ge) := by
  refine ⟨fun G0 H0 tk => ⟨fun pins s σ H Q I h => ?_⟩⟩
  obtain ⟨G, S, Qs, R, q, kq⟩ := h
  refine attr_of hb (thn ((he.pe G0 H0 tk).run pins s σ H (fun v H1 => ∃ G1 sv, Ext G H G1 H1 ∧ RepV H0 H G1 H1 v sv ∧ ∃ C fs d, sv.exn? = some (C, fs) ∧ C ∈ Cs ∧ fs.lookup f = some d ∧ Qs (.tr d)) I
    ⟨G, S, _, R, q, fun v H1 G1 sv E1 r1 q1 => ⟨G1, sv, E1, r1, q1⟩⟩) fun u s1 ⟨v, H1, I1, rv, G1, sv, E1, r1, C, fs, d, hx, hC, hl, q1⟩ => ?_)
  obtain ⟨a, dx, ws, o, rfl, e1, e2, rf⟩ := r1.exnAt hx
  obtain rfl : u = Value.ref a := rv
  obtain ⟨T, hno⟩ := hc C hC
  obtain ⟨oe, od, J, hg⟩ := exn_inst I1 E1.ok e1 e2
  obtain ⟨v, hv, r⟩ := repf_get rf hl
  obtain ⟨u, hu, ru⟩ := hg f v hv
  exact HandSPX.exc_get I1.kIn J T.ga T.gg T.exC (PySem.W.findObj_own T.hdC hno rfl hu) (handed_of ru) ⟨v, H1, I1.tok _, ru, kq v H1 G1 (.tr d) E1 r q1⟩
structure XIs (K : PySem.W.Frag) (D : Addr) : Prop where
  x : XfC K D
  i : IsK K D
theorem xisB_ok {x : Str} {K : PySem.W.Frag} (h : xisB x K = true) : XIs K (He.ga K x) := by
  obtain ⟨h1, h2⟩ := Bool.and_eq_true_iff.mp h
  exact ⟨xfB_ok h1, iskB_ok h2⟩
def isxD (alts : List (Addr × Bool)) (sv : SV) (Q : SV → Prop) : Prop := ∃ D fs b, sv.exn? = some (D, fs) ∧ (D, b) ∈ alts ∧ Q (.tr (.bl b))
def gIsX (alts : List (Addr × Bool)) (g : GE) : GE := fun S Q => g S fun sv => isxD alts sv Q
@[simp] theorem gIsX_eq (alts : List (Addr × Bool)) (g : GE) (S : S) (Q : SV → Prop) : gIsX alts g S Q = g S fun sv => isxD alts sv Q := rfl
theorem isxD_at {alts : List (Addr × Bool)} {C : Addr} {fs : List (Str × VT.D)} {Q : SV → Prop} {b : Bool} (i : Nat) (h : alts[i]? = some (C, b)) (q : Q (.tr (.bl b))) : isxD alts (.tr (.exn C fs)) Q := ⟨_, _, b, rfl, List.mem_of_getElem? h, q⟩
def rIsO (K : PySem.W.Frag) (cV : V) (cv : Value) (alts : List (Addr × Bool)) : List V → Hp → VK → Prop := fun xs H Q => ∃ (a dx D : Addr) (o : Obj) (ws : List (Str × V)) (b : Bool), xs = [.ref a, cV] ∧ (∀ u, RelV cV u → u = cv) ∧ H a = some (.frz o (exnO a D dx)) ∧ H dx = some (.xd ws) ∧ (D, b) ∈ alts ∧ Q (.bl b) H
theorem call_isO {cV : V} {cv : Value} {alts : List (Addr × Bool)} (hal : ∀ D b, (D, b) ∈ alts → XIs X.K D ∧ PySem.W.kitOne X.K (.ref D) cv = some b) : CallR X (.builtin "isinstance") (rIsO X.K cV cv alts) := by
  intro pins s σ H xs us Q I r h
  obtain ⟨a, dx, D, o, ws, b, rfl, hcv, e1, e2, hm, q⟩ := h
  obtain ⟨u1, u2, rfl, r1, r2⟩ := vals2 r
  cases (show u1 = Value.ref a from r1)
  have ec := hcv _ r2
  subst ec
  obtain ⟨⟨C, i⟩, hk⟩ := hal D b hm
  obtain ⟨ea, ⟨oe, vs, h1, h2, h3, h4⟩, _⟩ := (show ObjOk X.prog X.w H s.heap a (.frz o (exnO a D dx)) from I.hok a _ e1)
  obtain ⟨mA, hns, hr⟩ := (show ObjOk X.prog X.w H s.heap dx (.xd ws) from I.hok dx _ e2)
  obtain ⟨od, ho, hlo⟩ := lookIn_ns hns
  have J : PySem.W.InstAt s.heap a oe D (some od) := ⟨h1, h2, by unfold PySem.W.notCls; rw [h4] <;> rfl, by rw [h3]; exact ho⟩
  exact PySem.W.kia_one (PySem.W.kitx_exc (by obtain ⟨cd, hc, _⟩ := PySem.W.any_some C.hdC; rw [hc]; rfl) C.ga C.gg C.exC i.ha i.hn i.htk i.hm) I.kIn J hk (fun z => nomatch z) fun tk => ⟨.bl b, H, I.tok tk, rfl, q⟩
theorem ve_isX (alts : List (Addr × Bool)) (he : VE X EX e ge) (gI : Gl X "isinstance") (mI : X.mg "isinstance" = none) (gC : Gl X x) (mC : X.mg x = some (.ref C)) (hal : ∀ D b, (D, b) ∈ alts → XIs X.K D ∧ PySem.W.kitOne X.K (.ref D) (.ref C) = some b) (hd : (x == ("__debug__" : Str)) = false := by decide)
    (h1 : starEach [e, .Name x p2] X.env = (false, eval e X.env) :: starEach [.Name x p2] X.env := by rfl) (h2 : starEach [.Name x p2] X.env = (false, eval (.Name x p2) X.env) :: starEach [] X.env := by rfl)
    (hpl : (backTo pos (starEach [.Name x p2] X.env)).any (·.1) = false := by rfl) : VE X EX (.Call (.Name "isinstance" p) [e, .Name x p2] [] pos) (gIsX alts ge) := by
  refine ⟨fun G0 H0 tk => peMono (pe_callB (call_isO (cV := .ref C) (cv := .ref C) hal) gI mI (by decide +kernel) (pa_cons (he.pe G0 H0 tk) (pa_cons (pe_glob (v := .ref C) gC mC rfl hd) pa_nil h2) h1) (by decide) (by decide) h1 hpl) fun σ H Q ⟨G, S, Qs, R, q, k⟩ => ?_⟩
  refine ⟨G, S, _, R, q, fun v H1 G1 sv E1 r1 ⟨D, fs, b, hx, hm, q1⟩ => ?_⟩
  obtain ⟨a, dx, ws, o, rfl, e1, e2, rf⟩ := r1.exnAt hx
  exact ⟨a, dx, D, o, ws, b, rfl, fun u r => r, E1.ok.sub _ _ e1, E1.ok.sub _ _ e2, hm, kq_tr (d := .bl _) (kq_back E1 k) E1.ok rfl q1⟩
theorem ve_isXb {T : String} (alts : List (Addr × Bool)) (he : VE X EX e ge) (gI : Gl X "isinstance") (mI : X.mg "isinstance" = none) (gC : Gl X x) (mC : X.mg x = none) (hT : bootBuiltins x = some (.type T)) (hal : ∀ D b, (D, b) ∈ alts → XIs X.K D ∧ PySem.W.kitOne X.K (.ref D) (.type T) = some b) (hn : x ≠ "__name__" := by decide) (hd : (x == ("__debug__" : Str)) = false := by decide)
    (h1 : starEach [e, .Name x p2] X.env = (false, eval e X.env) :: starEach [.Name x p2] X.env := by rfl) (h2 : starEach [.Name x p2] X.env = (false, eval (.Name x p2) X.env) :: starEach [] X.env := by rfl)
    (hpl : (backTo pos (starEach [.Name x p2] X.env)).any (·.1) = false := by rfl) : VE X EX (.Call (.Name "isinstance" p) [e, .Name x p2] [] pos) (gIsX alts ge) := by
  refine ⟨fun G0 H0 tk => peMono (pe_callB (call_isO (cV := .ty T) (cv := .type T) hal) gI mI (by decide +kernel) (pa_cons (he.pe G0 H0 tk) (pa_cons (pe_bltn (v := .ty T) gC mC hT rfl hn hd) pa_nil h2) h1) (by decide) (by decide) h1 hpl) fun σ H Q ⟨G, S, Qs, R, q, k⟩ => ?_⟩
  refine ⟨G, S, _, R, q, fun v H1 G1 sv E1 r1 ⟨D, fs, b, hx, hm, q1⟩ => ?_⟩
  obtain ⟨a, dx, ws, o, rfl, e1, e2, rf⟩ := r1.exnAt hx
  exact ⟨a, dx, D, o, ws, b, rfl, fun u r => r, E1.ok.sub _ _ e1, E1.ok.sub _ _ e2, hm, kq_tr (d := .bl _) (kq_back E1 k) E1.ok rfl q1⟩
end
theorem inbB_ok {x : Str} {T : String} {b : Bool} {K : PySem.W.Frag} (h : inbB x T b K = true) : PySem.W.kitOne K (.ref (He.ga K x)) (.type T) = some b := of_decide_eq_true h
theorem isx_nil {K : PySem.W.Frag} {u : Value} : ∀ D b, (D, b) ∈ ([] : List (Addr × Bool)) → XIs K D ∧ PySem.W.kitOne K (.ref D) u = some b := fun _ _ h => (nomatch h)
theorem isx_cons {K : PySem.W.Frag} {u : Value} {D : Addr} {b : Bool} {l : List (Addr × Bool)} (h1 : XIs K D) (h2 : PySem.W.kitOne K (.ref D) u = some b) (t : ∀ D b, (D, b) ∈ l → XIs K D ∧ PySem.W.kitOne K (.ref D) u = some b) : ∀ D' b', (D', b') ∈ (D, b) :: l → XIs K D' ∧ PySem.W.kitOne K (.ref D') u = some b' := fun D' b' hm => by
  rcases List.mem_cons.mp hm with e | hm
  · cases e
    exact ⟨h1, h2⟩
  · exact t _ _ hm
end VT
namespace K60
open PySem PySem.Spec PyProof.Rows L2 VT
structure Facts (mg : Str → Option Value) : Prop where
  IndexError : mg "IndexError" = none
  KeyError : mg "KeyError" = none
  LookupError : mg "LookupError" = none
  ValueError : mg "ValueError" = none
  abs : mg "abs" = none
  all : mg "all" = none
  bool : mg "bool" = none
  int : mg "int" = none
  isinstance : mg "isinstance" = none
  len : mg "len" = none
  list : mg "list" = none
  range : mg "range" = none
  str : mg "str" = none
  super : mg "super" = none
  tuple : mg "tuple" = none
  zip : mg "zip" = none
structure XF (P : Program) (w : World) (K : PySem.W.Frag) (mg : Str → Option Value) (base : Heap) : Prop where
  g_HeardError : mg "HeardError" = some (.ref (He.ga K "HeardError"))
  g_Missing : mg "Missing" = some (.ref (He.ga K "Missing"))
  g_NothingLeft : mg "NothingLeft" = some (.ref (He.ga K "NothingLeft"))
  g_InvalidName : mg "InvalidName" = some (.ref (He.ga K "InvalidName"))
  g_InvalidHabit : mg "InvalidHabit" = some (.ref (He.ga K "InvalidHabit"))
  g_InvalidSender : mg "InvalidSender" = some (.ref (He.ga K "InvalidSender"))
  g_DuplicateName : mg "DuplicateName" = some (.ref (He.ga K "DuplicateName"))
  g_TooMany : mg "TooMany" = some (.ref (He.ga K "TooMany"))
  g_InvalidEntry : mg "InvalidEntry" = some (.ref (He.ga K "InvalidEntry"))
  g_InvalidOrder : mg "InvalidOrder" = some (.ref (He.ga K "InvalidOrder"))
  g_InvalidPlan : mg "InvalidPlan" = some (.ref (He.ga K "InvalidPlan"))
  g_InvalidNumber : mg "InvalidNumber" = some (.ref (He.ga K "InvalidNumber"))
  g_InvalidLimit : mg "InvalidLimit" = some (.ref (He.ga K "InvalidLimit"))
  g_InvalidText : mg "InvalidText" = some (.ref (He.ga K "InvalidText"))
  g_InvalidPage : mg "InvalidPage" = some (.ref (He.ga K "InvalidPage"))
  g_OtherNames : mg "OtherNames" = some (.ref (He.ga K "OtherNames"))
  g_NoOrder : mg "NoOrder" = some (.ref (He.ga K "NoOrder"))
  g_Full : mg "Full" = some (.ref (He.ga K "Full"))
  g_UnknownName : mg "UnknownName" = some (.ref (He.ga K "UnknownName"))
  g_UnknownMessage : mg "UnknownMessage" = some (.ref (He.ga K "UnknownMessage"))
  g_UnknownLog : mg "UnknownLog" = some (.ref (He.ga K "UnknownLog"))
  c_NothingLeft : XfC K (He.ga K "NothingLeft") ∧ PySem.W.findIn K (.ref (He.ga K "NothingLeft")) "code" = some none
  m_NothingLeft : XMk P w K mg base "NothingLeft" (He.ga K "NothingLeft") 0 fun _ => [("code", .str "NothingLeft")]
  i_NothingLeft : XIs K (He.ga K "NothingLeft")
  in_NothingLeft_HeardError : PySem.W.kitOne K (.ref (He.ga K "NothingLeft")) (.ref (He.ga K "HeardError")) = some false
  in_NothingLeft_IndexError : PySem.W.kitOne K (.ref (He.ga K "NothingLeft")) (.type "IndexError") = some true
  in_NothingLeft_KeyError : PySem.W.kitOne K (.ref (He.ga K "NothingLeft")) (.type "KeyError") = some false
  in_NothingLeft_LookupError : PySem.W.kitOne K (.ref (He.ga K "NothingLeft")) (.type "LookupError") = some true
  in_NothingLeft_Missing : PySem.W.kitOne K (.ref (He.ga K "NothingLeft")) (.ref (He.ga K "Missing")) = some false
  in_NothingLeft_ValueError : PySem.W.kitOne K (.ref (He.ga K "NothingLeft")) (.type "ValueError") = some false
  t_NothingLeft : PySem.W.exmAny K (.ref (He.ga K "NothingLeft")) [.ref (He.ga K "HeardError"), .ref (He.ga K "Missing"), .ref (He.ga K "NothingLeft")] = some true
  c_InvalidName : XfC K (He.ga K "InvalidName") ∧ PySem.W.findIn K (.ref (He.ga K "InvalidName")) "code" = some none
  f_InvalidName : XfC K (He.ga K "InvalidName") ∧ PySem.W.findIn K (.ref (He.ga K "InvalidName")) "given" = some none
  m_InvalidName : XMk P w K mg base "InvalidName" (He.ga K "InvalidName") 1 fun ds => [("given", ds.getD 0 .non), ("code", .str "InvalidName")]
  i_InvalidName : XIs K (He.ga K "InvalidName")
  k_InvalidName : XMkK P w K mg base "InvalidName" (He.ga K "InvalidName") "given" fun ds => [("given", ds.getD 0 .non), ("code", .str "InvalidName")]
  in_InvalidName_HeardError : PySem.W.kitOne K (.ref (He.ga K "InvalidName")) (.ref (He.ga K "HeardError")) = some true
  in_InvalidName_IndexError : PySem.W.kitOne K (.ref (He.ga K "InvalidName")) (.type "IndexError") = some false
  in_InvalidName_InvalidHabit : PySem.W.kitOne K (.ref (He.ga K "InvalidName")) (.ref (He.ga K "InvalidHabit")) = some false
  in_InvalidName_KeyError : PySem.W.kitOne K (.ref (He.ga K "InvalidName")) (.type "KeyError") = some false
  in_InvalidName_LookupError : PySem.W.kitOne K (.ref (He.ga K "InvalidName")) (.type "LookupError") = some false
  in_InvalidName_Missing : PySem.W.kitOne K (.ref (He.ga K "InvalidName")) (.ref (He.ga K "Missing")) = some false
  in_InvalidName_ValueError : PySem.W.kitOne K (.ref (He.ga K "InvalidName")) (.type "ValueError") = some true
  t_InvalidName : PySem.W.exmAny K (.ref (He.ga K "InvalidName")) [.ref (He.ga K "HeardError"), .ref (He.ga K "Missing"), .ref (He.ga K "NothingLeft")] = some true
  c_InvalidHabit : XfC K (He.ga K "InvalidHabit") ∧ PySem.W.findIn K (.ref (He.ga K "InvalidHabit")) "code" = some none
  f_InvalidHabit : XfC K (He.ga K "InvalidHabit") ∧ PySem.W.findIn K (.ref (He.ga K "InvalidHabit")) "word" = some none
  m_InvalidHabit : XMk P w K mg base "InvalidHabit" (He.ga K "InvalidHabit") 1 fun ds => [("word", ds.getD 0 .non), ("code", .str "InvalidHabit")]
  i_InvalidHabit : XIs K (He.ga K "InvalidHabit")
  k_InvalidHabit : XMkK P w K mg base "InvalidHabit" (He.ga K "InvalidHabit") "word" fun ds => [("word", ds.getD 0 .non), ("code", .str "InvalidHabit")]
  in_InvalidHabit_HeardError : PySem.W.kitOne K (.ref (He.ga K "InvalidHabit")) (.ref (He.ga K "HeardError")) = some true
  in_InvalidHabit_IndexError : PySem.W.kitOne K (.ref (He.ga K "InvalidHabit")) (.type "IndexError") = some false
  in_InvalidHabit_KeyError : PySem.W.kitOne K (.ref (He.ga K "InvalidHabit")) (.type "KeyError") = some false
  in_InvalidHabit_LookupError : PySem.W.kitOne K (.ref (He.ga K "InvalidHabit")) (.type "LookupError") = some false
  in_InvalidHabit_Missing : PySem.W.kitOne K (.ref (He.ga K "InvalidHabit")) (.ref (He.ga K "Missing")) = some false
  in_InvalidHabit_ValueError : PySem.W.kitOne K (.ref (He.ga K "InvalidHabit")) (.type "ValueError") = some true
  t_InvalidHabit : PySem.W.exmAny K (.ref (He.ga K "InvalidHabit")) [.ref (He.ga K "HeardError"), .ref (He.ga K "Missing"), .ref (He.ga K "NothingLeft")] = some true
  c_InvalidSender : XfC K (He.ga K "InvalidSender") ∧ PySem.W.findIn K (.ref (He.ga K "InvalidSender")) "code" = some none
  f_InvalidSender : XfC K (He.ga K "InvalidSender") ∧ PySem.W.findIn K (.ref (He.ga K "InvalidSender")) "at" = some none
  m_InvalidSender : XMk P w K mg base "InvalidSender" (He.ga K "InvalidSender") 1 fun ds => [("at", ds.getD 0 .non), ("code", .str "InvalidSender")]
  i_InvalidSender : XIs K (He.ga K "InvalidSender")
  k_InvalidSender : XMkK P w K mg base "InvalidSender" (He.ga K "InvalidSender") "at" fun ds => [("at", ds.getD 0 .non), ("code", .str "InvalidSender")]
  in_InvalidSender_HeardError : PySem.W.kitOne K (.ref (He.ga K "InvalidSender")) (.ref (He.ga K "HeardError")) = some true
  in_InvalidSender_IndexError : PySem.W.kitOne K (.ref (He.ga K "InvalidSender")) (.type "IndexError") = some false
  in_InvalidSender_KeyError : PySem.W.kitOne K (.ref (He.ga K "InvalidSender")) (.type "KeyError") = some false
  in_InvalidSender_LookupError : PySem.W.kitOne K (.ref (He.ga K "InvalidSender")) (.type "LookupError") = some false
  in_InvalidSender_Missing : PySem.W.kitOne K (.ref (He.ga K "InvalidSender")) (.ref (He.ga K "Missing")) = some false
  in_InvalidSender_ValueError : PySem.W.kitOne K (.ref (He.ga K "InvalidSender")) (.type "ValueError") = some true
  t_InvalidSender : PySem.W.exmAny K (.ref (He.ga K "InvalidSender")) [.ref (He.ga K "HeardError"), .ref (He.ga K "Missing"), .ref (He.ga K "NothingLeft")] = some true
  c_DuplicateName : XfC K (He.ga K "DuplicateName") ∧ PySem.W.findIn K (.ref (He.ga K "DuplicateName")) "code" = some none
  f_DuplicateName : XfC K (He.ga K "DuplicateName") ∧ PySem.W.findIn K (.ref (He.ga K "DuplicateName")) "name" = some none
  m_DuplicateName : XMk P w K mg base "DuplicateName" (He.ga K "DuplicateName") 1 fun ds => [("name", ds.getD 0 .non), ("code", .str "DuplicateName")]
  i_DuplicateName : XIs K (He.ga K "DuplicateName")
  k_DuplicateName : XMkK P w K mg base "DuplicateName" (He.ga K "DuplicateName") "name" fun ds => [("name", ds.getD 0 .non), ("code", .str "DuplicateName")]
  in_DuplicateName_HeardError : PySem.W.kitOne K (.ref (He.ga K "DuplicateName")) (.ref (He.ga K "HeardError")) = some true
  in_DuplicateName_IndexError : PySem.W.kitOne K (.ref (He.ga K "DuplicateName")) (.type "IndexError") = some false
  in_DuplicateName_KeyError : PySem.W.kitOne K (.ref (He.ga K "DuplicateName")) (.type "KeyError") = some false
  in_DuplicateName_LookupError : PySem.W.kitOne K (.ref (He.ga K "DuplicateName")) (.type "LookupError") = some false
  in_DuplicateName_Missing : PySem.W.kitOne K (.ref (He.ga K "DuplicateName")) (.ref (He.ga K "Missing")) = some false
  in_DuplicateName_UnknownName : PySem.W.kitOne K (.ref (He.ga K "DuplicateName")) (.ref (He.ga K "UnknownName")) = some false
  in_DuplicateName_ValueError : PySem.W.kitOne K (.ref (He.ga K "DuplicateName")) (.type "ValueError") = some true
  t_DuplicateName : PySem.W.exmAny K (.ref (He.ga K "DuplicateName")) [.ref (He.ga K "HeardError"), .ref (He.ga K "Missing"), .ref (He.ga K "NothingLeft")] = some true
  c_TooMany : XfC K (He.ga K "TooMany") ∧ PySem.W.findIn K (.ref (He.ga K "TooMany")) "code" = some none
  f_TooMany : XfC K (He.ga K "TooMany") ∧ PySem.W.findIn K (.ref (He.ga K "TooMany")) "most" = some none
  m_TooMany : XMk P w K mg base "TooMany" (He.ga K "TooMany") 1 fun ds => [("most", ds.getD 0 .non), ("code", .str "TooMany")]
  i_TooMany : XIs K (He.ga K "TooMany")
  k_TooMany : XMkK P w K mg base "TooMany" (He.ga K "TooMany") "most" fun ds => [("most", ds.getD 0 .non), ("code", .str "TooMany")]
  in_TooMany_Full : PySem.W.kitOne K (.ref (He.ga K "TooMany")) (.ref (He.ga K "Full")) = some false
  in_TooMany_HeardError : PySem.W.kitOne K (.ref (He.ga K "TooMany")) (.ref (He.ga K "HeardError")) = some true
  in_TooMany_IndexError : PySem.W.kitOne K (.ref (He.ga K "TooMany")) (.type "IndexError") = some false
  in_TooMany_KeyError : PySem.W.kitOne K (.ref (He.ga K "TooMany")) (.type "KeyError") = some false
  in_TooMany_LookupError : PySem.W.kitOne K (.ref (He.ga K "TooMany")) (.type "LookupError") = some false
  in_TooMany_Missing : PySem.W.kitOne K (.ref (He.ga K "TooMany")) (.ref (He.ga K "Missing")) = some false
  in_TooMany_ValueError : PySem.W.kitOne K (.ref (He.ga K "TooMany")) (.type "ValueError") = some true
  t_TooMany : PySem.W.exmAny K (.ref (He.ga K "TooMany")) [.ref (He.ga K "HeardError"), .ref (He.ga K "Missing"), .ref (He.ga K "NothingLeft")] = some true
  c_InvalidEntry : XfC K (He.ga K "InvalidEntry") ∧ PySem.W.findIn K (.ref (He.ga K "InvalidEntry")) "code" = some none
  f_InvalidEntry : XfC K (He.ga K "InvalidEntry") ∧ PySem.W.findIn K (.ref (He.ga K "InvalidEntry")) "at" = some none
  m_InvalidEntry : XMk P w K mg base "InvalidEntry" (He.ga K "InvalidEntry") 1 fun ds => [("at", ds.getD 0 .non), ("code", .str "InvalidEntry")]
  i_InvalidEntry : XIs K (He.ga K "InvalidEntry")
  k_InvalidEntry : XMkK P w K mg base "InvalidEntry" (He.ga K "InvalidEntry") "at" fun ds => [("at", ds.getD 0 .non), ("code", .str "InvalidEntry")]
  in_InvalidEntry_HeardError : PySem.W.kitOne K (.ref (He.ga K "InvalidEntry")) (.ref (He.ga K "HeardError")) = some true
  in_InvalidEntry_IndexError : PySem.W.kitOne K (.ref (He.ga K "InvalidEntry")) (.type "IndexError") = some false
  in_InvalidEntry_KeyError : PySem.W.kitOne K (.ref (He.ga K "InvalidEntry")) (.type "KeyError") = some false
  in_InvalidEntry_LookupError : PySem.W.kitOne K (.ref (He.ga K "InvalidEntry")) (.type "LookupError") = some false
  in_InvalidEntry_Missing : PySem.W.kitOne K (.ref (He.ga K "InvalidEntry")) (.ref (He.ga K "Missing")) = some false
  in_InvalidEntry_ValueError : PySem.W.kitOne K (.ref (He.ga K "InvalidEntry")) (.type "ValueError") = some true
  t_InvalidEntry : PySem.W.exmAny K (.ref (He.ga K "InvalidEntry")) [.ref (He.ga K "HeardError"), .ref (He.ga K "Missing"), .ref (He.ga K "NothingLeft")] = some true
  c_InvalidOrder : XfC K (He.ga K "InvalidOrder") ∧ PySem.W.findIn K (.ref (He.ga K "InvalidOrder")) "code" = some none
  f_InvalidOrder : XfC K (He.ga K "InvalidOrder") ∧ PySem.W.findIn K (.ref (He.ga K "InvalidOrder")) "given" = some none
  m_InvalidOrder : XMk P w K mg base "InvalidOrder" (He.ga K "InvalidOrder") 1 fun ds => [("given", ds.getD 0 .non), ("code", .str "InvalidOrder")]
  i_InvalidOrder : XIs K (He.ga K "InvalidOrder")
  k_InvalidOrder : XMkK P w K mg base "InvalidOrder" (He.ga K "InvalidOrder") "given" fun ds => [("given", ds.getD 0 .non), ("code", .str "InvalidOrder")]
  in_InvalidOrder_HeardError : PySem.W.kitOne K (.ref (He.ga K "InvalidOrder")) (.ref (He.ga K "HeardError")) = some true
  in_InvalidOrder_IndexError : PySem.W.kitOne K (.ref (He.ga K "InvalidOrder")) (.type "IndexError") = some false
  in_InvalidOrder_KeyError : PySem.W.kitOne K (.ref (He.ga K "InvalidOrder")) (.type "KeyError") = some false
  in_InvalidOrder_LookupError : PySem.W.kitOne K (.ref (He.ga K "InvalidOrder")) (.type "LookupError") = some false
  in_InvalidOrder_Missing : PySem.W.kitOne K (.ref (He.ga K "InvalidOrder")) (.ref (He.ga K "Missing")) = some false
  in_InvalidOrder_ValueError : PySem.W.kitOne K (.ref (He.ga K "InvalidOrder")) (.type "ValueError") = some true
  t_InvalidOrder : PySem.W.exmAny K (.ref (He.ga K "InvalidOrder")) [.ref (He.ga K "HeardError"), .ref (He.ga K "Missing"), .ref (He.ga K "NothingLeft")] = some true
  c_InvalidPlan : XfC K (He.ga K "InvalidPlan") ∧ PySem.W.findIn K (.ref (He.ga K "InvalidPlan")) "code" = some none
  f_InvalidPlan : XfC K (He.ga K "InvalidPlan") ∧ PySem.W.findIn K (.ref (He.ga K "InvalidPlan")) "name" = some none
  m_InvalidPlan : XMk P w K mg base "InvalidPlan" (He.ga K "InvalidPlan") 1 fun ds => [("name", ds.getD 0 .non), ("code", .str "InvalidPlan")]
  i_InvalidPlan : XIs K (He.ga K "InvalidPlan")
  k_InvalidPlan : XMkK P w K mg base "InvalidPlan" (He.ga K "InvalidPlan") "name" fun ds => [("name", ds.getD 0 .non), ("code", .str "InvalidPlan")]
  in_InvalidPlan_HeardError : PySem.W.kitOne K (.ref (He.ga K "InvalidPlan")) (.ref (He.ga K "HeardError")) = some true
  in_InvalidPlan_IndexError : PySem.W.kitOne K (.ref (He.ga K "InvalidPlan")) (.type "IndexError") = some false
  in_InvalidPlan_KeyError : PySem.W.kitOne K (.ref (He.ga K "InvalidPlan")) (.type "KeyError") = some false
  in_InvalidPlan_LookupError : PySem.W.kitOne K (.ref (He.ga K "InvalidPlan")) (.type "LookupError") = some false
  in_InvalidPlan_Missing : PySem.W.kitOne K (.ref (He.ga K "InvalidPlan")) (.ref (He.ga K "Missing")) = some false
  in_InvalidPlan_ValueError : PySem.W.kitOne K (.ref (He.ga K "InvalidPlan")) (.type "ValueError") = some true
  t_InvalidPlan : PySem.W.exmAny K (.ref (He.ga K "InvalidPlan")) [.ref (He.ga K "HeardError"), .ref (He.ga K "Missing"), .ref (He.ga K "NothingLeft")] = some true
  c_InvalidNumber : XfC K (He.ga K "InvalidNumber") ∧ PySem.W.findIn K (.ref (He.ga K "InvalidNumber")) "code" = some none
  f_InvalidNumber : XfC K (He.ga K "InvalidNumber") ∧ PySem.W.findIn K (.ref (He.ga K "InvalidNumber")) "given" = some none
  m_InvalidNumber : XMk P w K mg base "InvalidNumber" (He.ga K "InvalidNumber") 1 fun ds => [("given", ds.getD 0 .non), ("code", .str "InvalidNumber")]
  i_InvalidNumber : XIs K (He.ga K "InvalidNumber")
  k_InvalidNumber : XMkK P w K mg base "InvalidNumber" (He.ga K "InvalidNumber") "given" fun ds => [("given", ds.getD 0 .non), ("code", .str "InvalidNumber")]
  in_InvalidNumber_HeardError : PySem.W.kitOne K (.ref (He.ga K "InvalidNumber")) (.ref (He.ga K "HeardError")) = some true
  in_InvalidNumber_IndexError : PySem.W.kitOne K (.ref (He.ga K "InvalidNumber")) (.type "IndexError") = some false
  in_InvalidNumber_InvalidLimit : PySem.W.kitOne K (.ref (He.ga K "InvalidNumber")) (.ref (He.ga K "InvalidLimit")) = some false
  in_InvalidNumber_KeyError : PySem.W.kitOne K (.ref (He.ga K "InvalidNumber")) (.type "KeyError") = some false
  in_InvalidNumber_LookupError : PySem.W.kitOne K (.ref (He.ga K "InvalidNumber")) (.type "LookupError") = some false
  in_InvalidNumber_Missing : PySem.W.kitOne K (.ref (He.ga K "InvalidNumber")) (.ref (He.ga K "Missing")) = some false
  in_InvalidNumber_ValueError : PySem.W.kitOne K (.ref (He.ga K "InvalidNumber")) (.type "ValueError") = some true
  t_InvalidNumber : PySem.W.exmAny K (.ref (He.ga K "InvalidNumber")) [.ref (He.ga K "HeardError"), .ref (He.ga K "Missing"), .ref (He.ga K "NothingLeft")] = some true
  c_InvalidLimit : XfC K (He.ga K "InvalidLimit") ∧ PySem.W.findIn K (.ref (He.ga K "InvalidLimit")) "code" = some none
  f_InvalidLimit : XfC K (He.ga K "InvalidLimit") ∧ PySem.W.findIn K (.ref (He.ga K "InvalidLimit")) "given" = some none
  m_InvalidLimit : XMk P w K mg base "InvalidLimit" (He.ga K "InvalidLimit") 1 fun ds => [("given", ds.getD 0 .non), ("code", .str "InvalidLimit")]
  i_InvalidLimit : XIs K (He.ga K "InvalidLimit")
  k_InvalidLimit : XMkK P w K mg base "InvalidLimit" (He.ga K "InvalidLimit") "given" fun ds => [("given", ds.getD 0 .non), ("code", .str "InvalidLimit")]
  in_InvalidLimit_HeardError : PySem.W.kitOne K (.ref (He.ga K "InvalidLimit")) (.ref (He.ga K "HeardError")) = some true
  in_InvalidLimit_IndexError : PySem.W.kitOne K (.ref (He.ga K "InvalidLimit")) (.type "IndexError") = some false
  in_InvalidLimit_KeyError : PySem.W.kitOne K (.ref (He.ga K "InvalidLimit")) (.type "KeyError") = some false
  in_InvalidLimit_LookupError : PySem.W.kitOne K (.ref (He.ga K "InvalidLimit")) (.type "LookupError") = some false
  in_InvalidLimit_Missing : PySem.W.kitOne K (.ref (He.ga K "InvalidLimit")) (.ref (He.ga K "Missing")) = some false
  in_InvalidLimit_ValueError : PySem.W.kitOne K (.ref (He.ga K "InvalidLimit")) (.type "ValueError") = some true
  t_InvalidLimit : PySem.W.exmAny K (.ref (He.ga K "InvalidLimit")) [.ref (He.ga K "HeardError"), .ref (He.ga K "Missing"), .ref (He.ga K "NothingLeft")] = some true
  c_InvalidText : XfC K (He.ga K "InvalidText") ∧ PySem.W.findIn K (.ref (He.ga K "InvalidText")) "code" = some none
  m_InvalidText : XMk P w K mg base "InvalidText" (He.ga K "InvalidText") 0 fun _ => [("code", .str "InvalidText")]
  i_InvalidText : XIs K (He.ga K "InvalidText")
  in_InvalidText_HeardError : PySem.W.kitOne K (.ref (He.ga K "InvalidText")) (.ref (He.ga K "HeardError")) = some true
  in_InvalidText_IndexError : PySem.W.kitOne K (.ref (He.ga K "InvalidText")) (.type "IndexError") = some false
  in_InvalidText_KeyError : PySem.W.kitOne K (.ref (He.ga K "InvalidText")) (.type "KeyError") = some false
  in_InvalidText_LookupError : PySem.W.kitOne K (.ref (He.ga K "InvalidText")) (.type "LookupError") = some false
  in_InvalidText_Missing : PySem.W.kitOne K (.ref (He.ga K "InvalidText")) (.ref (He.ga K "Missing")) = some false
  in_InvalidText_ValueError : PySem.W.kitOne K (.ref (He.ga K "InvalidText")) (.type "ValueError") = some true
  t_InvalidText : PySem.W.exmAny K (.ref (He.ga K "InvalidText")) [.ref (He.ga K "HeardError"), .ref (He.ga K "Missing"), .ref (He.ga K "NothingLeft")] = some true
  c_InvalidPage : XfC K (He.ga K "InvalidPage") ∧ PySem.W.findIn K (.ref (He.ga K "InvalidPage")) "code" = some none
  f_InvalidPage : XfC K (He.ga K "InvalidPage") ∧ PySem.W.findIn K (.ref (He.ga K "InvalidPage")) "line" = some none
  m_InvalidPage : XMk P w K mg base "InvalidPage" (He.ga K "InvalidPage") 1 fun ds => [("line", ds.getD 0 .non), ("code", .str "InvalidPage")]
  i_InvalidPage : XIs K (He.ga K "InvalidPage")
  k_InvalidPage : XMkK P w K mg base "InvalidPage" (He.ga K "InvalidPage") "line" fun ds => [("line", ds.getD 0 .non), ("code", .str "InvalidPage")]
  in_InvalidPage_HeardError : PySem.W.kitOne K (.ref (He.ga K "InvalidPage")) (.ref (He.ga K "HeardError")) = some true
  in_InvalidPage_IndexError : PySem.W.kitOne K (.ref (He.ga K "InvalidPage")) (.type "IndexError") = some false
  in_InvalidPage_KeyError : PySem.W.kitOne K (.ref (He.ga K "InvalidPage")) (.type "KeyError") = some false
  in_InvalidPage_LookupError : PySem.W.kitOne K (.ref (He.ga K "InvalidPage")) (.type "LookupError") = some false
  in_InvalidPage_Missing : PySem.W.kitOne K (.ref (He.ga K "InvalidPage")) (.ref (He.ga K "Missing")) = some false
  in_InvalidPage_ValueError : PySem.W.kitOne K (.ref (He.ga K "InvalidPage")) (.type "ValueError") = some true
  t_InvalidPage : PySem.W.exmAny K (.ref (He.ga K "InvalidPage")) [.ref (He.ga K "HeardError"), .ref (He.ga K "Missing"), .ref (He.ga K "NothingLeft")] = some true
  c_OtherNames : XfC K (He.ga K "OtherNames") ∧ PySem.W.findIn K (.ref (He.ga K "OtherNames")) "code" = some none
  m_OtherNames : XMk P w K mg base "OtherNames" (He.ga K "OtherNames") 0 fun _ => [("code", .str "OtherNames")]
  i_OtherNames : XIs K (He.ga K "OtherNames")
  in_OtherNames_HeardError : PySem.W.kitOne K (.ref (He.ga K "OtherNames")) (.ref (He.ga K "HeardError")) = some true
  in_OtherNames_IndexError : PySem.W.kitOne K (.ref (He.ga K "OtherNames")) (.type "IndexError") = some false
  in_OtherNames_KeyError : PySem.W.kitOne K (.ref (He.ga K "OtherNames")) (.type "KeyError") = some false
  in_OtherNames_LookupError : PySem.W.kitOne K (.ref (He.ga K "OtherNames")) (.type "LookupError") = some false
  in_OtherNames_Missing : PySem.W.kitOne K (.ref (He.ga K "OtherNames")) (.ref (He.ga K "Missing")) = some false
  in_OtherNames_ValueError : PySem.W.kitOne K (.ref (He.ga K "OtherNames")) (.type "ValueError") = some true
  t_OtherNames : PySem.W.exmAny K (.ref (He.ga K "OtherNames")) [.ref (He.ga K "HeardError"), .ref (He.ga K "Missing"), .ref (He.ga K "NothingLeft")] = some true
  c_NoOrder : XfC K (He.ga K "NoOrder") ∧ PySem.W.findIn K (.ref (He.ga K "NoOrder")) "code" = some none
  m_NoOrder : XMk P w K mg base "NoOrder" (He.ga K "NoOrder") 0 fun _ => [("code", .str "NoOrder")]
  i_NoOrder : XIs K (He.ga K "NoOrder")
  in_NoOrder_HeardError : PySem.W.kitOne K (.ref (He.ga K "NoOrder")) (.ref (He.ga K "HeardError")) = some true
  in_NoOrder_IndexError : PySem.W.kitOne K (.ref (He.ga K "NoOrder")) (.type "IndexError") = some false
  in_NoOrder_KeyError : PySem.W.kitOne K (.ref (He.ga K "NoOrder")) (.type "KeyError") = some false
  in_NoOrder_LookupError : PySem.W.kitOne K (.ref (He.ga K "NoOrder")) (.type "LookupError") = some false
  in_NoOrder_Missing : PySem.W.kitOne K (.ref (He.ga K "NoOrder")) (.ref (He.ga K "Missing")) = some false
  in_NoOrder_ValueError : PySem.W.kitOne K (.ref (He.ga K "NoOrder")) (.type "ValueError") = some true
  t_NoOrder : PySem.W.exmAny K (.ref (He.ga K "NoOrder")) [.ref (He.ga K "HeardError"), .ref (He.ga K "Missing"), .ref (He.ga K "NothingLeft")] = some true
  c_Full : XfC K (He.ga K "Full") ∧ PySem.W.findIn K (.ref (He.ga K "Full")) "code" = some none
  f_Full : XfC K (He.ga K "Full") ∧ PySem.W.findIn K (.ref (He.ga K "Full")) "most" = some none
  m_Full : XMk P w K mg base "Full" (He.ga K "Full") 1 fun ds => [("most", ds.getD 0 .non), ("code", .str "Full")]
  i_Full : XIs K (He.ga K "Full")
  k_Full : XMkK P w K mg base "Full" (He.ga K "Full") "most" fun ds => [("most", ds.getD 0 .non), ("code", .str "Full")]
  in_Full_HeardError : PySem.W.kitOne K (.ref (He.ga K "Full")) (.ref (He.ga K "HeardError")) = some true
  in_Full_IndexError : PySem.W.kitOne K (.ref (He.ga K "Full")) (.type "IndexError") = some false
  in_Full_KeyError : PySem.W.kitOne K (.ref (He.ga K "Full")) (.type "KeyError") = some false
  in_Full_LookupError : PySem.W.kitOne K (.ref (He.ga K "Full")) (.type "LookupError") = some false
  in_Full_Missing : PySem.W.kitOne K (.ref (He.ga K "Full")) (.ref (He.ga K "Missing")) = some false
  in_Full_TooMany : PySem.W.kitOne K (.ref (He.ga K "Full")) (.ref (He.ga K "TooMany")) = some false
  in_Full_ValueError : PySem.W.kitOne K (.ref (He.ga K "Full")) (.type "ValueError") = some true
  t_Full : PySem.W.exmAny K (.ref (He.ga K "Full")) [.ref (He.ga K "HeardError"), .ref (He.ga K "Missing"), .ref (He.ga K "NothingLeft")] = some true
  c_UnknownName : XfC K (He.ga K "UnknownName") ∧ PySem.W.findIn K (.ref (He.ga K "UnknownName")) "code" = some none
  f_UnknownName : XfC K (He.ga K "UnknownName") ∧ PySem.W.findIn K (.ref (He.ga K "UnknownName")) "name" = some none
  m_UnknownName : XMk P w K mg base "UnknownName" (He.ga K "UnknownName") 1 fun ds => [("name", ds.getD 0 .non), ("code", .str "UnknownName")]
  i_UnknownName : XIs K (He.ga K "UnknownName")
  k_UnknownName : XMkK P w K mg base "UnknownName" (He.ga K "UnknownName") "name" fun ds => [("name", ds.getD 0 .non), ("code", .str "UnknownName")]
  in_UnknownName_HeardError : PySem.W.kitOne K (.ref (He.ga K "UnknownName")) (.ref (He.ga K "HeardError")) = some false
  in_UnknownName_IndexError : PySem.W.kitOne K (.ref (He.ga K "UnknownName")) (.type "IndexError") = some false
  in_UnknownName_KeyError : PySem.W.kitOne K (.ref (He.ga K "UnknownName")) (.type "KeyError") = some false
  in_UnknownName_LookupError : PySem.W.kitOne K (.ref (He.ga K "UnknownName")) (.type "LookupError") = some true
  in_UnknownName_Missing : PySem.W.kitOne K (.ref (He.ga K "UnknownName")) (.ref (He.ga K "Missing")) = some true
  in_UnknownName_UnknownLog : PySem.W.kitOne K (.ref (He.ga K "UnknownName")) (.ref (He.ga K "UnknownLog")) = some false
  in_UnknownName_ValueError : PySem.W.kitOne K (.ref (He.ga K "UnknownName")) (.type "ValueError") = some false
  t_UnknownName : PySem.W.exmAny K (.ref (He.ga K "UnknownName")) [.ref (He.ga K "HeardError"), .ref (He.ga K "Missing"), .ref (He.ga K "NothingLeft")] = some true
  c_UnknownMessage : XfC K (He.ga K "UnknownMessage") ∧ PySem.W.findIn K (.ref (He.ga K "UnknownMessage")) "code" = some none
  f_UnknownMessage : XfC K (He.ga K "UnknownMessage") ∧ PySem.W.findIn K (.ref (He.ga K "UnknownMessage")) "number" = some none
  m_UnknownMessage : XMk P w K mg base "UnknownMessage" (He.ga K "UnknownMessage") 1 fun ds => [("number", ds.getD 0 .non), ("code", .str "UnknownMessage")]
  i_UnknownMessage : XIs K (He.ga K "UnknownMessage")
  k_UnknownMessage : XMkK P w K mg base "UnknownMessage" (He.ga K "UnknownMessage") "number" fun ds => [("number", ds.getD 0 .non), ("code", .str "UnknownMessage")]
  in_UnknownMessage_HeardError : PySem.W.kitOne K (.ref (He.ga K "UnknownMessage")) (.ref (He.ga K "HeardError")) = some false
  in_UnknownMessage_IndexError : PySem.W.kitOne K (.ref (He.ga K "UnknownMessage")) (.type "IndexError") = some false
  in_UnknownMessage_KeyError : PySem.W.kitOne K (.ref (He.ga K "UnknownMessage")) (.type "KeyError") = some false
  in_UnknownMessage_LookupError : PySem.W.kitOne K (.ref (He.ga K "UnknownMessage")) (.type "LookupError") = some true
  in_UnknownMessage_Missing : PySem.W.kitOne K (.ref (He.ga K "UnknownMessage")) (.ref (He.ga K "Missing")) = some true
  in_UnknownMessage_UnknownName : PySem.W.kitOne K (.ref (He.ga K "UnknownMessage")) (.ref (He.ga K "UnknownName")) = some false
  in_UnknownMessage_ValueError : PySem.W.kitOne K (.ref (He.ga K "UnknownMessage")) (.type "ValueError") = some false
  t_UnknownMessage : PySem.W.exmAny K (.ref (He.ga K "UnknownMessage")) [.ref (He.ga K "HeardError"), .ref (He.ga K "Missing"), .ref (He.ga K "NothingLeft")] = some true
  c_UnknownLog : XfC K (He.ga K "UnknownLog") ∧ PySem.W.findIn K (.ref (He.ga K "UnknownLog")) "code" = some none
  f_UnknownLog : XfC K (He.ga K "UnknownLog") ∧ PySem.W.findIn K (.ref (He.ga K "UnknownLog")) "number" = some none
  m_UnknownLog : XMk P w K mg base "UnknownLog" (He.ga K "UnknownLog") 1 fun ds => [("number", ds.getD 0 .non), ("code", .str "UnknownLog")]
  i_UnknownLog : XIs K (He.ga K "UnknownLog")
  k_UnknownLog : XMkK P w K mg base "UnknownLog" (He.ga K "UnknownLog") "number" fun ds => [("number", ds.getD 0 .non), ("code", .str "UnknownLog")]
  in_UnknownLog_HeardError : PySem.W.kitOne K (.ref (He.ga K "UnknownLog")) (.ref (He.ga K "HeardError")) = some false
  in_UnknownLog_IndexError : PySem.W.kitOne K (.ref (He.ga K "UnknownLog")) (.type "IndexError") = some false
  in_UnknownLog_KeyError : PySem.W.kitOne K (.ref (He.ga K "UnknownLog")) (.type "KeyError") = some false
  in_UnknownLog_LookupError : PySem.W.kitOne K (.ref (He.ga K "UnknownLog")) (.type "LookupError") = some true
  in_UnknownLog_Missing : PySem.W.kitOne K (.ref (He.ga K "UnknownLog")) (.ref (He.ga K "Missing")) = some true
  in_UnknownLog_ValueError : PySem.W.kitOne K (.ref (He.ga K "UnknownLog")) (.type "ValueError") = some false
  t_UnknownLog : PySem.W.exmAny K (.ref (He.ga K "UnknownLog")) [.ref (He.ga K "HeardError"), .ref (He.ga K "Missing"), .ref (He.ga K "NothingLeft")] = some true
theorem sc__law_field : FnScope ["_law_e"] ["_law_e"] d__law_field.scope := ⟨rfl, rfl, rfl, by decide +kernel, rfl, by decide +kernel, by decide +kernel⟩
theorem sc_law : FnScope ["_law_script", "_law_bag_here", "_law_value", "_law_made", "_law_codes", "_law_k", "_law_e", "_law_bases", "_law_due", "_law_kinds", "_law_more", "_law_fresh"] ["_law_script"] d_law.scope := ⟨rfl, rfl, rfl, by decide +kernel, rfl, by decide +kernel, by decide +kernel⟩
theorem sc__law_draw : FnScope ["_law_bag_here", "_law_many", "_law_cell", "_law_got"] ["_law_bag_here", "_law_many"] d__law_draw.scope := ⟨rfl, rfl, rfl, by decide +kernel, rfl, by decide +kernel, by decide +kernel⟩
theorem sc__law_bag : FnScope ["_law_script", "_law_cells"] ["_law_script"] d__law_bag.scope := ⟨rfl, rfl, rfl, by decide +kernel, rfl, by decide +kernel, by decide +kernel⟩
theorem sc__law_pick : FnScope ["_law_bag_here", "_law_some"] ["_law_bag_here", "_law_some"] d__law_pick.scope := ⟨rfl, rfl, rfl, by decide +kernel, rfl, by decide +kernel, by decide +kernel⟩
theorem sc__law_same : FnScope ["_law_found", "_law_due", "_law_a", "_law_b"] ["_law_found", "_law_due"] d__law_same.scope := ⟨rfl, rfl, rfl, by decide +kernel, rfl, by decide +kernel, by decide +kernel⟩
section
variable {P : Program} {w : World} {K : PySem.W.Frag} {mg : Str → Option Value} {base : Heap}
theorem ok_draw (h : DefAt K mg d__law_draw) (T : Facts mg) : FnV P w K mg base d__law_draw 1 ["_law_bag_here", "_law_many"] fDraw := by
  obtain ⟨⟨fd, hf⟩, hm⟩ := h
  refine ⟨⟨fd, hf, hf.ok sc__law_draw (fun vs H Q E ⟨G, svs, Qs, ok, r, ha, ⟨n, e, _⟩, z⟩ => by rw [r.length, e]; rfl) (fun cdv A outer s H vs Q E hr hsp => ?_)⟩, hm⟩
  refine ⟨_, PSs.nox (C8.pss_cut (ps_if (PW.pt (pw_and (pt_cmpR op_eq (pe_ix ix_list (pv 0) pe_int (fun _ _ => rfl)) pe_int (nomark _))
      (pw_and1 (pt_cmpR op_lt (pe_ix ix_list (pv 0) pe_int (fun _ _ => rfl)) (pe_callB call_len_seq (by rfl) T.len PySem.boot_len (pa_cons (pe_ix ix_list (pv 0) pe_int (fun _ _ => rfl)) pa_nil)) (nomark _)))))
      (pss_cons (ps_set (i := 2) sc__law_draw.nd rfl (.inl rfl) (pe_ix ix_list (pe_ix ix_list (pv 0) pe_int (fun _ _ => rfl)) (pe_ix ix_list (pv 0) pe_int (fun _ _ => rfl)) (fun _ _ => rfl)))
      (pss_cons (ps_asg (pe_op op_add (pe_ix ix_list (pv 0) pe_int (fun _ _ => rfl)) pe_int) (pg_sub (pv 0) pe_int set_list))
      (pss_one (ps_if (pt_cmpR op_ge (pe_callB call_abs (by rfl) T.abs (by decide +kernel) (pa_cons (pv 2) pa_nil)) (pe_op op_pow pe_int pe_int) (nomark _))
        (pss_one (ps_asg (pe_callB call_abs (by rfl) T.abs (by decide +kernel) (pa_cons (pv 2) pa_nil)) (pg_sub (pv 0) pe_int set_list)))
        (pss_one (ps_asg (pe_op op_mod (pe_callTy call_int1 (by rfl) T.int (by decide +kernel) (pa_cons (pe_op op_add (pe_op op_add (pe_op op_mul (pe_ix ix_list (pv 0) pe_int (fun _ _ => rfl)) pe_int)
            (pe_op op_mul (pe_op op_mod (pe_callTy call_int1 (by rfl) T.int (by decide +kernel) (pa_cons (pv 2) pa_nil)) pe_int) pe_int)) pe_int) pa_nil)) pe_int) (pg_sub (pv 0) pe_int set_list)))))))
      pss_nil)
    (pss_cons (ps_if (pt_cmpR op_gt (pe_ix ix_list (pv 0) pe_int (fun _ _ => rfl)) pe_int (nomark _))
      (pss_cons (ps_set (i := 3) sc__law_draw.nd rfl (.inl rfl) (pe_op op_mod (pe_callTy call_int1 (by rfl) T.int (by decide +kernel) (pa_cons (pe_ix ix_list (pv 0) pe_int (fun _ _ => rfl)) pa_nil)) (pv 1)))
      (pss_cons (ps_asg (pe_op op_fdivW (pe_ix ix_list (pv 0) pe_int (fun _ _ => rfl)) (pv 1)) (pg_sub (pv 0) pe_int set_list))
      (pss_one (ps_ret (pv 3)))))
      pss_nil)
    (pss_cons (ps_asg (pe_op op_mod (pe_callTy call_int1 (by rfl) T.int (by decide +kernel) (pa_cons (pe_op op_add (pe_op op_add (pe_op op_mul (pe_op op_mul (pe_ix ix_list (pv 0) pe_int (fun _ _ => rfl)) (pe_ix ix_list (pv 0) pe_int (fun _ _ => rfl))) pe_int)
        (pe_op op_mul (pe_ix ix_list (pv 0) pe_int (fun _ _ => rfl)) pe_int)) pe_int) pa_nil)) pe_int) (pg_sub (pv 0) pe_int set_list))
    (pss_one (ps_ret (pe_op op_mod (pe_callTy call_int1 (by rfl) T.int (by decide +kernel) (pa_cons (pe_op op_fdivW (pe_ix ix_list (pv 0) pe_int (fun _ _ => rfl)) pe_int) pa_nil)) (pv 1))))))), ?_⟩
  obtain ⟨G, svs, Qs, ⟨ok, _⟩, rl, ha, ⟨n, rfl, hn, hl, hq⟩, z⟩ := hsp
  obtain ⟨p, rfl, hpb, b0⟩ : ∃ p, vs = [.ref p, .int n] ∧ G.pb = some p ∧ BagAt G H p := by
    cases rl with
    | cons r1 t1 _ => cases t1 with
      | cons r2 t2 _ =>
        cases t2
        obtain ⟨p, rfl, hp⟩ := r1
        have e2 : _ = V.int n := r2
        subst e2
        exact ⟨p, rfl, hp, (ok.bag p hp).1⟩
  obtain ⟨c, ns, i0, r0, m0, e0, ec, hlen, hi0, hr0, hm0, hm1⟩ := b0
  have B0 : BagN G H p c ns i0 r0 m0 := ⟨ok, hpb, e0, ec, hlen, hi0, hr0, hm0, hm1⟩
  have fin : ∀ (H' : Hp) (i r m x : Int), BagN G H' p c ns i r m → (∀ y, y ≠ p → H' y = H y) → 0 ≤ x → x < n → Q (.int x) H' := fun H' i r m x b off h0 h1 =>
    z _ H' G (.tr (.int x)) (B0.ext b off) rfl trivial (hq x h0 h1)
  have sqB : ∀ {H' : Hp} {i r m : Int}, BagN G H' p c ns i r m → SqL K H' p [.ref c, .int i, .int r, .int m] := fun b => .of b.at_
  have sqC : ∀ {H' : Hp} {i r m : Int}, BagN G H' p c ns i r m → SqL K H' c (ns.map V.int) := fun b => .of b.cellsH
  have offp : ∀ {H' : Hp} {o : HO}, (∀ y, y ≠ p → H' y = H y) → ∀ y, y ≠ p → upd H' p o y = H y := fun h y hy => by rw [upd_ne hy]; exact h y hy
  have at0 : ∀ (c : Addr) (i r m : Int), atI ([.ref c, .int i, .int r, .int m] : List V) 0 = some (.ref c) := fun _ _ _ _ => rfl
  have at1 : ∀ (c : Addr) (i r m : Int), atI ([.ref c, .int i, .int r, .int m] : List V) 1 = some (.int i) := fun _ _ _ _ => rfl
  have at2 : ∀ (c : Addr) (i r m : Int), atI ([.ref c, .int i, .int r, .int m] : List V) 2 = some (.int r) := fun _ _ _ _ => rfl
  have at3 : ∀ (c : Addr) (i r m : Int), atI ([.ref c, .int i, .int r, .int m] : List V) 3 = some (.int m) := fun _ _ _ _ => rfl
  refine ⟨fun σ H1 => ∃ a b i r m, σ = [some (.ref p), some (.int n), a, b] ∧ BagN G H1 p c ns i r m ∧ ∀ y, y ≠ p → H1 y = H y, ?_, ?_⟩
  · -- the cells
    refine ⟨_, rfl, p, _, _, _, rfl, rfl, sqB B0, at2 _ _ _ _, rfl, _, rfl, ?_⟩
    refine ite2 (fun _ => ?_) (fun _ => ?_)
    · refine ⟨_, rfl, p, _, _, _, rfl, rfl, sqB B0, at1 _ _ _ _, _, rfl, p, _, _, _, rfl, rfl, sqB B0, at0 _ _ _ _, c, _, rfl, .inl (sqC B0), _, _, rfl, rfl, _, rfl, ?_⟩
      refine ite2 (fun hlt => ?_) (fun _ => ?_)
      · have hlt : i0 < (ns.length : Int) := by
          have := of_decide_eq_true hlt
          rw [List.length_map] at this
          exact this
        obtain ⟨j, rfl⟩ : ∃ j : Nat, i0 = j := ⟨i0.toNat, by omega⟩
        have hj : j < ns.length := by omega
        have hat : atI (ns.map V.int) (j : Int) = some (.int ns[j]) := by
          unfold atI ixN
          rw [if_pos (by omega), if_pos (by rw [List.length_map]; omega)]
          simp [hj]
        have B1 := B0.put (i' := (j : Int) + 1) (r' := r0) (m' := m0) (by omega) hr0 ⟨hm0, hm1⟩
        refine ⟨_, rfl, p, _, _, _, rfl, rfl, sqB B0, at0 _ _ _ _, _, rfl, p, _, _, _, rfl, rfl, sqB B0, at1 _ _ _ _, c, _, _, _, rfl, rfl, sqC B0, hat, ?_⟩
        refine ⟨_, rfl, p, _, _, _, rfl, rfl, sqB B0, at1 _ _ _ _, _, _, rfl, rfl, _, rfl, p, _, _, 1, rfl, rfl, e0, rfl, ?_⟩
        refine ⟨_, rfl, _, rfl, _, _, rfl, rfl, ⟨by decide, by decide, by decide⟩, _, _, rfl, rfl, _, rfl, ?_⟩
        refine ite2 (fun _ => ?_) (fun _ => ?_)
        · refine ⟨_, rfl, _, rfl, _, rfl, p, _, _, 2, rfl, rfl, B1.at_, rfl, ?_⟩
          exact ⟨_, _, _, _, _, rfl, B1.put (by omega) (by split <;> omega) ⟨hm0, hm1⟩, offp (offp fun _ _ => rfl)⟩
        · refine ⟨_, rfl, p, _, _, _, rfl, rfl, sqB B1, at3 _ _ _ _, _, _, rfl, rfl, .inl (by constructor <;> omega), ?_⟩
          refine ⟨_, rfl, .inl ⟨_, rfl, _, _, rfl, rfl, (by show (0 : Int) < 1000081; decide), _, _, rfl, rfl, .inl (by constructor <;> omega), _, _, rfl, rfl, _, _, rfl, rfl, ?_⟩⟩
          refine .inl ⟨_, rfl, _, _, rfl, rfl, (by show (0 : Int) < 2147483543; decide), _, rfl, p, _, _, 3, rfl, rfl, B1.at_, rfl, ?_⟩
          exact ⟨_, _, _, _, _, rfl, B1.put (by omega) hr0 (by constructor <;> omega), offp (offp fun _ _ => rfl)⟩
      · exact ⟨_, _, _, _, _, rfl, B0, fun _ _ => rfl⟩
    · exact ⟨_, _, _, _, _, rfl, B0, fun _ _ => rfl⟩
  · rintro σ H1 ⟨a, b, i, r, m, rfl, B, off⟩
    have hi := B.hi
    have hr' := B.hr
    have hm' := B.hm
    -- the rest of a great cell
    refine ⟨_, rfl, p, _, _, _, rfl, rfl, sqB B, at2 _ _ _ _, _, _, rfl, rfl, _, rfl, ?_⟩
    refine ite2 (fun hpos => ?_) (fun _ => ?_)
    · refine ⟨_, rfl, p, _, _, _, rfl, rfl, sqB B, at2 _ _ _ _, .inl ⟨_, rfl, _, rfl, _, _, rfl, rfl, hn, ?_⟩⟩
      refine ⟨_, rfl, p, _, _, _, rfl, rfl, sqB B, at2 _ _ _ _, _, rfl, _, _, rfl, rfl, ⟨hn, hl⟩, _, rfl, p, _, _, 2, rfl, rfl, B.at_, rfl, ?_⟩
      exact ⟨_, rfl, fin _ i (r / n) m (r % n) (B.put hi (Int.ediv_nonneg hr' (by omega)) hm') (offp off) (Int.emod_nonneg _ (by omega)) (Int.emod_lt_of_pos _ hn)⟩
    -- the mixed number
    have hsq : m * m < 4611686018427387904 := by
      have h1 : m * m ≤ 2147483647 * 2147483647 := Int.mul_le_mul (by omega) (by omega) hm'.1 (by decide)
      omega
    have hsq0 : 0 ≤ m * m := Int.mul_nonneg hm'.1 hm'.1
    refine ⟨_, rfl, p, _, _, _, rfl, rfl, sqB B, at3 _ _ _ _, _, rfl, p, _, _, _, rfl, rfl, sqB B, at3 _ _ _ _, _, _, rfl, rfl, .inl (by constructor <;> omega), _, _, rfl, rfl, .inl (by constructor <;> omega), ?_⟩
    refine ⟨_, rfl, p, _, _, _, rfl, rfl, sqB B, at3 _ _ _ _, _, _, rfl, rfl, .inl (by constructor <;> omega), _, _, rfl, rfl, _, _, rfl, rfl, .inl ⟨_, rfl, ?_⟩⟩
    refine ⟨_, _, rfl, rfl, (by show (0 : Int) < 2147483563; decide), _, rfl, p, _, _, 3, rfl, rfl, B.at_, rfl, ?_⟩
    have B2 := B.put (i' := i) (r' := r) (m' := (m * m * 5 + m * 31013 + 1700021) % 2147483563) hi hr' (by constructor <;> omega)
    refine ⟨_, rfl, p, _, _, _, rfl, rfl, sqB B2, at3 _ _ _ _, _, _, rfl, rfl, ⟨by decide, by decide⟩, .inl ⟨_, rfl, _, rfl, _, _, rfl, rfl, hn, ?_⟩⟩
    exact fin _ i r _ _ B2 (offp off) (Int.emod_nonneg _ (by omega)) (Int.emod_lt_of_pos _ hn)
theorem ok_bag (h : DefAt K mg d__law_bag) (T : Facts mg) : ∃ fd, FunD K "_law_bag" "_law_bag" d__law_bag.params d__law_bag.body d__law_bag.scope [] [] (He.fAd K d__law_bag.at_) fd ∧ FnOk P w K mg base CX0 1 (He.fAd K d__law_bag.at_) fd ["_law_script"] (spBag K) := by
  obtain ⟨⟨fd, hf⟩, hm⟩ := h
  refine ⟨fd, hf, hf.ok sc__law_bag (fun vs H Q E ⟨a, ns, e, _⟩ => by rw [e]; rfl) (fun cdv A outer s H vs Q E hr hsp => ?_)⟩
  refine ⟨_, PSs.nox (pss_cons (ps_set (i := 1) sc__law_bag.nd rfl (.inl rfl) (pe_callTy call_list_of (by rfl) T.list (by decide +kernel) (pa_cons (pe_slice sl_list (pv 0) po_none (po_some pe_int)) pa_nil)))
    (pss_one (ps_ret (pe_lst (pa_cons (pv 1) (pa_cons pe_int (pa_cons pe_int (pa_cons (pe_op op_add pe_int (pe_op op_mul pe_int (pe_callB call_len_seq (by rfl) T.len PySem.boot_len (pa_cons (pv 1) pa_nil)))) pa_nil)))))))), ?_⟩
  obtain ⟨a, ns, rfl, hS, hq⟩ := hsp
  refine ⟨_, rfl, _, rfl, a, _, rfl, hS, fun p hp => ?_⟩
  rw [cut63]
  refine ⟨p, cellsV ns, rfl, .inl (.of upd_same), fun c hc => ?_⟩
  refine ⟨_, rfl, _, rfl, c, _, rfl, .inl (.of upd_same), ?_⟩
  refine ⟨_, _, rfl, rfl, ?_, _, _, rfl, rfl, ?_⟩
  · exact .inl ⟨by decide, by decide⟩
  refine ⟨by show 4 ≤ sizeLine; decide, fun q hq' => ?_⟩
  have hcq : c ≠ q := fun z => by rw [z, upd_same] at hq'; cases hq'
  have hpc : p ≠ c := fun z => by rw [z, upd_same] at hc; cases hc
  rw [upd_ne hpc.symm] at hc
  rw [upd_ne hcq.symm] at hq'
  have hpq : q ≠ p := fun z => by rw [z, upd_same] at hq'; cases hq'
  rw [upd_ne hpq] at hq'
  refine hq _ c q hc hq' (by rw [upd_ne hcq, upd_same]) upd_same fun b o e => ?_
  rw [upd_ne (ne_of_none e hq'), upd_ne (ne_of_none e hc), upd_ne (ne_of_none e hp)]
  exact e
theorem ok_pick (h : DefAt K mg d__law_pick) (T : Facts mg) (c__law_draw : FnV P w K mg base d__law_draw 1 ["_law_bag_here", "_law_many"] fDraw) : FnV P w K mg base d__law_pick 2 ["_law_bag_here", "_law_some"] fPickT :=
  fnv_ok h sc__law_pick (fun f cdv A outer s H E hr => (vss_one (vs_ret (ve_ixA (hu1 hr) (ve_name 1) (ve_cv c__law_draw (hr.mono (by omega)) rfl rfl rfl (fun _ _ _ _ _ _ us hl => match us, hl with | [_, _], _ => rfl) (by rfl) (va_cons (ve_name 0) (va_cons (ve_fz (ve_callB cw_len (by rfl) T.len (by decide +kernel) (va_cons (ve_name 1) va_nil))) va_nil))))))) (by rintro svs Qs (⟨_, _, rfl, _⟩ | ⟨_, rfl, _⟩) <;> rfl) (by
    rintro svs Qs (⟨sv, xs, rfl, hi, h0, h1, q⟩ | ⟨z, rfl, h0, h1, q⟩)
    · rcases hi with ia | ia
      · simp [ia.look, ia.d]
        refine ⟨h0, log_lt (by omega), fun r r0 r1 => ?_⟩
        obtain ⟨d, hd, e⟩ := atI_lt r0 r1
        exact ⟨d, e, q d hd⟩
      · simp [ia.look, ia.d]
        refine ⟨h0, log_lt (by omega), fun r r0 r1 => ?_⟩
        obtain ⟨d, hd, e⟩ := atI_lt r0 r1
        exact ⟨d, e, q d hd⟩
    · simp
      refine ⟨h0, log_lt (by omega), fun r r0 r1 => ?_⟩
      obtain ⟨d, hd, e⟩ := atI_lt (xs := z.cps.toList) r0 r1
      exact ⟨d, e, q d hd⟩)
theorem ok_same (h : DefAt K mg d__law_same) (T : Facts mg) (n : Nat) : FnV P w K mg base d__law_same n ["_law_found", "_law_due"] (fSame n) := by
  induction n with
  | zero => exact (FnV.none h).imp (by rintro svs Q ⟨_, _, a, b, _, _, _, _, _, _, h, _⟩; omega)
  | succ n c__law_same =>
    exact fnv_ok h sc__law_same (fun f cdv A outer s H E hr => (vss_cons (vs_if (vc_tru (ve_isi .list (ve_name 1) (by rfl) T.isinstance (by rfl) T.list (by decide +kernel))) (vss_one (vs_ret (ve_and (ve_isi .list (ve_name 0) (by rfl) T.isinstance (by rfl) T.list (by decide +kernel)) (ve_and (ve_cmp (ow_eq hr.units) (ve_callB cw_len (by rfl) T.len (by decide +kernel) (va_cons (ve_name 0) va_nil)) (ve_callB cw_len (by rfl) T.len (by decide +kernel) (va_cons (ve_name 1) va_nil))) (ve_one (ve_callB (cw_all rfl) (by rfl) T.all (by decide +kernel) (va_cons (ve_lc (own := [("_law_a", 2), ("_law_b", 3)]) rfl sc__law_same.nd (vi_zip (by rfl) T.zip (va_cons (ve_name 0) (va_cons (ve_name 1) va_nil))) (blkOk_by (own := [("_law_a", 2), ("_law_b", 3)]) (N := ["_law_found", "_law_due", "_law_a", "_law_b"]) (sc := d__law_same.scope) (by decide +kernel)) (fun _ _ _ _ _ => (vg_tup rfl (vgs_cons (i := 2) sc__law_same.nd rfl (by first | exact Or.inl rfl | exact Or.inr rfl) (vgs_cons (i := 3) sc__law_same.nd rfl (by first | exact Or.inl rfl | exact Or.inr rfl) vgs_nil)))) (fun _ _ _ _ _ => vcs_nil) (fun _ _ _ _ _ => (ve_fz (ve_cv c__law_same (hr.mono (by omega)) rfl rfl rfl (fun _ _ _ _ _ _ us hl => match us, hl with | [_, _], _ => rfl) (by rfl) (va_cons (ve_name 2) (va_cons (ve_name 3) va_nil)))))) va_nil))))))) vss_nil) (vss_cons (vs_if (vc_tru (ve_isi .tuple (ve_name 1) (by rfl) T.isinstance (by rfl) T.tuple (by decide +kernel))) (vss_one (vs_ret (ve_and (ve_isi .tuple (ve_name 0) (by rfl) T.isinstance (by rfl) T.tuple (by decide +kernel)) (ve_and (ve_cmp (ow_eq hr.units) (ve_callB cw_len (by rfl) T.len (by decide +kernel) (va_cons (ve_name 0) va_nil)) (ve_callB cw_len (by rfl) T.len (by decide +kernel) (va_cons (ve_name 1) va_nil))) (ve_one (ve_callB (cw_all rfl) (by rfl) T.all (by decide +kernel) (va_cons (ve_lc (own := [("_law_a", 2), ("_law_b", 3)]) rfl sc__law_same.nd (vi_zip (by rfl) T.zip (va_cons (ve_name 0) (va_cons (ve_name 1) va_nil))) (blkOk_by (own := [("_law_a", 2), ("_law_b", 3)]) (N := ["_law_found", "_law_due", "_law_a", "_law_b"]) (sc := d__law_same.scope) (by decide +kernel)) (fun _ _ _ _ _ => (vg_tup rfl (vgs_cons (i := 2) sc__law_same.nd rfl (by first | exact Or.inl rfl | exact Or.inr rfl) (vgs_cons (i := 3) sc__law_same.nd rfl (by first | exact Or.inl rfl | exact Or.inr rfl) vgs_nil)))) (fun _ _ _ _ _ => vcs_nil) (fun _ _ _ _ _ => (ve_fz (ve_cv c__law_same (hr.mono (by omega)) rfl rfl rfl (fun _ _ _ _ _ _ us hl => match us, hl with | [_, _], _ => rfl) (by rfl) (va_cons (ve_name 2) (va_cons (ve_name 3) va_nil)))))) va_nil))))))) vss_nil) (vss_cons (vs_if (VW.vc (vw_or (vc_cmp ow_is (ve_name 1) ve_non) (vw_or1 (vc_cmp ow_is (ve_name 0) ve_non)))) (vss_one (vs_ret (ve_and (ve_cmp ow_is (ve_name 1) ve_non) (ve_one (ve_cmp ow_is (ve_name 0) ve_non))))) vss_nil) (vss_cons (vs_if (VW.vc (vw_or (vc_tru (ve_isi .bool (ve_name 1) (by rfl) T.isinstance (by rfl) T.bool (by decide +kernel))) (vw_or1 (vc_tru (ve_isi .bool (ve_name 0) (by rfl) T.isinstance (by rfl) T.bool (by decide +kernel)))))) (vss_one (vs_ret (ve_and (ve_isi .bool (ve_name 1) (by rfl) T.isinstance (by rfl) T.bool (by decide +kernel)) (ve_and (ve_isi .bool (ve_name 0) (by rfl) T.isinstance (by rfl) T.bool (by decide +kernel)) (ve_one (ve_cmp (ow_eq hr.units) (ve_name 0) (ve_name 1))))))) vss_nil) (vss_cons (vs_if (vc_tru (ve_isi .int (ve_name 1) (by rfl) T.isinstance (by rfl) T.int (by decide +kernel))) (vss_one (vs_ret (ve_and (ve_isi .int (ve_name 0) (by rfl) T.isinstance (by rfl) T.int (by decide +kernel)) (ve_one (ve_cmp (ow_eq hr.units) (ve_name 0) (ve_name 1)))))) vss_nil) (vss_one (vs_ret (ve_and (ve_isi .str (ve_name 0) (by rfl) T.isinstance (by rfl) T.str (by decide +kernel)) (ve_one (ve_cmp (ow_eq hr.units) (ve_name 0) (ve_name 1)))))))))))) (by rintro svs Qs ⟨_, _, _, _, rfl, _⟩; rfl) (by
      rintro svs Qs ⟨sa, sb, a, b, rfl, ia, ib, ha, hb, hw, hd, q⟩
      cases b <;> cases a <;> first
        | (simp [D.dat] at ha; done)
        | (simp [D.dat] at hb; done)
        | (simpa [sameD, gSeq, ia.look, ia.d, ib.look, ib.d] using q)
        | skip
      all_goals
        rename_i ys xs
        simp [sameD] at q ha hb hd hw
        simp [gSeq, ia.look, ia.d, ib.look, ib.d]
        split
        · rename_i hl
          have hl : xs.length = ys.length := by omega
          first | rw [zipR_isa ia ib] | rw [zipR_isat ia ib]
          rw [zipD_eq]
          refine lcW_map (fun (p : D × D) => .tup [p.1, p.2]) (fun (p : D × D) => .bl (sameD p.1 p.2)) rfl ?_ (fun p hp R r => ?_) ?_
          · rw [List.length_zip]
            unfold sizeLine
            omega
          · have h1 := List.of_mem_zip (a := p.1) (b := p.2) hp
            simp [gSeq]
            exact ⟨dats_all ha _ h1.1, dats_all hb _ h1.2, wids_all hw.2 _ h1.2, dep_lt_of_mem (by omega) _ h1.2, r⟩
          · simp
            rw [← sames_zip]
            simpa [hl] using q
        · rename_i hl
          have hl : xs.length ≠ ys.length := by omega
          simpa [hl] using q)
end
theorem ob_eq (s : PySem.W.SharedT) : ob s = hk.obs s.abs := VT.hookZ_eq (HandSHeadRun.getT_eq s)
end K60
namespace HP
open PySem PySem.Spec PyProof.Rows L2 VT
def letters : Str := "abcdefghijklmnopqrstuvwxyz"
def isNameS (z : Str) : Bool := decide (1 ≤ z.length) && (decide (z.length ≤ 6) && z.cps.toList.all fun c => decide (c ∈ letters.cps))
abbrev Ent := Option Str × Int
def whoD : Option Str → D
  | none => .non
  | some z => .str z
def entD (e : Ent) : D := .tup [whoD e.1, .int e.2]
def okE (e : Ent) : Prop := 1 ≤ e.2 ∧ e.2 ≤ 60 ∧ ∀ z, e.1 = some z → isNameS z = true
def msgs : Int → List Ent → List D
  | _, [] => []
  | t, (some z, l) :: r => .tup [.str z, .int t, .int (t + l)] :: msgs (t + l) r
  | t, (none, l) :: r => msgs (t + l) r
def ticksOf : List Ent → Int
  | [] => 0
  | e :: r => e.2 + ticksOf r
def logF (es : List Ent) (j : Bool) : List (Str × D) := [("own_entries", .tup (es.map entD)), ("joined", .bl j), ("own_messages", .lst (msgs 0 es)), ("own_ticks", .int (ticksOf es))]
abbrev Row := Int × Int × Int
def able (rows : Str → List Row) (sp : Str → Nat) (t : Int) (n : Str) : Bool := match (rows n)[sp n]? with
  | some r => decide (r.2.1 ≤ t)
  | none => false
def win (ns : List Str) (rows : Str → List Row) (sp : Str → Nat) (t : Int) : Option Str := ns.find? (able rows sp t)
end HP
namespace HP
open PySem PySem.Spec PyProof.Rows L2 VT
@[simp] def fLetters : FSp := fun svs Q => svs = [] ∧ Q (.tr (.str letters))
def Lets (z : Str) : Prop := ∀ c ∈ z.cps.toList, c ∈ letters.cps.toList
theorem Lets.name {a : Str} (h : Lets a) (h1 : 1 ≤ a.length) (h2 : a.length ≤ 6) : isNameS a = true := by
  unfold isNameS
  rw [decide_eq_true h1, decide_eq_true h2, Bool.true_and, Bool.true_and, List.all_eq_true]
  intro c hc
  simpa using h c hc
end HP
namespace HP
open PySem PySem.Spec PyProof.Rows L2 VT
mutual
theorem sameD_refl : ∀ d : D, d.dat = true → sameD d d = true
  | .non, _ => rfl
  | .bl b, _ => by simp [sameD]
  | .int b, _ => by simp [sameD]
  | .str b, _ => by simp [sameD]
  | .lst xs, h => by simp [sameD, sames_refl xs h]
  | .tup xs, h => by simp [sameD, sames_refl xs h]
  | .dic _, h | .dit _, h | .ins _ _, h | .exn _ _, h | .fn _ _, h | .opq, h => by simp [D.dat] at h
theorem sames_refl : ∀ xs : List D, dats xs = true → sames xs xs = true
  | [], _ => rfl
  | x :: xs, h => by
    simp at h
    simp [sames, sameD_refl x h.1, sames_refl xs h.2]
end
end HP
namespace HP
open PySem PySem.Spec PyProof.Rows L2 VT
abbrev logD (K : PySem.W.Frag) (es : List Ent) (j : Bool) : D := .ins (He.ga K "Log") (logF es j)
end HP
namespace HP
open PySem PySem.Spec PyProof.Rows L2 VT
abbrev spacedD (K : PySem.W.Frag) (b w p l : D) : D := .ins (He.ga K "Spaced") [("late", l), ("burst", b), ("window", w), ("pause", p)]
abbrev answD (K : PySem.W.Frag) (n a m l : D) : D := .ins (He.ga K "Answering") [("late", l), ("name", n), ("least", a), ("most", m)]
abbrev freeD (K : PySem.W.Frag) : D := .ins (He.ga K "Free") [("late", .non)]
theorem noA {m : Str} {fs : List (Str × FV)} (h : (fs.all fun p => !decide (m = p.1)) = true) : ∀ (a : Str) (b : FV), (a, b) ∈ fs → ¬ m = a := fun a b hm e => by
  have := List.all_eq_true.mp h _ hm
  simp [e] at this
end HP
namespace HP
open PySem PySem.Spec PyProof.Rows L2 VT
inductive Hab where
  | free | spaced (b w : Int) (p : Option Int) (l : Int) | answ (n : Str) (a m l : Int)
def optD : Option Int → D
  | none => .non
  | some i => .int i
def Hab.good : Hab → Prop
  | .free => True
  | .spaced b w p l => (1 ≤ b ∧ b ≤ 4) ∧ (1 ≤ w ∧ w ≤ 99) ∧ (∀ x, p = some x → w ≤ x ∧ x ≤ 99 ∧ b = 1) ∧ 0 ≤ l ∧ l ≤ 99
  | .answ n a m l => isNameS n = true ∧ (0 ≤ a ∧ a ≤ 99) ∧ (a ≤ m ∧ m ≤ 99) ∧ 0 ≤ l ∧ l ≤ 99
def Hab.D (K : PySem.W.Frag) : Hab → D
  | .free => freeD K
  | .spaced b w p l => spacedD K (.int b) (.int w) (optD p) (.int l)
  | .answ n a m l => answD K (.str n) (.int a) (.int m) (.int l)
def Hab.src : Hab → Option Str
  | .answ n _ _ _ => some n
  | _ => none
abbrev Snd := Str × Hab
def Snd.good (p : Snd) : Prop := isNameS p.1 = true ∧ p.2.good
def kvsD (K : PySem.W.Frag) (hs : List Snd) : List (Key × D) := hs.map fun p => (Sum.inr p.1, p.2.D K)
abbrev wireD (K : PySem.W.Frag) (hs : List Snd) : D := .ins (He.ga K "Wire") [("known", .dic (kvsD K hs))]
inductive WE where
  | many | snd (i : Nat) | dup (n : Str) | unk (n : Str)
def WE.code : WE → Str
  | .many => "TooMany"
  | .snd _ => "InvalidSender"
  | .dup _ => "DuplicateName"
  | .unk _ => "UnknownName"
def WE.fld : WE → Str
  | .many => "most"
  | .snd _ => "at"
  | .dup _ => "name"
  | .unk _ => "name"
def WE.val : WE → D
  | .many => .int 6
  | .snd i => .int i
  | .dup n => .str n
  | .unk n => .str n
def WE.x (K : PySem.W.Frag) (Qx : XP) (e : WE) : Prop := Qx (He.ga K e.code) [(e.fld, e.val), ("code", .str e.code)]
def SrcOk (hs : List Snd) : Prop := ∀ l p r, hs = l ++ p :: r → ∀ z, p.2.src = some z → z ∈ l.map (·.1)
theorem SrcOk.nil : SrcOk [] := fun l p r e => by cases l <;> cases e
end HP
namespace HP
open PySem PySem.Spec PyProof.Rows L2 VT
def hFind (hs : List Snd) (n : Str) : Option Hab := (hs.find? fun p => decide (p.1 = n)).map (·.2)
end HP
namespace HP
abbrev RowZ := Nat × Nat × Int
def setF {α : Type} (f : Nat → α) (v : Nat) (x : α) : Nat → α := fun u => if u = v then x else f u
@[simp] theorem setF_same {α : Type} {f : Nat → α} {v : Nat} {x : α} : setF f v x v = x := if_pos rfl
inductive Walk (rows : List RowZ) : Nat → Nat → Int → Prop
  | nil (v : Nat) : Walk rows v v 0
  | cons {r : RowZ} {c : Nat} {w : Int} (h : r ∈ rows) (t : Walk rows r.2.1 c w) : Walk rows r.1 c (r.2.2 + w)
def f0 : Nat → Option Int := fun v => if v = 0 then some 0 else none
end HP
namespace HP
def mores (l : List RowZ) : Int := (l.map fun r => r.2.2).sum
@[simp] theorem mores_nil : mores [] = 0 := rfl
@[simp] theorem mores_cons (r : RowZ) (l : List RowZ) : mores (r :: l) = r.2.2 + mores l := by simp [mores]
def Link : Nat → List RowZ → Prop
  | v, [] => v = 0
  | v, r :: l => r.1 = v ∧ Link r.2.1 l
section
variable {rows : List RowZ} {N : Nat} {p : Nat → Int} {B A : Int} {D : Nat} {f : Nat → Option Int} {c : Nat → Option RowZ} {t : Nat → Nat} {T : Nat}
def Fix (rows : List RowZ) (f : Nat → Option Int) : Prop := ∀ r ∈ rows, ∀ y, f r.2.1 = some y → ∃ x, f r.1 = some x ∧ x ≤ y - r.2.2
theorem fix_walk (F : Fix rows f) {u v : Nat} {w : Int} (W : Walk rows u v w) : ∀ {y : Int}, f v = some y → ∃ x, f u = some x ∧ x ≤ y - w := by
  induction W with
  | nil v => intro y h; exact ⟨y, h, by omega⟩
  | @cons r c w hr _ ih =>
    intro y h
    obtain ⟨z, hz, k⟩ := ih h
    obtain ⟨x, hx, k2⟩ := F r hr z hz
    exact ⟨x, hx, by omega⟩
end
end HP
namespace HP
def better (f : Nat → Option Int) (r : RowZ) : Option Int := match f r.2.1 with
  | none => none
  | some y => match f r.1 with
    | none => some (y - r.2.2)
    | some x => if y - r.2.2 < x then some (y - r.2.2) else none
def relax (f : Nat → Option Int) (r : RowZ) : Nat → Option Int := match better f r with
  | none => f
  | some z => setF f r.1 (some z)
def round (rows : List RowZ) (f : Nat → Option Int) : Nat → Option Int := rows.foldl relax f
def rounds (rows : List RowZ) : Nat → (Nat → Option Int) → Nat → Option Int
  | 0, f => f
  | k + 1, f => round rows (rounds rows k f)
def Le (f g : Nat → Option Int) : Prop := ∀ v x, f v = some x → ∃ z, g v = some z ∧ z ≤ x
theorem Le.trans {f g h : Nat → Option Int} (a : Le f g) (b : Le g h) : Le f h := fun v x e => by
  obtain ⟨z, e2, k⟩ := a v x e
  obtain ⟨z2, e3, k2⟩ := b v z e2
  exact ⟨z2, e3, by omega⟩
def Rz (rows : List RowZ) (f : Nat → Option Int) : Prop := ∀ v x, f v = some x → Walk rows v 0 (-x)
end HP
namespace HP
open PySem PySem.Spec PyProof.Rows L2 VT
def bndD (r : RowZ) : D := .tup [.int (r.1 : Nat), .int (r.2.1 : Nat), .int r.2.2]
def LatOk (rows : List RowZ) (N : Nat) (f : Nat → Option Int) : Prop := Fix rows f ∧ f 0 = some 0 ∧ Rz rows f ∧ rounds rows N f0 = f
def RingOk (rows : List RowZ) (N : Nat) (l : List RowZ) : Prop := (∀ q ∈ l, q ∈ rows) ∧ Link 0 l ∧ 0 < mores l ∧ l.length ≤ N ∧ l ≠ []
end HP
namespace HP
open PySem PySem.Spec PyProof.Rows L2 VT
def rulesZ (h : Hab) (k : Nat) (ends : List Int) (ticks : Int) : List RowZ :=
  [(2 * k + 1, 2 * k + 2, 0)] ++ ((match h with
    | .free => []
    | .spaced _ _ _ l => [(2 * k + 2, 2 * k + 1, 0 - l)]
    | .answ _ _ _ l => [(2 * k + 2, 2 * k + 1, 0 - l)]) ++
  ((if 0 < k then [(2 * k - 1, 2 * k + 1, 0), (2 * k, 2 * k + 2, 0)] else []) ++ (match h with
    | .free => []
    | .spaced b w p _ => (if b ≤ k then [(2 * k + 1 - 2 * b.toNat, 2 * k + 1, w)] else []) ++ (match p with
      | some x => if 0 < k then [(2 * k + 1, 2 * k - 1, 0 - x)] else []
      | none => [])
    | .answ _ a m _ => (match ends[k]? with
      | some e => [(0, 2 * k + 1, e + a), (2 * k + 1, 0, 0 - e - m)]
      | none => [(0, 2 * k + 1, ticks + 1 + a)]))))
def wOf : Hab → Int
  | .spaced _ w _ _ => w
  | _ => 0
end HP
namespace HP
open PySem PySem.Spec PyProof.Rows L2 VT
def inLog (h : Hab) (j : Bool) : Hab := match h, j with
  | .answ .., true => .free
  | h, _ => h
def unhZ (h : Hab) (many ends : Nat) : Nat := match h with
  | .answ .. => ends - many
  | .spaced _ _ (some _) _ => if 0 < many then 1 else 0
  | _ => 0
def decsZ : Int → List Ent → List (Int × Option Str)
  | _, [] => []
  | t, (none, l) :: r => (List.range l.toNat).map (fun k => (t + (k : Nat), none)) ++ decsZ (t + l) r
  | t, (some z, l) :: r => (t, some z) :: decsZ (t + l) r
def lostZ (who : Str) (under : List Str) : Option Int → List (Int × Option Str) → List (Option Int)
  | low, [] => [low]
  | low, (t, o) :: r => if o = some who then low :: lostZ who under none r else if o = none ∨ (∃ z, o = some z ∧ z ∈ under) then lostZ who under (some t) r else lostZ who under low r
end HP
namespace HP
open PySem PySem.Spec PyProof.Rows L2 VT
abbrev Msg := Str × Int × Int
def msgZ : Int → List Ent → List Msg
  | _, [] => []
  | t, (some z, l) :: r => (z, t, t + l) :: msgZ (t + l) r
  | t, (none, l) :: r => msgZ (t + l) r
def beginsZ (n : Str) (ms : List Msg) : List Int := (ms.filter fun m => decide (m.1 = n)).map fun m => m.2.1
def endsZ (h : Hab) (ms : List Msg) : List Int := match h with
  | .answ n _ _ _ => (ms.filter fun m => decide (m.1 = n)).map fun m => m.2.2
  | _ => []
inductive Said where
  | no | quiet | waiting
def Said.D : Said → D
  | .no => .non
  | .quiet => .str "quiet"
  | .waiting => .str "waiting"
def boundsK (h : Hab) (bs es : List Int) (ticks : Int) (j : Bool) (lost : List (Option Int)) (sd : Said) (k : Nat) : List RowZ :=
  rulesZ h k es ticks ++ ((if k = 0 ∧ j = false then [(0, 1, 0)] else []) ++ ((match bs[k]? with | some b => [(2 * k + 2, 0, 0 - b)] | none => []) ++
  ((match lost[k]? with | some (some x) => [(0, 2 * k + 2, x + 1)] | _ => []) ++ ((match sd with
    | .waiting => if k = bs.length then [(2 * k + 2, 0, 0 - ticks)] else []
    | .quiet => if k = bs.length then [(0, 2 * k + 2, ticks + 1)] else []
    | .no => [])))))
def totalZ (h : Hab) (bs es : List Int) (sd : Said) : Nat := bs.length + max (unhZ h bs.length es.length) (match sd with | .waiting => 1 | _ => 0)
def boundsZ (h : Hab) (bs es : List Int) (ticks : Int) (j : Bool) (lost : List (Option Int)) (sd : Said) : List RowZ := (List.range (totalZ h bs es sd)).flatMap (boundsK h bs es ticks j lost sd)
def boundsOf (p : Snd) (es : List Ent) (j : Bool) (under : List Str) (sd : Said) : List RowZ :=
  boundsZ (inLog p.2 j) (beginsZ p.1 (msgZ 0 es)) (endsZ (inLog p.2 j) (msgZ 0 es)) (ticksOf es) j (lostZ p.1 under none (decsZ 0 es)) sd
end HP
namespace HP
open PySem PySem.Spec PyProof.Rows L2 VT
def asks (rs : List Row) : List Int := rs.map (·.1)
def AskOk (sp : Bool) (b : Nat) (w : Int) (p : Option Int) (A : List Int) : Prop :=
  (∀ (i : Nat) x y, A[i]? = some x → A[i + 1]? = some y → x ≤ y ∧ ∀ m, p = some m → y ≤ x + m) ∧ (sp = true → ∀ (i : Nat) x y, A[i]? = some x → A[i + b]? = some y → x + w ≤ y)
def ReqR (sp : Bool) (l : Int) (rs : List Row) : Prop :=
  (∀ r ∈ rs, (1 ≤ r.2.2 ∧ r.2.2 ≤ 4) ∧ r.1 ≤ r.2.1 ∧ (sp = true → r.2.1 ≤ r.1 + l)) ∧ ∀ (i : Nat) r q, rs[i]? = some r → rs[i + 1]? = some q → r.2.1 ≤ q.2.1
theorem req_nil (sp : Bool) (l : Int) : ReqR sp l [] := ⟨fun _ h => (nomatch h), fun i x y e => by simp at e⟩
def isSp : Hab → Bool
  | .spaced .. => true
  | _ => false
def bOf : Hab → Nat
  | .spaced b .. => b.toNat
  | _ => 1
def pOf : Hab → Option Int
  | .spaced _ _ p _ => p
  | _ => none
def lOf : Hab → Int
  | .spaced _ _ _ l => l
  | .answ _ _ _ l => l
  | .free => 0
structure ReqOk (h : Hab) (t : Int) (am : Bool) (rs : List Row) : Prop where
  ask : AskOk (isSp h) (bOf h) (wOf h) (pOf h) (asks rs)
  row : ReqR (isSp h) (lOf h) rs
  st : am = false → ∀ r ∈ rs, 0 ≤ r.1
  far : pOf h ≠ none → t ≤ 50 → ∃ r ∈ rs, t < r.1
  len : rs.length ≤ 70
structure AnsOk (a m l : Int) (ends : List Int) (rs : List Row) : Prop where
  len : rs.length = ends.length
  at_ : ∀ (i : Nat) r e, rs[i]? = some r → ends[i]? = some e → e + a ≤ r.1 ∧ r.1 ≤ e + m
  ask : AskOk false 1 1 none (asks rs)
  row : ReqR true l rs
theorem AnsOk.nil (a m l : Int) : AnsOk a m l [] [] := ⟨rfl, fun i r e h => by simp at h, ⟨fun i x y h => by simp [asks] at h, fun _ i x y h => by simp [asks] at h⟩, req_nil _ _⟩
theorem asks_at (rs : List Row) (i : Nat) : (asks rs)[i]? = rs[i]?.map (·.1) := by
  unfold asks
  rw [List.getElem?_map]
end HP
namespace HP
open PySem PySem.Spec PyProof.Rows L2 VT
def endsN (n : Str) (es : List Ent) : List Int := ((msgZ 0 es).filter fun m => decide (m.1 = n)).map fun m => m.2.2
inductive PlayedTo (ord : List Str) (pl : Str → List Row) (T : Int) : (Str → Nat) → List Ent → Int → Prop
  | nil : PlayedTo ord pl T (fun _ => 0) [] 0
  | idle {sp es t} (h : PlayedTo ord pl T sp es t) (lt : t < T) (w : win ord pl sp t = none) : PlayedTo ord pl T sp (es ++ [(none, 1)]) (t + 1)
  | say {sp es t n r} (h : PlayedTo ord pl T sp es t) (lt : t < T) (w : win ord pl sp t = some n) (e : (pl n)[sp n]? = some r) : PlayedTo ord pl T (fun m => if m = n then sp n + 1 else sp m) (es ++ [(some n, r.2.2)]) (t + r.2.2)
def ExtP (t : Int) (pl plF : Str → List Row) : Prop := ∀ n, ∃ more, plF n = pl n ++ more ∧ ∀ r ∈ more, t ≤ r.2.1
theorem ExtP.trans {t1 t2 : Int} {a b c : Str → List Row} (h1 : ExtP t1 a b) (h2 : ExtP t2 b c) (h : t1 ≤ t2) : ExtP t1 a c := fun n => by
  obtain ⟨m1, e1, k1⟩ := h1 n
  obtain ⟨m2, e2, k2⟩ := h2 n
  refine ⟨m1 ++ m2, by rw [e2, e1, List.append_assoc], fun r hr => ?_⟩
  rcases List.mem_append.mp hr with hr | hr
  · exact k1 r hr
  · have := k2 r hr; omega
theorem ExtP.mono {t1 t2 : Int} {a b : Str → List Row} (h1 : ExtP t2 a b) (h : t1 ≤ t2) : ExtP t1 a b := fun n => by
  obtain ⟨m1, e1, k1⟩ := h1 n
  exact ⟨m1, e1, fun r hr => by have := k1 r hr; omega⟩
def Hist (ord : List Str) (pl : Str → List Row) (T : Int) (sp : Str → Nat) (es : List Ent) (t : Int) : Prop := ∀ plF, ExtP t pl plF → PlayedTo ord plF T sp es t
theorem Hist.nil (ord : List Str) (pl : Str → List Row) (T : Int) : Hist ord pl T (fun _ => 0) [] 0 := fun _ _ => .nil
def PlanI (h : Hab) (am : Bool) (t : Int) (es : List Ent) (rs : List Row) : Prop := match h, am with
  | .answ src a m l, false => AnsOk a m l (endsN src es) rs
  | h, am => ReqOk (inLog h am) t am rs
theorem PlanI.rows {h : Hab} {am : Bool} {t : Int} {es : List Ent} {rs : List Row} (k : PlanI h am t es rs) : ∀ r ∈ rs, 1 ≤ r.2.2 ∧ r.2.2 ≤ 4 := by
  intro r hr
  cases h with
  | answ src a m l =>
    cases am with
    | false => exact ((show AnsOk a m l (endsN src es) rs from k).row.1 r hr).1
    | true => exact ((show ReqOk .free t true rs from k).row.1 r hr).1
  | free => cases am <;> exact ((show ReqOk .free t _ rs from k).row.1 r hr).1
  | spaced b w p l => cases am <;> exact ((show ReqOk (.spaced b w p l) t _ rs from k).row.1 r hr).1
end HP
namespace HP
open PySem PySem.Spec PyProof.Rows L2 VT
structure Asc (rs : List Row) : Prop where
  row : ∀ r ∈ rs, (1 ≤ r.2.2 ∧ r.2.2 ≤ 4) ∧ r.1 ≤ r.2.1
  asc : ∀ (i : Nat) r q, rs[i]? = some r → rs[i + 1]? = some q → r.1 ≤ q.1 ∧ r.2.1 ≤ q.2.1
theorem asc_of {sp sp2 : Bool} {b : Nat} {w : Int} {p : Option Int} {l : Int} {rs : List Row} (h1 : AskOk sp b w p (asks rs)) (h2 : ReqR sp2 l rs) : Asc rs :=
  ⟨fun r hr => ⟨(h2.1 r hr).1, (h2.1 r hr).2.1⟩, fun i r q e1 e2 => ⟨(h1.1 i r.1 q.1 (by rw [asks_at, e1]; rfl) (by rw [asks_at, e2]; rfl)).1, h2.2 i r q e1 e2⟩⟩
theorem PlanI.asc {h : Hab} {am : Bool} {t : Int} {es : List Ent} {rs : List Row} (k : PlanI h am t es rs) : Asc rs := by
  cases h with
  | answ src a m l =>
    cases am with
    | false => have k : AnsOk a m l (endsN src es) rs := k; exact asc_of k.ask k.row
    | true => have k : ReqOk .free t true rs := k; exact asc_of k.ask k.row
  | free => have k : ReqOk .free t am rs := by cases am <;> exact k
            exact asc_of k.ask k.row
  | spaced b w p l => have k : ReqOk (.spaced b w p l) t am rs := by cases am <;> exact k
                      exact asc_of k.ask k.row
end HP
namespace HP
open PySem PySem.Spec PyProof.Rows L2 VT
def szZ (p : Snd) (es : List Ent) (j : Bool) (sd : Said) : Nat := totalZ (inLog p.2 j) (beginsZ p.1 (msgZ 0 es)) (endsZ (inLog p.2 j) (msgZ 0 es)) sd
def fateB (wd ld nd : D) (ud : List D) (cd : D) : List (Str × D) := [("own_wire", wd), ("own_log", ld), ("own_name", nd), ("own_below", .tup ud), ("own_claim", cd)]
def possF (wd ld nd : D) (ud : List D) (cd md : D) : List (Str × D) := fateB wd ld nd ud cd ++ [(("own_moments" : Str), md)]
def impoF (wd ld nd : D) (ud : List D) (cd md : D) : List (Str × D) := fateB wd ld nd ud cd ++ [(("own_ring" : Str), md)]
def possD (K : PySem.W.Frag) (wd ld nd : D) (ud : List D) (cd md : D) : D := .ins (He.ga K "Possible") (possF wd ld nd ud cd md)
def impoD (K : PySem.W.Frag) (wd ld nd : D) (ud : List D) (cd md : D) : D := .ins (He.ga K "Impossible") (impoF wd ld nd ud cd md)
def pairsZ (t : Nat) (f : Nat → Option Int) : List D := (List.range t).map fun k => .tup [optD (f (2 * k + 1)), optD (f (2 * k + 2))]
end HP
namespace HP
open PySem PySem.Spec PyProof.Rows L2 VT
def mpD (p : Int × Int) : D := .tup [.int p.1, .int p.2]
end HP
namespace HP
open PySem PySem.Spec PyProof.Rows L2 VT
theorem walk_two {rows : List RowZ} {u v w : Nat} {a : Int} (h : (u, v, a) ∈ rows) (k : ∃ x, Walk rows v w x) : ∃ x, Walk rows u w x := by
  obtain ⟨x, hx⟩ := k
  exact ⟨_, .cons (r := (u, v, a)) h hx⟩
theorem bk_mem {p : Snd} {es : List Ent} {j : Bool} {under : List Str} {sd : Said} {k : Nat} (h : k < szZ p es j sd) {r : RowZ}
    (hr : r ∈ boundsK (inLog p.2 j) (beginsZ p.1 (msgZ 0 es)) (endsZ (inLog p.2 j) (msgZ 0 es)) (ticksOf es) j (lostZ p.1 under none (decsZ 0 es)) sd k) : r ∈ boundsOf p es j under sd :=
  List.mem_flatMap.mpr ⟨k, List.mem_range.mpr h, hr⟩
theorem bounds_walkK (p : Snd) (es : List Ent) (j : Bool) (under : List Str) (sd : Said) {k : Nat} (h : k < szZ p es j sd) :
    (∃ x, Walk (boundsOf p es j under sd) (2 * k + 1) 0 x) ∧ ∃ x, Walk (boundsOf p es j under sd) (2 * k + 2) 0 x := by
  have go : ∀ k, k < szZ p es j sd → (2 * k + 1, 2 * k + 2, 0) ∈ boundsOf p es j under sd := fun k h => bk_mem h (by unfold boundsK rulesZ; simp)
  have heard : ∀ k, k < szZ p es j sd → k < (beginsZ p.1 (msgZ 0 es)).length → ∃ x, Walk (boundsOf p es j under sd) (2 * k + 2) 0 x := fun k h hk => by
    obtain ⟨b, hb⟩ : ∃ b, (beginsZ p.1 (msgZ 0 es))[k]? = some b := ⟨_, List.getElem?_eq_getElem hk⟩
    exact walk_two (v := 0) (a := 0 - b) (bk_mem h (by unfold boundsK; rw [hb]; simp)) ⟨_, .nil 0⟩
  suffices hs : ∃ x, Walk (boundsOf p es j under sd) (2 * k + 2) 0 x from ⟨walk_two (go k h) hs, hs⟩
  by_cases hk : k < (beginsZ p.1 (msgZ 0 es)).length
  · exact heard k h hk
  by_cases hw : k = (beginsZ p.1 (msgZ 0 es)).length ∧ sd = .waiting
  · obtain ⟨e, rfl⟩ := hw
    exact walk_two (v := 0) (a := 0 - ticksOf es) (bk_mem h (by unfold boundsK; simp [e])) ⟨_, .nil 0⟩
  have hu : k < (beginsZ p.1 (msgZ 0 es)).length + unhZ (inLog p.2 j) (beginsZ p.1 (msgZ 0 es)).length (endsZ (inLog p.2 j) (msgZ 0 es)).length := by
    have h2 := h
    unfold szZ totalZ at h2
    cases sd with
    | no => simpa using h2
    | quiet => simpa using h2
    | waiting =>
      simp only at h2
      have : k ≠ (beginsZ p.1 (msgZ 0 es)).length := fun e => hw ⟨e, rfl⟩
      omega
  generalize hh : inLog p.2 j = hb at hu
  cases hb with
  | free =>
    rw [show unhZ Hab.free _ _ = 0 from rfl] at hu
    omega
  | spaced b w pz l =>
    cases pz with
    | none =>
      rw [show unhZ (Hab.spaced b w none l) _ _ = 0 from rfl] at hu
      omega
    | some x =>
      unfold unhZ at hu
      simp only at hu
      have k0 : 0 < k ∧ k - 1 < (beginsZ p.1 (msgZ 0 es)).length := by split at hu <;> omega
      have h1 : k - 1 < szZ p es j sd := by omega
      have e1 := walk_two (go (k - 1) h1) (heard (k - 1) h1 k0.2)
      rw [show 2 * (k - 1) + 1 = 2 * k - 1 by omega] at e1
      refine walk_two (v := 2 * k + 1) (a := 0 - l) (bk_mem h (by unfold boundsK rulesZ; rw [hh]; simp)) ?_
      refine walk_two (v := 2 * k - 1) (a := 0 - x) (bk_mem h (by unfold boundsK rulesZ; rw [hh]; simp [k0.1])) e1
  | answ src a m l =>
    have h3 : k < (endsZ (.answ src a m l) (msgZ 0 es)).length := by
      unfold unhZ at hu
      simp only at hu
      omega
    obtain ⟨e, he⟩ : ∃ e, (endsZ (.answ src a m l) (msgZ 0 es))[k]? = some e := ⟨_, List.getElem?_eq_getElem h3⟩
    refine walk_two (v := 2 * k + 1) (a := 0 - l) (bk_mem h (by unfold boundsK rulesZ; rw [hh]; simp)) ?_
    exact walk_two (v := 0) (a := 0 - e - m) (bk_mem h (by unfold boundsK rulesZ; rw [hh]; simp only [he]; simp)) ⟨_, .nil 0⟩
theorem bounds_some {p : Snd} {es : List Ent} {j : Bool} {under : List Str} {sd : Said} {N : Nat} {f : Nat → Option Int} (L : LatOk (boundsOf p es j under sd) N f) {v : Nat} (h : v < 2 * szZ p es j sd + 1) : ∃ x, f v = some x := by
  have wk : ∃ x, Walk (boundsOf p es j under sd) v 0 x := by
    cases v with
    | zero => exact ⟨_, .nil 0⟩
    | succ v =>
      rcases Nat.mod_two_eq_zero_or_one v with e | e
      · have := (bounds_walkK p es j under sd (k := v / 2) (by omega)).1
        rw [show 2 * (v / 2) + 1 = v + 1 by omega] at this
        exact this
      · have := (bounds_walkK p es j under sd (k := v / 2) (by omega)).2
        rw [show 2 * (v / 2) + 2 = v + 1 by omega] at this
        exact this
  obtain ⟨x, hx⟩ := wk
  obtain ⟨y, hy, _⟩ := fix_walk L.1 hx L.2.1
  exact ⟨y, hy⟩
def momsP (t : Nat) (f : Nat → Option Int) : List (Int × Int) := (List.range t).map fun k => ((f (2 * k + 1)).getD 0, (f (2 * k + 2)).getD 0)
theorem moms_pairs {p : Snd} {es : List Ent} {j : Bool} {under : List Str} {sd : Said} {N : Nat} {f : Nat → Option Int} (L : LatOk (boundsOf p es j under sd) N f) : pairsZ (szZ p es j sd) f = (momsP (szZ p es j sd) f).map mpD := by
  unfold pairsZ momsP
  rw [List.map_map]
  refine List.map_congr_left fun k hk => ?_
  have hk := List.mem_range.mp hk
  obtain ⟨x, hx⟩ := bounds_some L (v := 2 * k + 1) (by omega)
  obtain ⟨y, hy⟩ := bounds_some L (v := 2 * k + 2) (by omega)
  show D.tup [optD (f (2 * k + 1)), optD (f (2 * k + 2))] = mpD ((f (2 * k + 1)).getD 0, (f (2 * k + 2)).getD 0)
  rw [hx, hy]
  rfl
end HP
namespace HP
open PySem PySem.Spec PyProof.Rows L2 VT
def FateD (K : PySem.W.Frag) (hs : List Snd) (es : List Ent) (j : Bool) (p : Snd) (u : List Str) (sd : Said) (d : D) : Prop :=
  (∃ l, RingOk (boundsOf p es j u sd) (2 * szZ p es j sd + 1) l ∧ d = impoD K (wireD K hs) (logD K es j) (.str p.1) (u.map .str) sd.D (.lst (l.map bndD))) ∨
    ∃ f, LatOk (boundsOf p es j u sd) (2 * szZ p es j sd + 1) f ∧ d = possD K (wireD K hs) (logD K es j) (.str p.1) (u.map .str) sd.D (.lst (pairsZ (szZ p es j sd) f))
end HP
namespace HP
open PySem PySem.Spec PyProof.Rows L2 VT
def sLt (a b : Str) : Prop := a.cps.toList < b.cps.toList
def AscS (l : List Str) : Prop := l.Pairwise sLt
def outZ (l : List Str) (n : Str) : List Str := l.filter fun x => decide (x ≠ n)
end HP
namespace HP
open PySem PySem.Spec PyProof.Rows L2 VT
def Sat (rows : List RowZ) : Prop := ∃ p : Nat → Int, p 0 = 0 ∧ ∀ r ∈ rows, p r.1 + r.2.2 ≤ p r.2.1
structure Fam where
  hs : List Snd
  logs : List (List Ent × Bool)
  qt : Option Str
  wt : Option Str
  nm : List Str
structure Fam.Ok (F : Fam) : Prop where
  asc : AscS F.nm
  pm : F.nm.Perm (F.hs.map (·.1))
  nd : (F.hs.map (·.1)).Nodup
  good : ∀ p ∈ F.hs, p.good
  six : F.hs.length ≤ 6
  logs : ∀ l ∈ F.logs, (∀ e ∈ l.1, okE e) ∧ l.1.length ≤ 41
  few : F.logs.length ≤ 100
def Fam.said (F : Fam) (i : Nat) (n : Str) : Said := if i + 1 = F.logs.length then (if F.wt = some n then .waiting else if F.qt = some n then .quiet else .no) else .no
def Fam.hab (F : Fam) (n : Str) : Hab := (hFind F.hs n).getD .free
def Fam.can (F : Fam) (n : Str) (u : List Str) : Prop := ∀ (i : Nat) (l : List Ent × Bool), F.logs[i]? = some l → Sat (boundsOf (n, F.hab n) l.1 l.2 u (F.said i n))
open Classical in
noncomputable def Fam.lead (F : Fam) (l : List Str) : List Str := l.filter fun n => decide (F.can n (outZ l n))
noncomputable def Fam.wayN (F : Fam) : Nat → List Str → Nat
  | 0, _ => 1
  | k + 1, l => ((F.lead l).map fun n => F.wayN k (outZ l n)).sum
noncomputable def Fam.way (F : Fam) (l : List Str) : Nat := F.wayN l.length l
def optS : Option Str → D
  | none => .non
  | some z => .str z
def Fam.logD (K : PySem.W.Frag) (F : Fam) : List D := F.logs.map fun l => HP.logD K l.1 l.2
def keyL (l : List Str) : List Key := l.map .inr
def Fam.LeadOk (F : Fam) (kl : List (List Key × D)) (P : List Str → Prop) : Prop := ∀ l : List Str, l.Sublist F.nm → P l → valT kl (keyL l) = some (tupS (F.lead l))
def Fam.WayOk (F : Fam) (kw : List (List Key × D)) (P : List Str → Prop) : Prop := ∀ l : List Str, l.Sublist F.nm → P l → valT kw (keyL l) = some (.int (F.way l : Nat))
def famU (K : PySem.W.Frag) (F : Fam) (x y : FV) (zs : List (Str × FV)) : List (Str × FV) := ("own_wire", .tr (wireD K F.hs)) :: ("own_logs", .tr (.tup (F.logD K))) :: ("quiet", .tr (optS F.qt)) :: ("waiting", .tr (optS F.wt)) :: ("own_names", x) :: ("leads", y) :: zs
def FamV (K : PySem.W.Frag) (F : Fam) (kl : List (List Key × D)) (s : SV) : Prop := ∃ x y zs, s.ins? = some (He.ga K "Family", famU K F x y zs) ∧ (x = .tr (.lst (F.nm.map .str)) ∨ (∃ C fs, s = .bob C fs) ∧ x = .own (.lst (F.nm.map .str))) ∧ y.sv.d = .dit kl ∧ (zs = [] ∨ ∃ w, zs = [(("ways" : Str), w)]) ∧ s.look = s ∧ s.arg = s
def famF (K : PySem.W.Frag) (F : Fam) (kl kw : List (List Key × D)) : List (Str × D) := [("own_wire", wireD K F.hs), ("own_logs", .tup (F.logD K)), ("quiet", optS F.qt), ("waiting", optS F.wt), ("own_names", .lst (F.nm.map .str)), ("leads", .dit kl), ("ways", .dit kw)]
def FamD (K : PySem.W.Frag) (F : Fam) (d : D) : Prop := ∃ kl kw, d = .ins (He.ga K "Family") (famF K F kl kw) ∧ F.LeadOk kl (fun _ => True) ∧ F.WayOk kw fun _ => True
theorem FamD.v {K : PySem.W.Frag} {F : Fam} {d : D} (h : FamD K F d) : ∃ kl, FamV K F kl (.tr d) ∧ F.LeadOk kl fun _ => True := by
  obtain ⟨kl, kw, rfl, h1, _⟩ := h
  exact ⟨kl, ⟨_, _, [("ways", .tr (.dit kw))], rfl, .inl rfl, rfl, .inr ⟨_, rfl⟩, rfl, rfl⟩, h1⟩
end HP
namespace HP
open PySem PySem.Spec PyProof.Rows L2 VT
theorem FateD.cases {K : PySem.W.Frag} {hs : List Snd} {es : List Ent} {j : Bool} {p : Snd} {u : List Str} {sd : Said} {d : D} (h : FateD K hs es j p u sd d) :
    (∃ f, LatOk (boundsOf p es j u sd) (2 * szZ p es j sd + 1) f ∧ d = possD K (wireD K hs) (HP.logD K es j) (.str p.1) (u.map .str) sd.D (.lst ((momsP (szZ p es j sd) f).map mpD))) ∨
    (∃ l, RingOk (boundsOf p es j u sd) (2 * szZ p es j sd + 1) l ∧ d = impoD K (wireD K hs) (HP.logD K es j) (.str p.1) (u.map .str) sd.D (.lst (l.map bndD))) := by
  rcases h with ⟨l, hl, rfl⟩ | ⟨f, hf, rfl⟩
  · exact .inr ⟨l, hl, rfl⟩
  · exact .inl ⟨f, hf, by rw [moms_pairs hf]⟩
theorem FamD.at_ {K : PySem.W.Frag} {F : Fam} {d : D} (h : FamD K F d) : ∃ fs, (SV.tr d).ins? = some (He.ga K "Family", fs) ∧ ∀ m : Str, (([("own_wire" : Str), "own_logs", "quiet", "waiting", "own_names", "leads", "ways"]).all fun x => !decide (m = x)) = true → ∀ (a : Str) (b : FV), (a, b) ∈ fs → ¬ m = a := by
  obtain ⟨kl, kw, rfl, _, _⟩ := h
  exact ⟨_, rfl, fun m hm => noA hm⟩
end HP
namespace HP
open PySem PySem.Spec PyProof.Rows L2 VT
def errF : List (Str × Str) := [("InvalidName", "given"), ("InvalidHabit", "word"), ("InvalidSender", "at"), ("DuplicateName", "name"), ("TooMany", "most"), ("InvalidEntry", "at"), ("InvalidOrder", "given"), ("InvalidPlan", "name"), ("InvalidNumber", "given"), ("InvalidLimit", "given"),
  ("InvalidPage", "line"), ("Full", "most"), ("UnknownName", "name"), ("UnknownMessage", "number"), ("UnknownLog", "number")]
def fLField (K : PySem.W.Frag) : FSp := fun svs Qs => ∃ n f v, svs = [.tr (.exn (He.ga K n) [(f, v), ("code", .str n)])] ∧ (n, f) ∈ errF ∧ Qs (.tr v)
theorem fLField_go {K : PySem.W.Frag} {n f : Str} {v : D} {Qs : SV → Prop} (h : (n, f) ∈ errF) (q : Qs (.tr v)) : fLField K [.tr (.exn (He.ga K n) [(f, v), ("code", .str n)])] Qs := ⟨n, f, v, rfl, h, q⟩
def errA : List (Str × Option Str) := [("InvalidName", some "given"), ("InvalidHabit", some "word"), ("InvalidSender", some "at"), ("DuplicateName", some "name"), ("TooMany", some "most"), ("InvalidEntry", some "at"), ("InvalidOrder", some "given"), ("InvalidPlan", some "name"), ("InvalidNumber", some "given"), ("InvalidLimit", some "given"), ("InvalidText", none),
  ("InvalidPage", some "line"), ("OtherNames", none), ("NoOrder", none), ("Full", some "most"), ("UnknownName", some "name"), ("UnknownMessage", some "number"), ("UnknownLog", some "number"), ("NothingLeft", none)]
def exnD (K : PySem.W.Frag) (v : D) (x : Str × Option Str) : D := .exn (He.ga K x.1) (match x.2 with
  | some f => [(f, v), ("code", .str x.1)]
  | none => [("code", .str x.1)])
end HP
namespace K60
open PySem PySem.Spec PyProof.Rows L2 VT HP
section
variable {P : Program} {w : World} {K : PySem.W.Frag} {mg : Str → Option Value} {base : Heap}
theorem ok_lfield (h : DefAt K mg d__law_field) (T : Facts mg) (XX : XF P w K mg base) : FnV P w K mg base d__law_field 1 ["_law_e"] (fLField K) :=
  fnv_ok h sc__law_field (fun f cdv A outer s H E hr => (vss_cons (vs_if (vc_cmp (ow_in hr.units (hu65 hr)) (ve_xat [He.ga _ "NothingLeft", He.ga _ "InvalidName", He.ga _ "InvalidHabit", He.ga _ "InvalidSender", He.ga _ "DuplicateName", He.ga _ "TooMany", He.ga _ "InvalidEntry", He.ga _ "InvalidOrder", He.ga _ "InvalidPlan", He.ga _ "InvalidNumber", He.ga _ "InvalidLimit", He.ga _ "InvalidText", He.ga _ "InvalidPage", He.ga _ "OtherNames", He.ga _ "NoOrder", He.ga _ "Full", He.ga _ "UnknownName", He.ga _ "UnknownMessage", He.ga _ "UnknownLog"] (List.forall_mem_cons.mpr ⟨XX.c_NothingLeft, (List.forall_mem_cons.mpr ⟨XX.c_InvalidName, (List.forall_mem_cons.mpr ⟨XX.c_InvalidHabit, (List.forall_mem_cons.mpr ⟨XX.c_InvalidSender, (List.forall_mem_cons.mpr ⟨XX.c_DuplicateName, (List.forall_mem_cons.mpr ⟨XX.c_TooMany, (List.forall_mem_cons.mpr ⟨XX.c_InvalidEntry, (List.forall_mem_cons.mpr ⟨XX.c_InvalidOrder, (List.forall_mem_cons.mpr ⟨XX.c_InvalidPlan, (List.forall_mem_cons.mpr ⟨XX.c_InvalidNumber, (List.forall_mem_cons.mpr ⟨XX.c_InvalidLimit, (List.forall_mem_cons.mpr ⟨XX.c_InvalidText, (List.forall_mem_cons.mpr ⟨XX.c_InvalidPage, (List.forall_mem_cons.mpr ⟨XX.c_OtherNames, (List.forall_mem_cons.mpr ⟨XX.c_NoOrder, (List.forall_mem_cons.mpr ⟨XX.c_Full, (List.forall_mem_cons.mpr ⟨XX.c_UnknownName, (List.forall_mem_cons.mpr ⟨XX.c_UnknownMessage, (List.forall_mem_cons.mpr ⟨XX.c_UnknownLog, (fun _ h => nomatch h)⟩)⟩)⟩)⟩)⟩)⟩)⟩)⟩)⟩)⟩)⟩)⟩)⟩)⟩)⟩)⟩)⟩)⟩)⟩) (ve_name 0)) (ve_lst (va_cons ve_str (va_cons ve_str (va_cons ve_str (va_cons ve_str va_nil)))))) (vss_one (vs_ret (ve_xat [He.ga _ "InvalidName", He.ga _ "InvalidOrder", He.ga _ "InvalidNumber", He.ga _ "InvalidLimit"] (List.forall_mem_cons.mpr ⟨XX.f_InvalidName, (List.forall_mem_cons.mpr ⟨XX.f_InvalidOrder, (List.forall_mem_cons.mpr ⟨XX.f_InvalidNumber, (List.forall_mem_cons.mpr ⟨XX.f_InvalidLimit, (fun _ h => nomatch h)⟩)⟩)⟩)⟩) (ve_name 0)))) vss_nil) (vss_cons (vs_if (vc_cmp (ow_in hr.units (hu65 hr)) (ve_xat [He.ga _ "NothingLeft", He.ga _ "InvalidName", He.ga _ "InvalidHabit", He.ga _ "InvalidSender", He.ga _ "DuplicateName", He.ga _ "TooMany", He.ga _ "InvalidEntry", He.ga _ "InvalidOrder", He.ga _ "InvalidPlan", He.ga _ "InvalidNumber", He.ga _ "InvalidLimit", He.ga _ "InvalidText", He.ga _ "InvalidPage", He.ga _ "OtherNames", He.ga _ "NoOrder", He.ga _ "Full", He.ga _ "UnknownName", He.ga _ "UnknownMessage", He.ga _ "UnknownLog"] (List.forall_mem_cons.mpr ⟨XX.c_NothingLeft, (List.forall_mem_cons.mpr ⟨XX.c_InvalidName, (List.forall_mem_cons.mpr ⟨XX.c_InvalidHabit, (List.forall_mem_cons.mpr ⟨XX.c_InvalidSender, (List.forall_mem_cons.mpr ⟨XX.c_DuplicateName, (List.forall_mem_cons.mpr ⟨XX.c_TooMany, (List.forall_mem_cons.mpr ⟨XX.c_InvalidEntry, (List.forall_mem_cons.mpr ⟨XX.c_InvalidOrder, (List.forall_mem_cons.mpr ⟨XX.c_InvalidPlan, (List.forall_mem_cons.mpr ⟨XX.c_InvalidNumber, (List.forall_mem_cons.mpr ⟨XX.c_InvalidLimit, (List.forall_mem_cons.mpr ⟨XX.c_InvalidText, (List.forall_mem_cons.mpr ⟨XX.c_InvalidPage, (List.forall_mem_cons.mpr ⟨XX.c_OtherNames, (List.forall_mem_cons.mpr ⟨XX.c_NoOrder, (List.forall_mem_cons.mpr ⟨XX.c_Full, (List.forall_mem_cons.mpr ⟨XX.c_UnknownName, (List.forall_mem_cons.mpr ⟨XX.c_UnknownMessage, (List.forall_mem_cons.mpr ⟨XX.c_UnknownLog, (fun _ h => nomatch h)⟩)⟩)⟩)⟩)⟩)⟩)⟩)⟩)⟩)⟩)⟩)⟩)⟩)⟩)⟩)⟩)⟩)⟩)⟩) (ve_name 0)) (ve_lst (va_cons ve_str (va_cons ve_str (va_cons ve_str va_nil))))) (vss_one (vs_ret (ve_xat [He.ga _ "DuplicateName", He.ga _ "InvalidPlan", He.ga _ "UnknownName"] (List.forall_mem_cons.mpr ⟨XX.f_DuplicateName, (List.forall_mem_cons.mpr ⟨XX.f_InvalidPlan, (List.forall_mem_cons.mpr ⟨XX.f_UnknownName, (fun _ h => nomatch h)⟩)⟩)⟩) (ve_name 0)))) vss_nil) (vss_cons (vs_if (vc_cmp (ow_in hr.units (hu65 hr)) (ve_xat [He.ga _ "NothingLeft", He.ga _ "InvalidName", He.ga _ "InvalidHabit", He.ga _ "InvalidSender", He.ga _ "DuplicateName", He.ga _ "TooMany", He.ga _ "InvalidEntry", He.ga _ "InvalidOrder", He.ga _ "InvalidPlan", He.ga _ "InvalidNumber", He.ga _ "InvalidLimit", He.ga _ "InvalidText", He.ga _ "InvalidPage", He.ga _ "OtherNames", He.ga _ "NoOrder", He.ga _ "Full", He.ga _ "UnknownName", He.ga _ "UnknownMessage", He.ga _ "UnknownLog"] (List.forall_mem_cons.mpr ⟨XX.c_NothingLeft, (List.forall_mem_cons.mpr ⟨XX.c_InvalidName, (List.forall_mem_cons.mpr ⟨XX.c_InvalidHabit, (List.forall_mem_cons.mpr ⟨XX.c_InvalidSender, (List.forall_mem_cons.mpr ⟨XX.c_DuplicateName, (List.forall_mem_cons.mpr ⟨XX.c_TooMany, (List.forall_mem_cons.mpr ⟨XX.c_InvalidEntry, (List.forall_mem_cons.mpr ⟨XX.c_InvalidOrder, (List.forall_mem_cons.mpr ⟨XX.c_InvalidPlan, (List.forall_mem_cons.mpr ⟨XX.c_InvalidNumber, (List.forall_mem_cons.mpr ⟨XX.c_InvalidLimit, (List.forall_mem_cons.mpr ⟨XX.c_InvalidText, (List.forall_mem_cons.mpr ⟨XX.c_InvalidPage, (List.forall_mem_cons.mpr ⟨XX.c_OtherNames, (List.forall_mem_cons.mpr ⟨XX.c_NoOrder, (List.forall_mem_cons.mpr ⟨XX.c_Full, (List.forall_mem_cons.mpr ⟨XX.c_UnknownName, (List.forall_mem_cons.mpr ⟨XX.c_UnknownMessage, (List.forall_mem_cons.mpr ⟨XX.c_UnknownLog, (fun _ h => nomatch h)⟩)⟩)⟩)⟩)⟩)⟩)⟩)⟩)⟩)⟩)⟩)⟩)⟩)⟩)⟩)⟩)⟩)⟩)⟩) (ve_name 0)) (ve_lst (va_cons ve_str (va_cons ve_str va_nil)))) (vss_one (vs_ret (ve_xat [He.ga _ "InvalidSender", He.ga _ "InvalidEntry"] (List.forall_mem_cons.mpr ⟨XX.f_InvalidSender, (List.forall_mem_cons.mpr ⟨XX.f_InvalidEntry, (fun _ h => nomatch h)⟩)⟩) (ve_name 0)))) vss_nil) (vss_cons (vs_if (vc_cmp (ow_in hr.units (hu65 hr)) (ve_xat [He.ga _ "NothingLeft", He.ga _ "InvalidName", He.ga _ "InvalidHabit", He.ga _ "InvalidSender", He.ga _ "DuplicateName", He.ga _ "TooMany", He.ga _ "InvalidEntry", He.ga _ "InvalidOrder", He.ga _ "InvalidPlan", He.ga _ "InvalidNumber", He.ga _ "InvalidLimit", He.ga _ "InvalidText", He.ga _ "InvalidPage", He.ga _ "OtherNames", He.ga _ "NoOrder", He.ga _ "Full", He.ga _ "UnknownName", He.ga _ "UnknownMessage", He.ga _ "UnknownLog"] (List.forall_mem_cons.mpr ⟨XX.c_NothingLeft, (List.forall_mem_cons.mpr ⟨XX.c_InvalidName, (List.forall_mem_cons.mpr ⟨XX.c_InvalidHabit, (List.forall_mem_cons.mpr ⟨XX.c_InvalidSender, (List.forall_mem_cons.mpr ⟨XX.c_DuplicateName, (List.forall_mem_cons.mpr ⟨XX.c_TooMany, (List.forall_mem_cons.mpr ⟨XX.c_InvalidEntry, (List.forall_mem_cons.mpr ⟨XX.c_InvalidOrder, (List.forall_mem_cons.mpr ⟨XX.c_InvalidPlan, (List.forall_mem_cons.mpr ⟨XX.c_InvalidNumber, (List.forall_mem_cons.mpr ⟨XX.c_InvalidLimit, (List.forall_mem_cons.mpr ⟨XX.c_InvalidText, (List.forall_mem_cons.mpr ⟨XX.c_InvalidPage, (List.forall_mem_cons.mpr ⟨XX.c_OtherNames, (List.forall_mem_cons.mpr ⟨XX.c_NoOrder, (List.forall_mem_cons.mpr ⟨XX.c_Full, (List.forall_mem_cons.mpr ⟨XX.c_UnknownName, (List.forall_mem_cons.mpr ⟨XX.c_UnknownMessage, (List.forall_mem_cons.mpr ⟨XX.c_UnknownLog, (fun _ h => nomatch h)⟩)⟩)⟩)⟩)⟩)⟩)⟩)⟩)⟩)⟩)⟩)⟩)⟩)⟩)⟩)⟩)⟩)⟩)⟩) (ve_name 0)) (ve_lst (va_cons ve_str (va_cons ve_str va_nil)))) (vss_one (vs_ret (ve_xat [He.ga _ "TooMany", He.ga _ "Full"] (List.forall_mem_cons.mpr ⟨XX.f_TooMany, (List.forall_mem_cons.mpr ⟨XX.f_Full, (fun _ h => nomatch h)⟩)⟩) (ve_name 0)))) vss_nil) (vss_cons (vs_if (vc_cmp (ow_in hr.units (hu65 hr)) (ve_xat [He.ga _ "NothingLeft", He.ga _ "InvalidName", He.ga _ "InvalidHabit", He.ga _ "InvalidSender", He.ga _ "DuplicateName", He.ga _ "TooMany", He.ga _ "InvalidEntry", He.ga _ "InvalidOrder", He.ga _ "InvalidPlan", He.ga _ "InvalidNumber", He.ga _ "InvalidLimit", He.ga _ "InvalidText", He.ga _ "InvalidPage", He.ga _ "OtherNames", He.ga _ "NoOrder", He.ga _ "Full", He.ga _ "UnknownName", He.ga _ "UnknownMessage", He.ga _ "UnknownLog"] (List.forall_mem_cons.mpr ⟨XX.c_NothingLeft, (List.forall_mem_cons.mpr ⟨XX.c_InvalidName, (List.forall_mem_cons.mpr ⟨XX.c_InvalidHabit, (List.forall_mem_cons.mpr ⟨XX.c_InvalidSender, (List.forall_mem_cons.mpr ⟨XX.c_DuplicateName, (List.forall_mem_cons.mpr ⟨XX.c_TooMany, (List.forall_mem_cons.mpr ⟨XX.c_InvalidEntry, (List.forall_mem_cons.mpr ⟨XX.c_InvalidOrder, (List.forall_mem_cons.mpr ⟨XX.c_InvalidPlan, (List.forall_mem_cons.mpr ⟨XX.c_InvalidNumber, (List.forall_mem_cons.mpr ⟨XX.c_InvalidLimit, (List.forall_mem_cons.mpr ⟨XX.c_InvalidText, (List.forall_mem_cons.mpr ⟨XX.c_InvalidPage, (List.forall_mem_cons.mpr ⟨XX.c_OtherNames, (List.forall_mem_cons.mpr ⟨XX.c_NoOrder, (List.forall_mem_cons.mpr ⟨XX.c_Full, (List.forall_mem_cons.mpr ⟨XX.c_UnknownName, (List.forall_mem_cons.mpr ⟨XX.c_UnknownMessage, (List.forall_mem_cons.mpr ⟨XX.c_UnknownLog, (fun _ h => nomatch h)⟩)⟩)⟩)⟩)⟩)⟩)⟩)⟩)⟩)⟩)⟩)⟩)⟩)⟩)⟩)⟩)⟩)⟩)⟩) (ve_name 0)) (ve_lst (va_cons ve_str (va_cons ve_str va_nil)))) (vss_one (vs_ret (ve_xat [He.ga _ "UnknownMessage", He.ga _ "UnknownLog"] (List.forall_mem_cons.mpr ⟨XX.f_UnknownMessage, (List.forall_mem_cons.mpr ⟨XX.f_UnknownLog, (fun _ h => nomatch h)⟩)⟩) (ve_name 0)))) vss_nil) (vss_cons (vs_if (vc_cmp (ow_eq hr.units) (ve_xat [He.ga _ "NothingLeft", He.ga _ "InvalidName", He.ga _ "InvalidHabit", He.ga _ "InvalidSender", He.ga _ "DuplicateName", He.ga _ "TooMany", He.ga _ "InvalidEntry", He.ga _ "InvalidOrder", He.ga _ "InvalidPlan", He.ga _ "InvalidNumber", He.ga _ "InvalidLimit", He.ga _ "InvalidText", He.ga _ "InvalidPage", He.ga _ "OtherNames", He.ga _ "NoOrder", He.ga _ "Full", He.ga _ "UnknownName", He.ga _ "UnknownMessage", He.ga _ "UnknownLog"] (List.forall_mem_cons.mpr ⟨XX.c_NothingLeft, (List.forall_mem_cons.mpr ⟨XX.c_InvalidName, (List.forall_mem_cons.mpr ⟨XX.c_InvalidHabit, (List.forall_mem_cons.mpr ⟨XX.c_InvalidSender, (List.forall_mem_cons.mpr ⟨XX.c_DuplicateName, (List.forall_mem_cons.mpr ⟨XX.c_TooMany, (List.forall_mem_cons.mpr ⟨XX.c_InvalidEntry, (List.forall_mem_cons.mpr ⟨XX.c_InvalidOrder, (List.forall_mem_cons.mpr ⟨XX.c_InvalidPlan, (List.forall_mem_cons.mpr ⟨XX.c_InvalidNumber, (List.forall_mem_cons.mpr ⟨XX.c_InvalidLimit, (List.forall_mem_cons.mpr ⟨XX.c_InvalidText, (List.forall_mem_cons.mpr ⟨XX.c_InvalidPage, (List.forall_mem_cons.mpr ⟨XX.c_OtherNames, (List.forall_mem_cons.mpr ⟨XX.c_NoOrder, (List.forall_mem_cons.mpr ⟨XX.c_Full, (List.forall_mem_cons.mpr ⟨XX.c_UnknownName, (List.forall_mem_cons.mpr ⟨XX.c_UnknownMessage, (List.forall_mem_cons.mpr ⟨XX.c_UnknownLog, (fun _ h => nomatch h)⟩)⟩)⟩)⟩)⟩)⟩)⟩)⟩)⟩)⟩)⟩)⟩)⟩)⟩)⟩)⟩)⟩)⟩)⟩) (ve_name 0)) ve_str) (vss_one (vs_ret (ve_xat [He.ga _ "InvalidHabit"] (List.forall_mem_cons.mpr ⟨XX.f_InvalidHabit, (fun _ h => nomatch h)⟩) (ve_name 0)))) vss_nil) (vss_one (vs_ret (ve_if (vc_cmp (ow_eq hr.units) (ve_xat [He.ga _ "NothingLeft", He.ga _ "InvalidName", He.ga _ "InvalidHabit", He.ga _ "InvalidSender", He.ga _ "DuplicateName", He.ga _ "TooMany", He.ga _ "InvalidEntry", He.ga _ "InvalidOrder", He.ga _ "InvalidPlan", He.ga _ "InvalidNumber", He.ga _ "InvalidLimit", He.ga _ "InvalidText", He.ga _ "InvalidPage", He.ga _ "OtherNames", He.ga _ "NoOrder", He.ga _ "Full", He.ga _ "UnknownName", He.ga _ "UnknownMessage", He.ga _ "UnknownLog"] (List.forall_mem_cons.mpr ⟨XX.c_NothingLeft, (List.forall_mem_cons.mpr ⟨XX.c_InvalidName, (List.forall_mem_cons.mpr ⟨XX.c_InvalidHabit, (List.forall_mem_cons.mpr ⟨XX.c_InvalidSender, (List.forall_mem_cons.mpr ⟨XX.c_DuplicateName, (List.forall_mem_cons.mpr ⟨XX.c_TooMany, (List.forall_mem_cons.mpr ⟨XX.c_InvalidEntry, (List.forall_mem_cons.mpr ⟨XX.c_InvalidOrder, (List.forall_mem_cons.mpr ⟨XX.c_InvalidPlan, (List.forall_mem_cons.mpr ⟨XX.c_InvalidNumber, (List.forall_mem_cons.mpr ⟨XX.c_InvalidLimit, (List.forall_mem_cons.mpr ⟨XX.c_InvalidText, (List.forall_mem_cons.mpr ⟨XX.c_InvalidPage, (List.forall_mem_cons.mpr ⟨XX.c_OtherNames, (List.forall_mem_cons.mpr ⟨XX.c_NoOrder, (List.forall_mem_cons.mpr ⟨XX.c_Full, (List.forall_mem_cons.mpr ⟨XX.c_UnknownName, (List.forall_mem_cons.mpr ⟨XX.c_UnknownMessage, (List.forall_mem_cons.mpr ⟨XX.c_UnknownLog, (fun _ h => nomatch h)⟩)⟩)⟩)⟩)⟩)⟩)⟩)⟩)⟩)⟩)⟩)⟩)⟩)⟩)⟩)⟩)⟩)⟩)⟩) (ve_name 0)) ve_str) (ve_xat [He.ga _ "InvalidPage"] (List.forall_mem_cons.mpr ⟨XX.f_InvalidPage, (fun _ h => nomatch h)⟩) (ve_name 0)) ve_non)))))))))) (by rintro svs Qs ⟨_, _, _, rfl, _⟩; rfl) (by
    rintro svs Qs ⟨n, f, v, rfl, hm, q⟩
    simp only [errF, List.mem_cons, Prod.mk.injEq, List.not_mem_nil, or_false] at hm
    rcases hm with ⟨rfl, rfl⟩ | ⟨rfl, rfl⟩ | ⟨rfl, rfl⟩ | ⟨rfl, rfl⟩ | ⟨rfl, rfl⟩ | ⟨rfl, rfl⟩ | ⟨rfl, rfl⟩ | ⟨rfl, rfl⟩ | ⟨rfl, rfl⟩ | ⟨rfl, rfl⟩ | ⟨rfl, rfl⟩ | ⟨rfl, rfl⟩ | ⟨rfl, rfl⟩ | ⟨rfl, rfl⟩ | ⟨rfl, rfl⟩
    all_goals
      repeat first
        | exact q
        | refine gSeq_go fun R hR => ?_
        | simp
        | refine ⟨_, rfl, ?_⟩
        | (rw [hR]; clear hR R))
end
end K60
namespace K60
open PySem PySem.Spec PyProof.Rows L2 VT HP
section
variable {P : Program} {w : World} {K : PySem.W.Frag} {mg : Str → Option Value} {base : Heap}
theorem ok_law (T : Facts mg) (XX : XF P w K mg base) (hTB : TabBs K mg base) (hB : DefAt K mg d__law_bag) (c__law_draw : FnV P w K mg base d__law_draw 1 ["_law_bag_here", "_law_many"] fDraw) (c__law_pick : FnV P w K mg base d__law_pick 2 ["_law_bag_here", "_law_some"] fPickT) (c__law_field : FnV P w K mg base d__law_field 1 ["_law_e"] (fLField K)) (c__law_same : FnV P w K mg base d__law_same 4 ["_law_found", "_law_due"] (fSame 4)) :
    ∀ fd, FunD K d_law.name d_law.qual d_law.params d_law.body d_law.scope (d_law.dvs K) (d_law.kws K) (He.fAd K d_law.at_) fd → FnOk P w K mg base CX0 70 (He.fAd K d_law.at_) fd ["_law_script"] (spLaw K) := by
  obtain ⟨fdB, FB, GB⟩ := ok_bag (P := P) (w := w) (base := base) hB T
  have bB : Binds K fdB ["_law_script"] [] := FB.bindsN fun _ _ _ _ _ _ us hl => match us, hl with | [_], _ => rfl
  refine law_ok sc_law (fun f cdv A outer s H E hr => pss_cons (ps_set (i := 1) sc_law.nd rfl (by first | exact Or.inl rfl | exact Or.inr rfl) (pe_call GB (hr.mono (by omega)) (by rfl) hB.mg FB.kp bB .nil pass0 (pa_cons (pv 0) pa_nil))) (VSs.ex (vss_cons (vs_set (i := 2) sc_law.nd rfl (by first | exact Or.inl rfl | exact Or.inr rfl) (ve_cv c__law_pick (hr.mono (by omega)) rfl rfl rfl (fun _ _ _ _ _ _ us hl => match us, hl with | [_, _], _ => rfl) (by rfl) (va_cons (ve_name 1) (va_cons (ve_fz (ve_lst (va_cons ve_int (va_cons ve_int (va_cons ve_str (va_cons ve_non (va_cons (ve_tup (va_cons ve_int (va_cons ve_str va_nil))) (va_cons (ve_neg ve_int) (va_cons (ve_fz (ve_cv c__law_draw (hr.mono (by omega)) rfl rfl rfl (fun _ _ _ _ _ _ us hl => match us, hl with | [_, _], _ => rfl) (by rfl) (va_cons (ve_name 1) (va_cons (ve_fz (ve_op ow_pow ve_int ve_int)) va_nil)))) va_nil))))))))) va_nil)))) (vss_cons (vs_set (i := 3) sc_law.nd rfl (by first | exact Or.inl rfl | exact Or.inr rfl) (ve_lst (va_cons (ve_fz (ve_xmk XX.m_InvalidName (hr.mono (by omega)) (by rfl) (va_cons (ve_name 2) va_nil))) (va_cons (ve_fz (ve_xmk XX.m_InvalidHabit (hr.mono (by omega)) (by rfl) (va_cons (ve_name 2) va_nil))) (va_cons (ve_fz (ve_xmk XX.m_InvalidSender (hr.mono (by omega)) (by rfl) (va_cons (ve_name 2) va_nil))) (va_cons (ve_fz (ve_xmk XX.m_DuplicateName (hr.mono (by omega)) (by rfl) (va_cons (ve_name 2) va_nil))) (va_cons (ve_fz (ve_xmk XX.m_TooMany (hr.mono (by omega)) (by rfl) (va_cons (ve_name 2) va_nil))) (va_cons (ve_fz (ve_xmk XX.m_InvalidEntry (hr.mono (by omega)) (by rfl) (va_cons (ve_name 2) va_nil))) (va_cons (ve_fz (ve_xmk XX.m_InvalidOrder (hr.mono (by omega)) (by rfl) (va_cons (ve_name 2) va_nil))) (va_cons (ve_fz (ve_xmk XX.m_InvalidPlan (hr.mono (by omega)) (by rfl) (va_cons (ve_name 2) va_nil))) (va_cons (ve_fz (ve_xmk XX.m_InvalidNumber (hr.mono (by omega)) (by rfl) (va_cons (ve_name 2) va_nil))) (va_cons (ve_fz (ve_xmk XX.m_InvalidLimit (hr.mono (by omega)) (by rfl) (va_cons (ve_name 2) va_nil))) (va_cons (ve_fz (ve_xmk0 XX.m_InvalidText (hr.mono (by omega)) (by rfl))) (va_cons (ve_fz (ve_xmk XX.m_InvalidPage (hr.mono (by omega)) (by rfl) (va_cons (ve_name 2) va_nil))) (va_cons (ve_fz (ve_xmk0 XX.m_OtherNames (hr.mono (by omega)) (by rfl))) (va_cons (ve_fz (ve_xmk0 XX.m_NoOrder (hr.mono (by omega)) (by rfl))) (va_cons (ve_fz (ve_xmk XX.m_Full (hr.mono (by omega)) (by rfl) (va_cons (ve_name 2) va_nil))) (va_cons (ve_fz (ve_xmk XX.m_UnknownName (hr.mono (by omega)) (by rfl) (va_cons (ve_name 2) va_nil))) (va_cons (ve_fz (ve_xmk XX.m_UnknownMessage (hr.mono (by omega)) (by rfl) (va_cons (ve_name 2) va_nil))) (va_cons (ve_fz (ve_xmk XX.m_UnknownLog (hr.mono (by omega)) (by rfl) (va_cons (ve_name 2) va_nil))) (va_cons (ve_fz (ve_xmk0 XX.m_NothingLeft (hr.mono (by omega)) (by rfl))) va_nil))))))))))))))))))))) (vss_cons (vs_set (i := 4) sc_law.nd rfl (by first | exact Or.inl rfl | exact Or.inr rfl) (ve_lst (va_cons ve_str (va_cons ve_str (va_cons ve_str (va_cons ve_str (va_cons ve_str (va_cons ve_str (va_cons ve_str (va_cons ve_str (va_cons ve_str (va_cons ve_str (va_cons ve_str (va_cons ve_str (va_cons ve_str (va_cons ve_str (va_cons ve_str (va_cons ve_str (va_cons ve_str (va_cons ve_str (va_cons ve_str va_nil))))))))))))))))))))) (vss_cons (vs_for (by first | exact PassesOwn.never | exact passes_of rfl) rfl (vi_r1 (by rfl) T.range (va_cons ve_int va_nil)) (vg_name (i := 5) sc_law.nd rfl (by first | exact Or.inl rfl | exact Or.inr rfl)) (vss_cons (vs_set (i := 6) sc_law.nd rfl (by first | exact Or.inl rfl | exact Or.inr rfl) (ve_ixA (hu1 hr) (ve_name 3) (ve_name 5))) (vss_cons (vs_set (i := 7) sc_law.nd rfl (by first | exact Or.inl rfl | exact Or.inr rfl) (ve_lst (va_cons (ve_fz (ve_isX [(He.ga _ "NothingLeft", false), (He.ga _ "InvalidName", true), (He.ga _ "InvalidHabit", true), (He.ga _ "InvalidSender", true), (He.ga _ "DuplicateName", true), (He.ga _ "TooMany", true), (He.ga _ "InvalidEntry", true), (He.ga _ "InvalidOrder", true), (He.ga _ "InvalidPlan", true), (He.ga _ "InvalidNumber", true), (He.ga _ "InvalidLimit", true), (He.ga _ "InvalidText", true), (He.ga _ "InvalidPage", true), (He.ga _ "OtherNames", true), (He.ga _ "NoOrder", true), (He.ga _ "Full", true), (He.ga _ "UnknownName", false), (He.ga _ "UnknownMessage", false), (He.ga _ "UnknownLog", false)] (ve_name 6) (by rfl) T.isinstance (by rfl) XX.g_HeardError (isx_cons XX.i_NothingLeft XX.in_NothingLeft_HeardError (isx_cons XX.i_InvalidName XX.in_InvalidName_HeardError (isx_cons XX.i_InvalidHabit XX.in_InvalidHabit_HeardError (isx_cons XX.i_InvalidSender XX.in_InvalidSender_HeardError (isx_cons XX.i_DuplicateName XX.in_DuplicateName_HeardError (isx_cons XX.i_TooMany XX.in_TooMany_HeardError (isx_cons XX.i_InvalidEntry XX.in_InvalidEntry_HeardError (isx_cons XX.i_InvalidOrder XX.in_InvalidOrder_HeardError (isx_cons XX.i_InvalidPlan XX.in_InvalidPlan_HeardError (isx_cons XX.i_InvalidNumber XX.in_InvalidNumber_HeardError (isx_cons XX.i_InvalidLimit XX.in_InvalidLimit_HeardError (isx_cons XX.i_InvalidText XX.in_InvalidText_HeardError (isx_cons XX.i_InvalidPage XX.in_InvalidPage_HeardError (isx_cons XX.i_OtherNames XX.in_OtherNames_HeardError (isx_cons XX.i_NoOrder XX.in_NoOrder_HeardError (isx_cons XX.i_Full XX.in_Full_HeardError (isx_cons XX.i_UnknownName XX.in_UnknownName_HeardError (isx_cons XX.i_UnknownMessage XX.in_UnknownMessage_HeardError (isx_cons XX.i_UnknownLog XX.in_UnknownLog_HeardError isx_nil))))))))))))))))))))) (va_cons (ve_fz (ve_isXb [(He.ga _ "NothingLeft", false), (He.ga _ "InvalidName", true), (He.ga _ "InvalidHabit", true), (He.ga _ "InvalidSender", true), (He.ga _ "DuplicateName", true), (He.ga _ "TooMany", true), (He.ga _ "InvalidEntry", true), (He.ga _ "InvalidOrder", true), (He.ga _ "InvalidPlan", true), (He.ga _ "InvalidNumber", true), (He.ga _ "InvalidLimit", true), (He.ga _ "InvalidText", true), (He.ga _ "InvalidPage", true), (He.ga _ "OtherNames", true), (He.ga _ "NoOrder", true), (He.ga _ "Full", true), (He.ga _ "UnknownName", false), (He.ga _ "UnknownMessage", false), (He.ga _ "UnknownLog", false)] (ve_name 6) (by rfl) T.isinstance (by rfl) T.ValueError (by decide +kernel) (isx_cons XX.i_NothingLeft XX.in_NothingLeft_ValueError (isx_cons XX.i_InvalidName XX.in_InvalidName_ValueError (isx_cons XX.i_InvalidHabit XX.in_InvalidHabit_ValueError (isx_cons XX.i_InvalidSender XX.in_InvalidSender_ValueError (isx_cons XX.i_DuplicateName XX.in_DuplicateName_ValueError (isx_cons XX.i_TooMany XX.in_TooMany_ValueError (isx_cons XX.i_InvalidEntry XX.in_InvalidEntry_ValueError (isx_cons XX.i_InvalidOrder XX.in_InvalidOrder_ValueError (isx_cons XX.i_InvalidPlan XX.in_InvalidPlan_ValueError (isx_cons XX.i_InvalidNumber XX.in_InvalidNumber_ValueError (isx_cons XX.i_InvalidLimit XX.in_InvalidLimit_ValueError (isx_cons XX.i_InvalidText XX.in_InvalidText_ValueError (isx_cons XX.i_InvalidPage XX.in_InvalidPage_ValueError (isx_cons XX.i_OtherNames XX.in_OtherNames_ValueError (isx_cons XX.i_NoOrder XX.in_NoOrder_ValueError (isx_cons XX.i_Full XX.in_Full_ValueError (isx_cons XX.i_UnknownName XX.in_UnknownName_ValueError (isx_cons XX.i_UnknownMessage XX.in_UnknownMessage_ValueError (isx_cons XX.i_UnknownLog XX.in_UnknownLog_ValueError isx_nil))))))))))))))))))))) (va_cons (ve_fz (ve_isX [(He.ga _ "NothingLeft", false), (He.ga _ "InvalidName", false), (He.ga _ "InvalidHabit", false), (He.ga _ "InvalidSender", false), (He.ga _ "DuplicateName", false), (He.ga _ "TooMany", false), (He.ga _ "InvalidEntry", false), (He.ga _ "InvalidOrder", false), (He.ga _ "InvalidPlan", false), (He.ga _ "InvalidNumber", false), (He.ga _ "InvalidLimit", false), (He.ga _ "InvalidText", false), (He.ga _ "InvalidPage", false), (He.ga _ "OtherNames", false), (He.ga _ "NoOrder", false), (He.ga _ "Full", false), (He.ga _ "UnknownName", true), (He.ga _ "UnknownMessage", true), (He.ga _ "UnknownLog", true)] (ve_name 6) (by rfl) T.isinstance (by rfl) XX.g_Missing (isx_cons XX.i_NothingLeft XX.in_NothingLeft_Missing (isx_cons XX.i_InvalidName XX.in_InvalidName_Missing (isx_cons XX.i_InvalidHabit XX.in_InvalidHabit_Missing (isx_cons XX.i_InvalidSender XX.in_InvalidSender_Missing (isx_cons XX.i_DuplicateName XX.in_DuplicateName_Missing (isx_cons XX.i_TooMany XX.in_TooMany_Missing (isx_cons XX.i_InvalidEntry XX.in_InvalidEntry_Missing (isx_cons XX.i_InvalidOrder XX.in_InvalidOrder_Missing (isx_cons XX.i_InvalidPlan XX.in_InvalidPlan_Missing (isx_cons XX.i_InvalidNumber XX.in_InvalidNumber_Missing (isx_cons XX.i_InvalidLimit XX.in_InvalidLimit_Missing (isx_cons XX.i_InvalidText XX.in_InvalidText_Missing (isx_cons XX.i_InvalidPage XX.in_InvalidPage_Missing (isx_cons XX.i_OtherNames XX.in_OtherNames_Missing (isx_cons XX.i_NoOrder XX.in_NoOrder_Missing (isx_cons XX.i_Full XX.in_Full_Missing (isx_cons XX.i_UnknownName XX.in_UnknownName_Missing (isx_cons XX.i_UnknownMessage XX.in_UnknownMessage_Missing (isx_cons XX.i_UnknownLog XX.in_UnknownLog_Missing isx_nil))))))))))))))))))))) (va_cons (ve_fz (ve_isXb [(He.ga _ "NothingLeft", true), (He.ga _ "InvalidName", false), (He.ga _ "InvalidHabit", false), (He.ga _ "InvalidSender", false), (He.ga _ "DuplicateName", false), (He.ga _ "TooMany", false), (He.ga _ "InvalidEntry", false), (He.ga _ "InvalidOrder", false), (He.ga _ "InvalidPlan", false), (He.ga _ "InvalidNumber", false), (He.ga _ "InvalidLimit", false), (He.ga _ "InvalidText", false), (He.ga _ "InvalidPage", false), (He.ga _ "OtherNames", false), (He.ga _ "NoOrder", false), (He.ga _ "Full", false), (He.ga _ "UnknownName", true), (He.ga _ "UnknownMessage", true), (He.ga _ "UnknownLog", true)] (ve_name 6) (by rfl) T.isinstance (by rfl) T.LookupError (by decide +kernel) (isx_cons XX.i_NothingLeft XX.in_NothingLeft_LookupError (isx_cons XX.i_InvalidName XX.in_InvalidName_LookupError (isx_cons XX.i_InvalidHabit XX.in_InvalidHabit_LookupError (isx_cons XX.i_InvalidSender XX.in_InvalidSender_LookupError (isx_cons XX.i_DuplicateName XX.in_DuplicateName_LookupError (isx_cons XX.i_TooMany XX.in_TooMany_LookupError (isx_cons XX.i_InvalidEntry XX.in_InvalidEntry_LookupError (isx_cons XX.i_InvalidOrder XX.in_InvalidOrder_LookupError (isx_cons XX.i_InvalidPlan XX.in_InvalidPlan_LookupError (isx_cons XX.i_InvalidNumber XX.in_InvalidNumber_LookupError (isx_cons XX.i_InvalidLimit XX.in_InvalidLimit_LookupError (isx_cons XX.i_InvalidText XX.in_InvalidText_LookupError (isx_cons XX.i_InvalidPage XX.in_InvalidPage_LookupError (isx_cons XX.i_OtherNames XX.in_OtherNames_LookupError (isx_cons XX.i_NoOrder XX.in_NoOrder_LookupError (isx_cons XX.i_Full XX.in_Full_LookupError (isx_cons XX.i_UnknownName XX.in_UnknownName_LookupError (isx_cons XX.i_UnknownMessage XX.in_UnknownMessage_LookupError (isx_cons XX.i_UnknownLog XX.in_UnknownLog_LookupError isx_nil))))))))))))))))))))) (va_cons (ve_fz (ve_isXb [(He.ga _ "NothingLeft", true), (He.ga _ "InvalidName", false), (He.ga _ "InvalidHabit", false), (He.ga _ "InvalidSender", false), (He.ga _ "DuplicateName", false), (He.ga _ "TooMany", false), (He.ga _ "InvalidEntry", false), (He.ga _ "InvalidOrder", false), (He.ga _ "InvalidPlan", false), (He.ga _ "InvalidNumber", false), (He.ga _ "InvalidLimit", false), (He.ga _ "InvalidText", false), (He.ga _ "InvalidPage", false), (He.ga _ "OtherNames", false), (He.ga _ "NoOrder", false), (He.ga _ "Full", false), (He.ga _ "UnknownName", false), (He.ga _ "UnknownMessage", false), (He.ga _ "UnknownLog", false)] (ve_name 6) (by rfl) T.isinstance (by rfl) T.IndexError (by decide +kernel) (isx_cons XX.i_NothingLeft XX.in_NothingLeft_IndexError (isx_cons XX.i_InvalidName XX.in_InvalidName_IndexError (isx_cons XX.i_InvalidHabit XX.in_InvalidHabit_IndexError (isx_cons XX.i_InvalidSender XX.in_InvalidSender_IndexError (isx_cons XX.i_DuplicateName XX.in_DuplicateName_IndexError (isx_cons XX.i_TooMany XX.in_TooMany_IndexError (isx_cons XX.i_InvalidEntry XX.in_InvalidEntry_IndexError (isx_cons XX.i_InvalidOrder XX.in_InvalidOrder_IndexError (isx_cons XX.i_InvalidPlan XX.in_InvalidPlan_IndexError (isx_cons XX.i_InvalidNumber XX.in_InvalidNumber_IndexError (isx_cons XX.i_InvalidLimit XX.in_InvalidLimit_IndexError (isx_cons XX.i_InvalidText XX.in_InvalidText_IndexError (isx_cons XX.i_InvalidPage XX.in_InvalidPage_IndexError (isx_cons XX.i_OtherNames XX.in_OtherNames_IndexError (isx_cons XX.i_NoOrder XX.in_NoOrder_IndexError (isx_cons XX.i_Full XX.in_Full_IndexError (isx_cons XX.i_UnknownName XX.in_UnknownName_IndexError (isx_cons XX.i_UnknownMessage XX.in_UnknownMessage_IndexError (isx_cons XX.i_UnknownLog XX.in_UnknownLog_IndexError isx_nil))))))))))))))))))))) (va_cons (ve_fz (ve_isXb [(He.ga _ "NothingLeft", false), (He.ga _ "InvalidName", false), (He.ga _ "InvalidHabit", false), (He.ga _ "InvalidSender", false), (He.ga _ "DuplicateName", false), (He.ga _ "TooMany", false), (He.ga _ "InvalidEntry", false), (He.ga _ "InvalidOrder", false), (He.ga _ "InvalidPlan", false), (He.ga _ "InvalidNumber", false), (He.ga _ "InvalidLimit", false), (He.ga _ "InvalidText", false), (He.ga _ "InvalidPage", false), (He.ga _ "OtherNames", false), (He.ga _ "NoOrder", false), (He.ga _ "Full", false), (He.ga _ "UnknownName", false), (He.ga _ "UnknownMessage", false), (He.ga _ "UnknownLog", false)] (ve_name 6) (by rfl) T.isinstance (by rfl) T.KeyError (by decide +kernel) (isx_cons XX.i_NothingLeft XX.in_NothingLeft_KeyError (isx_cons XX.i_InvalidName XX.in_InvalidName_KeyError (isx_cons XX.i_InvalidHabit XX.in_InvalidHabit_KeyError (isx_cons XX.i_InvalidSender XX.in_InvalidSender_KeyError (isx_cons XX.i_DuplicateName XX.in_DuplicateName_KeyError (isx_cons XX.i_TooMany XX.in_TooMany_KeyError (isx_cons XX.i_InvalidEntry XX.in_InvalidEntry_KeyError (isx_cons XX.i_InvalidOrder XX.in_InvalidOrder_KeyError (isx_cons XX.i_InvalidPlan XX.in_InvalidPlan_KeyError (isx_cons XX.i_InvalidNumber XX.in_InvalidNumber_KeyError (isx_cons XX.i_InvalidLimit XX.in_InvalidLimit_KeyError (isx_cons XX.i_InvalidText XX.in_InvalidText_KeyError (isx_cons XX.i_InvalidPage XX.in_InvalidPage_KeyError (isx_cons XX.i_OtherNames XX.in_OtherNames_KeyError (isx_cons XX.i_NoOrder XX.in_NoOrder_KeyError (isx_cons XX.i_Full XX.in_Full_KeyError (isx_cons XX.i_UnknownName XX.in_UnknownName_KeyError (isx_cons XX.i_UnknownMessage XX.in_UnknownMessage_KeyError (isx_cons XX.i_UnknownLog XX.in_UnknownLog_KeyError isx_nil))))))))))))))))))))) va_nil)))))))) (vss_cons (vs_set (i := 8) sc_law.nd rfl (by first | exact Or.inl rfl | exact Or.inr rfl) (ve_if (vc_cmp ow_lt (ve_name 5) ve_int) (ve_lst (va_cons ve_bl (va_cons ve_bl (va_cons ve_bl (va_cons ve_bl (va_cons ve_bl (va_cons ve_bl va_nil))))))) (ve_lst (va_cons ve_bl (va_cons ve_bl (va_cons ve_bl (va_cons ve_bl (va_cons ve_bl (va_cons ve_bl va_nil))))))))) (vss_cons (vs_if (vc_cmp (ow_eq hr.units) (ve_name 5) ve_int) (vss_one (vs_set (i := 8) sc_law.nd rfl (by first | exact Or.inl rfl | exact Or.inr rfl) (ve_lst (va_cons ve_bl (va_cons ve_bl (va_cons ve_bl (va_cons ve_bl (va_cons ve_bl (va_cons ve_bl va_nil))))))))) vss_nil) (vss_cons (vs_if (VW.vc (vw_or (vc_cmp (ow_ne hr.units) (ve_name 7) (ve_name 8)) (vw_or1 (vc_not (vc_tru (ve_cv c__law_same (hr.mono (by omega)) rfl rfl rfl (fun _ _ _ _ _ _ us hl => match us, hl with | [_, _], _ => rfl) (by rfl) (va_cons (ve_fz (ve_xat [He.ga _ "NothingLeft", He.ga _ "InvalidName", He.ga _ "InvalidHabit", He.ga _ "InvalidSender", He.ga _ "DuplicateName", He.ga _ "TooMany", He.ga _ "InvalidEntry", He.ga _ "InvalidOrder", He.ga _ "InvalidPlan", He.ga _ "InvalidNumber", He.ga _ "InvalidLimit", He.ga _ "InvalidText", He.ga _ "InvalidPage", He.ga _ "OtherNames", He.ga _ "NoOrder", He.ga _ "Full", He.ga _ "UnknownName", He.ga _ "UnknownMessage", He.ga _ "UnknownLog"] (List.forall_mem_cons.mpr ⟨XX.c_NothingLeft, (List.forall_mem_cons.mpr ⟨XX.c_InvalidName, (List.forall_mem_cons.mpr ⟨XX.c_InvalidHabit, (List.forall_mem_cons.mpr ⟨XX.c_InvalidSender, (List.forall_mem_cons.mpr ⟨XX.c_DuplicateName, (List.forall_mem_cons.mpr ⟨XX.c_TooMany, (List.forall_mem_cons.mpr ⟨XX.c_InvalidEntry, (List.forall_mem_cons.mpr ⟨XX.c_InvalidOrder, (List.forall_mem_cons.mpr ⟨XX.c_InvalidPlan, (List.forall_mem_cons.mpr ⟨XX.c_InvalidNumber, (List.forall_mem_cons.mpr ⟨XX.c_InvalidLimit, (List.forall_mem_cons.mpr ⟨XX.c_InvalidText, (List.forall_mem_cons.mpr ⟨XX.c_InvalidPage, (List.forall_mem_cons.mpr ⟨XX.c_OtherNames, (List.forall_mem_cons.mpr ⟨XX.c_NoOrder, (List.forall_mem_cons.mpr ⟨XX.c_Full, (List.forall_mem_cons.mpr ⟨XX.c_UnknownName, (List.forall_mem_cons.mpr ⟨XX.c_UnknownMessage, (List.forall_mem_cons.mpr ⟨XX.c_UnknownLog, (fun _ h => nomatch h)⟩)⟩)⟩)⟩)⟩)⟩)⟩)⟩)⟩)⟩)⟩)⟩)⟩)⟩)⟩)⟩)⟩)⟩)⟩) (ve_name 6))) (va_cons (ve_fz (ve_ixA (hu1 hr) (ve_name 4) (ve_name 5))) va_nil)))))))) (vss_one (vs_ret ve_bl)) vss_nil) (vss_one (vs_if (VW.vc (vw_and (vc_cmp (ow_notin hr.units (hu65 hr)) (ve_name 5) (ve_lst (va_cons ve_int (va_cons ve_int (va_cons ve_int (va_cons ve_int va_nil)))))) (vw_and1 (vc_not (vc_tru (ve_cv c__law_same (hr.mono (by omega)) rfl rfl rfl (fun _ _ _ _ _ _ us hl => match us, hl with | [_, _], _ => rfl) (by rfl) (va_cons (ve_fz (ve_cv c__law_field (hr.mono (by omega)) rfl rfl rfl (fun _ _ _ _ _ _ us hl => match us, hl with | [_], _ => rfl) (by rfl) (va_cons (ve_name 6) va_nil))) (va_cons (ve_name 2) va_nil)))))))) (vss_one (vs_ret ve_bl)) vss_nil)))))))) (vss_cons (vs_set (i := 9) sc_law.nd rfl (by first | exact Or.inl rfl | exact Or.inr rfl) (ve_lst (va_cons (ve_fz (ve_isX [(He.ga _ "InvalidName", false)] (ve_ixA (hu1 hr) (ve_name 3) ve_int) (by rfl) T.isinstance (by rfl) XX.g_InvalidHabit (isx_cons XX.i_InvalidName XX.in_InvalidName_InvalidHabit isx_nil))) (va_cons (ve_fz (ve_isX [(He.ga _ "DuplicateName", false)] (ve_ixA (hu1 hr) (ve_name 3) ve_int) (by rfl) T.isinstance (by rfl) XX.g_UnknownName (isx_cons XX.i_DuplicateName XX.in_DuplicateName_UnknownName isx_nil))) (va_cons (ve_fz (ve_isX [(He.ga _ "Full", false)] (ve_ixA (hu1 hr) (ve_name 3) ve_int) (by rfl) T.isinstance (by rfl) XX.g_TooMany (isx_cons XX.i_Full XX.in_Full_TooMany isx_nil))) (va_cons (ve_fz (ve_isX [(He.ga _ "TooMany", false)] (ve_ixA (hu1 hr) (ve_name 3) ve_int) (by rfl) T.isinstance (by rfl) XX.g_Full (isx_cons XX.i_TooMany XX.in_TooMany_Full isx_nil))) (va_cons (ve_fz (ve_isX [(He.ga _ "UnknownName", false)] (ve_ixA (hu1 hr) (ve_name 3) ve_int) (by rfl) T.isinstance (by rfl) XX.g_UnknownLog (isx_cons XX.i_UnknownName XX.in_UnknownName_UnknownLog isx_nil))) (va_cons (ve_fz (ve_isX [(He.ga _ "UnknownMessage", false)] (ve_ixA (hu1 hr) (ve_name 3) ve_int) (by rfl) T.isinstance (by rfl) XX.g_UnknownName (isx_cons XX.i_UnknownMessage XX.in_UnknownMessage_UnknownName isx_nil))) (va_cons (ve_fz (ve_isX [(He.ga _ "InvalidNumber", false)] (ve_ixA (hu1 hr) (ve_name 3) ve_int) (by rfl) T.isinstance (by rfl) XX.g_InvalidLimit (isx_cons XX.i_InvalidNumber XX.in_InvalidNumber_InvalidLimit isx_nil))) va_nil))))))))) (vss_cons (vs_set (i := 10) sc_law.nd rfl (by first | exact Or.inl rfl | exact Or.inr rfl) (ve_lst (va_cons (ve_fz (ve_xat [He.ga _ "DuplicateName", He.ga _ "InvalidPlan", He.ga _ "UnknownName"] (List.forall_mem_cons.mpr ⟨XX.f_DuplicateName, (List.forall_mem_cons.mpr ⟨XX.f_InvalidPlan, (List.forall_mem_cons.mpr ⟨XX.f_UnknownName, (fun _ h => nomatch h)⟩)⟩)⟩) (ve_xmkK XX.k_DuplicateName (hr.mono (by omega)) (by rfl) (vk_cons ve_int vk_nil)))) (va_cons (ve_fz (ve_xat [He.ga _ "InvalidSender", He.ga _ "InvalidEntry"] (List.forall_mem_cons.mpr ⟨XX.f_InvalidSender, (List.forall_mem_cons.mpr ⟨XX.f_InvalidEntry, (fun _ h => nomatch h)⟩)⟩) (ve_xmkK XX.k_InvalidEntry (hr.mono (by omega)) (by rfl) (vk_cons ve_int vk_nil)))) (va_cons (ve_fz (ve_xat [He.ga _ "InvalidName", He.ga _ "InvalidOrder", He.ga _ "InvalidNumber", He.ga _ "InvalidLimit"] (List.forall_mem_cons.mpr ⟨XX.f_InvalidName, (List.forall_mem_cons.mpr ⟨XX.f_InvalidOrder, (List.forall_mem_cons.mpr ⟨XX.f_InvalidNumber, (List.forall_mem_cons.mpr ⟨XX.f_InvalidLimit, (fun _ h => nomatch h)⟩)⟩)⟩)⟩) (ve_xmkK XX.k_InvalidOrder (hr.mono (by omega)) (by rfl) (vk_cons ve_int vk_nil)))) (va_cons (ve_fz (ve_xat [He.ga _ "InvalidName", He.ga _ "InvalidOrder", He.ga _ "InvalidNumber", He.ga _ "InvalidLimit"] (List.forall_mem_cons.mpr ⟨XX.f_InvalidName, (List.forall_mem_cons.mpr ⟨XX.f_InvalidOrder, (List.forall_mem_cons.mpr ⟨XX.f_InvalidNumber, (List.forall_mem_cons.mpr ⟨XX.f_InvalidLimit, (fun _ h => nomatch h)⟩)⟩)⟩)⟩) (ve_xmkK XX.k_InvalidNumber (hr.mono (by omega)) (by rfl) (vk_cons ve_int vk_nil)))) (va_cons (ve_fz (ve_xat [He.ga _ "InvalidName", He.ga _ "InvalidOrder", He.ga _ "InvalidNumber", He.ga _ "InvalidLimit"] (List.forall_mem_cons.mpr ⟨XX.f_InvalidName, (List.forall_mem_cons.mpr ⟨XX.f_InvalidOrder, (List.forall_mem_cons.mpr ⟨XX.f_InvalidNumber, (List.forall_mem_cons.mpr ⟨XX.f_InvalidLimit, (fun _ h => nomatch h)⟩)⟩)⟩)⟩) (ve_xmkK XX.k_InvalidLimit (hr.mono (by omega)) (by rfl) (vk_cons ve_int vk_nil)))) (va_cons (ve_fz (ve_xat [He.ga _ "TooMany", He.ga _ "Full"] (List.forall_mem_cons.mpr ⟨XX.f_TooMany, (List.forall_mem_cons.mpr ⟨XX.f_Full, (fun _ h => nomatch h)⟩)⟩) (ve_xmkK XX.k_Full (hr.mono (by omega)) (by rfl) (vk_cons ve_int vk_nil)))) (va_cons (ve_fz (ve_xat [He.ga _ "DuplicateName", He.ga _ "InvalidPlan", He.ga _ "UnknownName"] (List.forall_mem_cons.mpr ⟨XX.f_DuplicateName, (List.forall_mem_cons.mpr ⟨XX.f_InvalidPlan, (List.forall_mem_cons.mpr ⟨XX.f_UnknownName, (fun _ h => nomatch h)⟩)⟩)⟩) (ve_xmkK XX.k_UnknownName (hr.mono (by omega)) (by rfl) (vk_cons ve_int vk_nil)))) (va_cons (ve_fz (ve_xat [He.ga _ "UnknownMessage", He.ga _ "UnknownLog"] (List.forall_mem_cons.mpr ⟨XX.f_UnknownMessage, (List.forall_mem_cons.mpr ⟨XX.f_UnknownLog, (fun _ h => nomatch h)⟩)⟩) (ve_xmkK XX.k_UnknownMessage (hr.mono (by omega)) (by rfl) (vk_cons ve_int vk_nil)))) va_nil)))))))))) (vss_cons (vs_if (vc_not (vc_tru (ve_cv c__law_same (hr.mono (by omega)) rfl rfl rfl (fun _ _ _ _ _ _ us hl => match us, hl with | [_, _], _ => rfl) (by rfl) (va_cons (ve_name 10) (va_cons (ve_fz (ve_lst (va_cons ve_int (va_cons ve_int (va_cons ve_int (va_cons ve_int (va_cons ve_int (va_cons ve_int (va_cons ve_int (va_cons ve_int va_nil)))))))))) va_nil))))) (vss_one (vs_ret ve_bl)) vss_nil) (vss_cons (vs_set (i := 11) sc_law.nd rfl (by first | exact Or.inl rfl | exact Or.inr rfl) (ve_lst (va_cons (ve_fz (ve_xat [He.ga _ "InvalidName", He.ga _ "InvalidOrder", He.ga _ "InvalidNumber", He.ga _ "InvalidLimit"] (List.forall_mem_cons.mpr ⟨XX.f_InvalidName, (List.forall_mem_cons.mpr ⟨XX.f_InvalidOrder, (List.forall_mem_cons.mpr ⟨XX.f_InvalidNumber, (List.forall_mem_cons.mpr ⟨XX.f_InvalidLimit, (fun _ h => nomatch h)⟩)⟩)⟩)⟩) (ve_xmkK XX.k_InvalidName (hr.mono (by omega)) (by rfl) (vk_cons ve_int vk_nil)))) (va_cons (ve_fz (ve_xat [He.ga _ "InvalidSender", He.ga _ "InvalidEntry"] (List.forall_mem_cons.mpr ⟨XX.f_InvalidSender, (List.forall_mem_cons.mpr ⟨XX.f_InvalidEntry, (fun _ h => nomatch h)⟩)⟩) (ve_xmkK XX.k_InvalidSender (hr.mono (by omega)) (by rfl) (vk_cons ve_int vk_nil)))) (va_cons (ve_fz (ve_xat [He.ga _ "TooMany", He.ga _ "Full"] (List.forall_mem_cons.mpr ⟨XX.f_TooMany, (List.forall_mem_cons.mpr ⟨XX.f_Full, (fun _ h => nomatch h)⟩)⟩) (ve_xmkK XX.k_TooMany (hr.mono (by omega)) (by rfl) (vk_cons ve_int vk_nil)))) (va_cons (ve_fz (ve_xat [He.ga _ "InvalidPage"] (List.forall_mem_cons.mpr ⟨XX.f_InvalidPage, (fun _ h => nomatch h)⟩) (ve_xmkK XX.k_InvalidPage (hr.mono (by omega)) (by rfl) (vk_cons ve_int vk_nil)))) (va_cons (ve_fz (ve_xat [He.ga _ "UnknownMessage", He.ga _ "UnknownLog"] (List.forall_mem_cons.mpr ⟨XX.f_UnknownMessage, (List.forall_mem_cons.mpr ⟨XX.f_UnknownLog, (fun _ h => nomatch h)⟩)⟩) (ve_xmkK XX.k_UnknownLog (hr.mono (by omega)) (by rfl) (vk_cons ve_int vk_nil)))) (va_cons (ve_fz (ve_xat [He.ga _ "InvalidHabit"] (List.forall_mem_cons.mpr ⟨XX.f_InvalidHabit, (fun _ h => nomatch h)⟩) (ve_xmkK XX.k_InvalidHabit (hr.mono (by omega)) (by rfl) (vk_cons ve_str vk_nil)))) (va_cons (ve_fz (ve_xat [He.ga _ "DuplicateName", He.ga _ "InvalidPlan", He.ga _ "UnknownName"] (List.forall_mem_cons.mpr ⟨XX.f_DuplicateName, (List.forall_mem_cons.mpr ⟨XX.f_InvalidPlan, (List.forall_mem_cons.mpr ⟨XX.f_UnknownName, (fun _ h => nomatch h)⟩)⟩)⟩) (ve_xmkK XX.k_InvalidPlan (hr.mono (by omega)) (by rfl) (vk_cons ve_str vk_nil)))) va_nil))))))))) (vss_one (vs_ret (ve_and (ve_cmp (ow_eq hr.units) (ve_name 9) (ve_op ow_mul (ve_lst (va_cons ve_bl va_nil)) ve_int)) (ve_one (ve_cv c__law_same (hr.mono (by omega)) rfl rfl rfl (fun _ _ _ _ _ _ us hl => match us, hl with | [_, _], _ => rfl) (by rfl) (va_cons (ve_name 11) (va_cons (ve_fz (ve_lst (va_cons ve_int (va_cons ve_int (va_cons ve_int (va_cons ve_int (va_cons ve_int (va_cons ve_str (va_cons ve_str va_nil))))))))) va_nil))))))))))))))))) ?_
  refine gSeq_go fun R hR => ?_
  simp
  refine ⟨⟨by omega, by omega⟩, by decide, fun r r0 r1 => ?_⟩
  have go : ∀ v : D, v.dat = true → v.wid = true → v.dep ≤ 3 → R [none, some .bag, some (.tr v), none, none, none, none, none, none, none, none, none] := by
    intro v v1 v3 v2
    rw [hR]
    clear hR R
    refine gSeq_go fun R hR => ?_
    simp
    show R [none, some SV.bag, some (SV.tr v), some (SV.own (D.lst (errA.map (exnD K v)))), none, none, none, none, none, none, none, none]
    rw [hR]
    clear hR R
    refine gSeq_go fun R hR => ?_
    simp
    show R [none, some SV.bag, some (SV.tr v), some (SV.own (D.lst (errA.map (exnD K v)))), some (SV.own (D.lst (errA.map fun x => .str x.1))), none, none, none, none, none, none, none]
    rw [hR]
    clear hR R
    refine gSeq_go fun R hR => ?_
    simp
    refine forW_rng (fun k S => ∃ b5 b6 b7 b8, S = [none, some SV.bag, some (SV.tr v), some (SV.own (D.lst (errA.map (exnD K v)))), some (SV.own (D.lst (errA.map fun x => .str x.1))), b5, b6, b7, b8, none, none, none]) ⟨_, _, _, _, rfl⟩ ?_ ?_
    · rintro S ⟨b5, b6, b7, b8, rfl⟩
      show R _
      rw [hR]
      clear hR R
      refine gSeq_go fun R hR => ?_
      simp
      refine ⟨_, rfl, isxD_at 0 rfl ⟨_, rfl, isxD_at 0 rfl ⟨_, rfl, isxD_at 0 rfl ⟨_, rfl, isxD_at 0 rfl ⟨_, rfl, isxD_at 0 rfl ⟨_, rfl, isxD_at 0 rfl ⟨_, rfl, isxD_at 0 rfl ?_⟩⟩⟩⟩⟩⟩⟩
      simp
      rw [hR]
      clear hR R
      refine gSeq_go fun R hR => ?_
      simp
      rw [hR]
      clear hR R
      refine gSeq_go fun R hR => ?_
      simp
      refine .inr ⟨rfl, ?_⟩
      rw [hR]
      clear hR R
      refine gSeq_go fun R hR => ?_
      simp
      rw [hR]
      clear hR R
      simp
      exact rfl
    · rintro k hk S ⟨b5, b6, b7, b8, rfl⟩ N hN
      clear hR
      obtain ⟨j, hj⟩ : ∃ j, j = if k = 18 then 0 else k + 1 := ⟨_, rfl⟩
      have h19 : k = 0 ∨ k = 1 ∨ k = 2 ∨ k = 3 ∨ k = 4 ∨ k = 5 ∨ k = 6 ∨ k = 7 ∨ k = 8 ∨ k = 9 ∨ k = 10 ∨ k = 11 ∨ k = 12 ∨ k = 13 ∨ k = 14 ∨ k = 15 ∨ k = 16 ∨ k = 17 ∨ k = 18 := by omega
      rcases h19 with rfl | rfl | rfl | rfl | rfl | rfl | rfl | rfl | rfl | rfl | rfl | rfl | rfl | rfl | rfl | rfl | rfl | rfl | rfl
      all_goals
        refine gSeq_go fun R hR => ?_
        simp
        refine ⟨_, rfl, ?_⟩
        rw [hR]
        clear hR R
        refine gSeq_go fun R hR => ?_
        simp
        refine isxD_at j (by rw [hj]; rfl) ?_
        simp
        refine isxD_at j (by rw [hj]; rfl) ?_
        simp
        refine isxD_at j (by rw [hj]; rfl) ?_
        simp
        refine isxD_at j (by rw [hj]; rfl) ?_
        simp
        refine isxD_at j (by rw [hj]; rfl) ?_
        simp
        refine isxD_at j (by rw [hj]; rfl) ?_
        simp
        rw [hR]
        clear hR R
        refine gSeq_go fun R hR => ?_
        simp
        rw [hR]
        clear hR R
        refine gSeq_go fun R hR => ?_
        simp
        rw [hR]
        clear hR R
        refine gSeq_go fun R hR => ?_
        simp [exnD]
        first
        | refine ⟨_, rfl, rfl, rfl, by decide, .inr ⟨rfl, ?_⟩⟩
        | (refine ⟨_, rfl, ?_⟩
           simp
           refine ⟨_, rfl, rfl, rfl, by decide, .inr ⟨rfl, ?_⟩⟩)
        rw [hR]
        clear hR R
        simp
        first
        | exact hN _ ⟨_, _, _, _, rfl⟩
        | (refine fLField_go (by decide) ?_
           simp [v1, v3]
           exact ⟨by omega, .inr ⟨sameD_refl _ v1, hN _ ⟨_, _, _, _, rfl⟩⟩⟩)
  refine ⟨go _ rfl rfl (by decide), go _ rfl rfl (by decide), go _ rfl rfl (by decide), go _ rfl rfl (by decide), go _ rfl rfl (by decide), go _ rfl rfl (by decide), go _ rfl rfl (by simp [D.dep])⟩
end
end K60
set_option maxHeartbeats 0
namespace K60
open PySem PySem.Spec PyProof.Rows L2 VT HP
structure Defs (K : PySem.W.Frag) (mg : Str → Option Value) : Prop where
  _law_bag : DefAt K mg d__law_bag
  _law_draw : DefAt K mg d__law_draw
  _law_field : DefAt K mg d__law_field
  _law_pick : DefAt K mg d__law_pick
  _law_same : DefAt K mg d__law_same
  law : DefAt K mg d_law
theorem defs_of {K : PySem.W.Frag} {h : Heap} {mg : Str → Option Value} (X : K.In h) (G : h.Ns mainGlobals mg) (c : lk.Ok K) : Facts mg ∧ Defs K mg :=
  ⟨⟨He.free_ok X G (c.lx.ll.fact 0 (f := .free "IndexError") rfl),
    He.free_ok X G (c.lx.ll.fact 1 (f := .free "KeyError") rfl),
    He.free_ok X G (c.lx.ll.fact 2 (f := .free "LookupError") rfl),
    He.free_ok X G (c.lx.ll.fact 3 (f := .free "ValueError") rfl),
    He.free_ok X G (c.lx.ll.fact 4 (f := .free "abs") rfl),
    He.free_ok X G (c.lx.ll.fact 5 (f := .free "all") rfl),
    He.free_ok X G (c.lx.ll.fact 6 (f := .free "bool") rfl),
    He.free_ok X G (c.lx.ll.fact 7 (f := .free "int") rfl),
    He.free_ok X G (c.lx.ll.fact 8 (f := .free "isinstance") rfl),
    He.free_ok X G (c.lx.ll.fact 9 (f := .free "len") rfl),
    He.free_ok X G (c.lx.ll.fact 10 (f := .free "list") rfl),
    He.free_ok X G (c.lx.ll.fact 11 (f := .free "range") rfl),
    He.free_ok X G (c.lx.ll.fact 12 (f := .free "str") rfl),
    He.free_ok X G (c.lx.ll.fact 13 (f := .free "super") rfl),
    He.free_ok X G (c.lx.ll.fact 14 (f := .free "tuple") rfl),
    He.free_ok X G (c.lx.ll.fact 15 (f := .free "zip") rfl)⟩,
   ⟨⟨c.lx.ll.fun_ 0 (d := d__law_bag) rfl, He.glo_ok X G (c.lx.ll.fact 37 (f := .glo "_law_bag") rfl)⟩,
    ⟨c.lx.ll.fun_ 1 (d := d__law_draw) rfl, He.glo_ok X G (c.lx.ll.fact 38 (f := .glo "_law_draw") rfl)⟩,
    ⟨c.lx.ll.fun_ 2 (d := d__law_field) rfl, He.glo_ok X G (c.lx.ll.fact 39 (f := .glo "_law_field") rfl)⟩,
    ⟨c.lx.ll.fun_ 3 (d := d__law_pick) rfl, He.glo_ok X G (c.lx.ll.fact 40 (f := .glo "_law_pick") rfl)⟩,
    ⟨c.lx.ll.fun_ 4 (d := d__law_same) rfl, He.glo_ok X G (c.lx.ll.fact 41 (f := .glo "_law_same") rfl)⟩,
    ⟨c.lx.ll.fun_ 5 (d := d_law) rfl, He.glo_ok X G (c.lx.ll.fact 42 (f := .glo "law") rfl)⟩⟩⟩
theorem xf_of {K : PySem.W.Frag} {h : Heap} {mg : Str → Option Value} {w : World} {base : Heap} (X : K.In h) (G : h.Ns mainGlobals mg) (c : lk.Ok K) (T : Facts mg) : XF (PySem.Challenge.rw_heardwire_k60_errors_and_their_classes).prog w K mg base :=
  ⟨He.glo_ok X G (c.lx.ll.fact 16 (f := .glo "HeardError") rfl),
    He.glo_ok X G (c.lx.ll.fact 17 (f := .glo "Missing") rfl),
    He.glo_ok X G (c.lx.ll.fact 18 (f := .glo "NothingLeft") rfl),
    He.glo_ok X G (c.lx.ll.fact 19 (f := .glo "InvalidName") rfl),
    He.glo_ok X G (c.lx.ll.fact 20 (f := .glo "InvalidHabit") rfl),
    He.glo_ok X G (c.lx.ll.fact 21 (f := .glo "InvalidSender") rfl),
    He.glo_ok X G (c.lx.ll.fact 22 (f := .glo "DuplicateName") rfl),
    He.glo_ok X G (c.lx.ll.fact 23 (f := .glo "TooMany") rfl),
    He.glo_ok X G (c.lx.ll.fact 24 (f := .glo "InvalidEntry") rfl),
    He.glo_ok X G (c.lx.ll.fact 25 (f := .glo "InvalidOrder") rfl),
    He.glo_ok X G (c.lx.ll.fact 26 (f := .glo "InvalidPlan") rfl),
    He.glo_ok X G (c.lx.ll.fact 27 (f := .glo "InvalidNumber") rfl),
    He.glo_ok X G (c.lx.ll.fact 28 (f := .glo "InvalidLimit") rfl),
    He.glo_ok X G (c.lx.ll.fact 29 (f := .glo "InvalidText") rfl),
    He.glo_ok X G (c.lx.ll.fact 30 (f := .glo "InvalidPage") rfl),
    He.glo_ok X G (c.lx.ll.fact 31 (f := .glo "OtherNames") rfl),
    He.glo_ok X G (c.lx.ll.fact 32 (f := .glo "NoOrder") rfl),
    He.glo_ok X G (c.lx.ll.fact 33 (f := .glo "Full") rfl),
    He.glo_ok X G (c.lx.ll.fact 34 (f := .glo "UnknownName") rfl),
    He.glo_ok X G (c.lx.ll.fact 35 (f := .glo "UnknownMessage") rfl),
    He.glo_ok X G (c.lx.ll.fact 36 (f := .glo "UnknownLog") rfl),
    (c.lx.x 0 (e := xe_NothingLeft) rfl).code,
    xmk0 (c.lx.x 0 (e := xe_NothingLeft) rfl) T.super (He.glo_ok X G (c.lx.ll.fact 18 (f := .glo "NothingLeft") rfl)) rfl rfl (by decide +kernel) ⟨rfl, rfl, rfl, by decide +kernel, rfl, by decide +kernel, by decide +kernel, by decide +kernel⟩ rfl (fun _ => ⟨_, rfl⟩) rfl rfl rfl rfl (fun _ _ _ _ _ _ _ us hl => match us, hl with | [_], _ => rfl),
    xisB_ok (c.lx.ll.bool 0 (b := xisB "NothingLeft") rfl),
    inkB_ok (c.lx.ll.bool 1 (b := inkB "NothingLeft" "HeardError" false) rfl),
    inbB_ok (c.lx.ll.bool 2 (b := inbB "NothingLeft" "IndexError" true) rfl),
    inbB_ok (c.lx.ll.bool 3 (b := inbB "NothingLeft" "KeyError" false) rfl),
    inbB_ok (c.lx.ll.bool 4 (b := inbB "NothingLeft" "LookupError" true) rfl),
    inkB_ok (c.lx.ll.bool 5 (b := inkB "NothingLeft" "Missing" false) rfl),
    inbB_ok (c.lx.ll.bool 6 (b := inbB "NothingLeft" "ValueError" false) rfl),
    of_decide_eq_true (c.lx.ll.bool 7 (b := exB "NothingLeft") rfl),
    (c.lx.x 1 (e := xe_InvalidName) rfl).code,
    (c.lx.x 1 (e := xe_InvalidName) rfl).field rfl,
    xmk1 (c.lx.x 1 (e := xe_InvalidName) rfl) T.super (He.glo_ok X G (c.lx.ll.fact 19 (f := .glo "InvalidName") rfl)) rfl rfl rfl (by decide +kernel) ⟨rfl, rfl, rfl, by decide +kernel, rfl, by decide +kernel, by decide +kernel, by decide +kernel⟩ rfl (fun _ => ⟨_, rfl⟩) rfl rfl rfl rfl (by decide) (by decide) (fun _ _ _ _ _ _ _ us hl => match us, hl with | [_, _], _ => rfl),
    xisB_ok (c.lx.ll.bool 8 (b := xisB "InvalidName") rfl),
    xmk1K (c.lx.x 1 (e := xe_InvalidName) rfl) T.super (He.glo_ok X G (c.lx.ll.fact 19 (f := .glo "InvalidName") rfl)) rfl rfl rfl (by decide +kernel) ⟨rfl, rfl, rfl, by decide +kernel, rfl, by decide +kernel, by decide +kernel, by decide +kernel⟩ rfl (fun _ => ⟨_, rfl⟩) rfl rfl rfl rfl (by decide) (by decide) (fun _ _ _ _ _ _ _ _ _ => rfl),
    inkB_ok (c.lx.ll.bool 9 (b := inkB "InvalidName" "HeardError" true) rfl),
    inbB_ok (c.lx.ll.bool 10 (b := inbB "InvalidName" "IndexError" false) rfl),
    inkB_ok (c.lx.ll.bool 11 (b := inkB "InvalidName" "InvalidHabit" false) rfl),
    inbB_ok (c.lx.ll.bool 12 (b := inbB "InvalidName" "KeyError" false) rfl),
    inbB_ok (c.lx.ll.bool 13 (b := inbB "InvalidName" "LookupError" false) rfl),
    inkB_ok (c.lx.ll.bool 14 (b := inkB "InvalidName" "Missing" false) rfl),
    inbB_ok (c.lx.ll.bool 15 (b := inbB "InvalidName" "ValueError" true) rfl),
    of_decide_eq_true (c.lx.ll.bool 16 (b := exB "InvalidName") rfl),
    (c.lx.x 2 (e := xe_InvalidHabit) rfl).code,
    (c.lx.x 2 (e := xe_InvalidHabit) rfl).field rfl,
    xmk1 (c.lx.x 2 (e := xe_InvalidHabit) rfl) T.super (He.glo_ok X G (c.lx.ll.fact 20 (f := .glo "InvalidHabit") rfl)) rfl rfl rfl (by decide +kernel) ⟨rfl, rfl, rfl, by decide +kernel, rfl, by decide +kernel, by decide +kernel, by decide +kernel⟩ rfl (fun _ => ⟨_, rfl⟩) rfl rfl rfl rfl (by decide) (by decide) (fun _ _ _ _ _ _ _ us hl => match us, hl with | [_, _], _ => rfl),
    xisB_ok (c.lx.ll.bool 17 (b := xisB "InvalidHabit") rfl),
    xmk1K (c.lx.x 2 (e := xe_InvalidHabit) rfl) T.super (He.glo_ok X G (c.lx.ll.fact 20 (f := .glo "InvalidHabit") rfl)) rfl rfl rfl (by decide +kernel) ⟨rfl, rfl, rfl, by decide +kernel, rfl, by decide +kernel, by decide +kernel, by decide +kernel⟩ rfl (fun _ => ⟨_, rfl⟩) rfl rfl rfl rfl (by decide) (by decide) (fun _ _ _ _ _ _ _ _ _ => rfl),
    inkB_ok (c.lx.ll.bool 18 (b := inkB "InvalidHabit" "HeardError" true) rfl),
    inbB_ok (c.lx.ll.bool 19 (b := inbB "InvalidHabit" "IndexError" false) rfl),
    inbB_ok (c.lx.ll.bool 20 (b := inbB "InvalidHabit" "KeyError" false) rfl),
    inbB_ok (c.lx.ll.bool 21 (b := inbB "InvalidHabit" "LookupError" false) rfl),
    inkB_ok (c.lx.ll.bool 22 (b := inkB "InvalidHabit" "Missing" false) rfl),
    inbB_ok (c.lx.ll.bool 23 (b := inbB "InvalidHabit" "ValueError" true) rfl),
    of_decide_eq_true (c.lx.ll.bool 24 (b := exB "InvalidHabit") rfl),
    (c.lx.x 3 (e := xe_InvalidSender) rfl).code,
    (c.lx.x 3 (e := xe_InvalidSender) rfl).field rfl,
    xmk1 (c.lx.x 3 (e := xe_InvalidSender) rfl) T.super (He.glo_ok X G (c.lx.ll.fact 21 (f := .glo "InvalidSender") rfl)) rfl rfl rfl (by decide +kernel) ⟨rfl, rfl, rfl, by decide +kernel, rfl, by decide +kernel, by decide +kernel, by decide +kernel⟩ rfl (fun _ => ⟨_, rfl⟩) rfl rfl rfl rfl (by decide) (by decide) (fun _ _ _ _ _ _ _ us hl => match us, hl with | [_, _], _ => rfl),
    xisB_ok (c.lx.ll.bool 25 (b := xisB "InvalidSender") rfl),
    xmk1K (c.lx.x 3 (e := xe_InvalidSender) rfl) T.super (He.glo_ok X G (c.lx.ll.fact 21 (f := .glo "InvalidSender") rfl)) rfl rfl rfl (by decide +kernel) ⟨rfl, rfl, rfl, by decide +kernel, rfl, by decide +kernel, by decide +kernel, by decide +kernel⟩ rfl (fun _ => ⟨_, rfl⟩) rfl rfl rfl rfl (by decide) (by decide) (fun _ _ _ _ _ _ _ _ _ => rfl),
    inkB_ok (c.lx.ll.bool 26 (b := inkB "InvalidSender" "HeardError" true) rfl),
    inbB_ok (c.lx.ll.bool 27 (b := inbB "InvalidSender" "IndexError" false) rfl),
    inbB_ok (c.lx.ll.bool 28 (b := inbB "InvalidSender" "KeyError" false) rfl),
    inbB_ok (c.lx.ll.bool 29 (b := inbB "InvalidSender" "LookupError" false) rfl),
    inkB_ok (c.lx.ll.bool 30 (b := inkB "InvalidSender" "Missing" false) rfl),
    inbB_ok (c.lx.ll.bool 31 (b := inbB "InvalidSender" "ValueError" true) rfl),
    of_decide_eq_true (c.lx.ll.bool 32 (b := exB "InvalidSender") rfl),
    (c.lx.x 4 (e := xe_DuplicateName) rfl).code,
    (c.lx.x 4 (e := xe_DuplicateName) rfl).field rfl,
    xmk1 (c.lx.x 4 (e := xe_DuplicateName) rfl) T.super (He.glo_ok X G (c.lx.ll.fact 22 (f := .glo "DuplicateName") rfl)) rfl rfl rfl (by decide +kernel) ⟨rfl, rfl, rfl, by decide +kernel, rfl, by decide +kernel, by decide +kernel, by decide +kernel⟩ rfl (fun _ => ⟨_, rfl⟩) rfl rfl rfl rfl (by decide) (by decide) (fun _ _ _ _ _ _ _ us hl => match us, hl with | [_, _], _ => rfl),
    xisB_ok (c.lx.ll.bool 33 (b := xisB "DuplicateName") rfl),
    xmk1K (c.lx.x 4 (e := xe_DuplicateName) rfl) T.super (He.glo_ok X G (c.lx.ll.fact 22 (f := .glo "DuplicateName") rfl)) rfl rfl rfl (by decide +kernel) ⟨rfl, rfl, rfl, by decide +kernel, rfl, by decide +kernel, by decide +kernel, by decide +kernel⟩ rfl (fun _ => ⟨_, rfl⟩) rfl rfl rfl rfl (by decide) (by decide) (fun _ _ _ _ _ _ _ _ _ => rfl),
    inkB_ok (c.lx.ll.bool 34 (b := inkB "DuplicateName" "HeardError" true) rfl),
    inbB_ok (c.lx.ll.bool 35 (b := inbB "DuplicateName" "IndexError" false) rfl),
    inbB_ok (c.lx.ll.bool 36 (b := inbB "DuplicateName" "KeyError" false) rfl),
    inbB_ok (c.lx.ll.bool 37 (b := inbB "DuplicateName" "LookupError" false) rfl),
    inkB_ok (c.lx.ll.bool 38 (b := inkB "DuplicateName" "Missing" false) rfl),
    inkB_ok (c.lx.ll.bool 39 (b := inkB "DuplicateName" "UnknownName" false) rfl),
    inbB_ok (c.lx.ll.bool 40 (b := inbB "DuplicateName" "ValueError" true) rfl),
    of_decide_eq_true (c.lx.ll.bool 41 (b := exB "DuplicateName") rfl),
    (c.lx.x 5 (e := xe_TooMany) rfl).code,
    (c.lx.x 5 (e := xe_TooMany) rfl).field rfl,
    xmk1 (c.lx.x 5 (e := xe_TooMany) rfl) T.super (He.glo_ok X G (c.lx.ll.fact 23 (f := .glo "TooMany") rfl)) rfl rfl rfl (by decide +kernel) ⟨rfl, rfl, rfl, by decide +kernel, rfl, by decide +kernel, by decide +kernel, by decide +kernel⟩ rfl (fun _ => ⟨_, rfl⟩) rfl rfl rfl rfl (by decide) (by decide) (fun _ _ _ _ _ _ _ us hl => match us, hl with | [_, _], _ => rfl),
    xisB_ok (c.lx.ll.bool 42 (b := xisB "TooMany") rfl),
    xmk1K (c.lx.x 5 (e := xe_TooMany) rfl) T.super (He.glo_ok X G (c.lx.ll.fact 23 (f := .glo "TooMany") rfl)) rfl rfl rfl (by decide +kernel) ⟨rfl, rfl, rfl, by decide +kernel, rfl, by decide +kernel, by decide +kernel, by decide +kernel⟩ rfl (fun _ => ⟨_, rfl⟩) rfl rfl rfl rfl (by decide) (by decide) (fun _ _ _ _ _ _ _ _ _ => rfl),
    inkB_ok (c.lx.ll.bool 43 (b := inkB "TooMany" "Full" false) rfl),
    inkB_ok (c.lx.ll.bool 44 (b := inkB "TooMany" "HeardError" true) rfl),
    inbB_ok (c.lx.ll.bool 45 (b := inbB "TooMany" "IndexError" false) rfl),
    inbB_ok (c.lx.ll.bool 46 (b := inbB "TooMany" "KeyError" false) rfl),
    inbB_ok (c.lx.ll.bool 47 (b := inbB "TooMany" "LookupError" false) rfl),
    inkB_ok (c.lx.ll.bool 48 (b := inkB "TooMany" "Missing" false) rfl),
    inbB_ok (c.lx.ll.bool 49 (b := inbB "TooMany" "ValueError" true) rfl),
    of_decide_eq_true (c.lx.ll.bool 50 (b := exB "TooMany") rfl),
    (c.lx.x 6 (e := xe_InvalidEntry) rfl).code,
    (c.lx.x 6 (e := xe_InvalidEntry) rfl).field rfl,
    xmk1 (c.lx.x 6 (e := xe_InvalidEntry) rfl) T.super (He.glo_ok X G (c.lx.ll.fact 24 (f := .glo "InvalidEntry") rfl)) rfl rfl rfl (by decide +kernel) ⟨rfl, rfl, rfl, by decide +kernel, rfl, by decide +kernel, by decide +kernel, by decide +kernel⟩ rfl (fun _ => ⟨_, rfl⟩) rfl rfl rfl rfl (by decide) (by decide) (fun _ _ _ _ _ _ _ us hl => match us, hl with | [_, _], _ => rfl),
    xisB_ok (c.lx.ll.bool 51 (b := xisB "InvalidEntry") rfl),
    xmk1K (c.lx.x 6 (e := xe_InvalidEntry) rfl) T.super (He.glo_ok X G (c.lx.ll.fact 24 (f := .glo "InvalidEntry") rfl)) rfl rfl rfl (by decide +kernel) ⟨rfl, rfl, rfl, by decide +kernel, rfl, by decide +kernel, by decide +kernel, by decide +kernel⟩ rfl (fun _ => ⟨_, rfl⟩) rfl rfl rfl rfl (by decide) (by decide) (fun _ _ _ _ _ _ _ _ _ => rfl),
    inkB_ok (c.lx.ll.bool 52 (b := inkB "InvalidEntry" "HeardError" true) rfl),
    inbB_ok (c.lx.ll.bool 53 (b := inbB "InvalidEntry" "IndexError" false) rfl),
    inbB_ok (c.lx.ll.bool 54 (b := inbB "InvalidEntry" "KeyError" false) rfl),
    inbB_ok (c.lx.ll.bool 55 (b := inbB "InvalidEntry" "LookupError" false) rfl),
    inkB_ok (c.lx.ll.bool 56 (b := inkB "InvalidEntry" "Missing" false) rfl),
    inbB_ok (c.lx.ll.bool 57 (b := inbB "InvalidEntry" "ValueError" true) rfl),
    of_decide_eq_true (c.lx.ll.bool 58 (b := exB "InvalidEntry") rfl),
    (c.lx.x 7 (e := xe_InvalidOrder) rfl).code,
    (c.lx.x 7 (e := xe_InvalidOrder) rfl).field rfl,
    xmk1 (c.lx.x 7 (e := xe_InvalidOrder) rfl) T.super (He.glo_ok X G (c.lx.ll.fact 25 (f := .glo "InvalidOrder") rfl)) rfl rfl rfl (by decide +kernel) ⟨rfl, rfl, rfl, by decide +kernel, rfl, by decide +kernel, by decide +kernel, by decide +kernel⟩ rfl (fun _ => ⟨_, rfl⟩) rfl rfl rfl rfl (by decide) (by decide) (fun _ _ _ _ _ _ _ us hl => match us, hl with | [_, _], _ => rfl),
    xisB_ok (c.lx.ll.bool 59 (b := xisB "InvalidOrder") rfl),
    xmk1K (c.lx.x 7 (e := xe_InvalidOrder) rfl) T.super (He.glo_ok X G (c.lx.ll.fact 25 (f := .glo "InvalidOrder") rfl)) rfl rfl rfl (by decide +kernel) ⟨rfl, rfl, rfl, by decide +kernel, rfl, by decide +kernel, by decide +kernel, by decide +kernel⟩ rfl (fun _ => ⟨_, rfl⟩) rfl rfl rfl rfl (by decide) (by decide) (fun _ _ _ _ _ _ _ _ _ => rfl),
    inkB_ok (c.lx.ll.bool 60 (b := inkB "InvalidOrder" "HeardError" true) rfl),
    inbB_ok (c.lx.ll.bool 61 (b := inbB "InvalidOrder" "IndexError" false) rfl),
    inbB_ok (c.lx.ll.bool 62 (b := inbB "InvalidOrder" "KeyError" false) rfl),
    inbB_ok (c.lx.ll.bool 63 (b := inbB "InvalidOrder" "LookupError" false) rfl),
    inkB_ok (c.lx.ll.bool 64 (b := inkB "InvalidOrder" "Missing" false) rfl),
    inbB_ok (c.lx.ll.bool 65 (b := inbB "InvalidOrder" "ValueError" true) rfl),
    of_decide_eq_true (c.lx.ll.bool 66 (b := exB "InvalidOrder") rfl),
    (c.lx.x 8 (e := xe_InvalidPlan) rfl).code,
    (c.lx.x 8 (e := xe_InvalidPlan) rfl).field rfl,
    xmk1 (c.lx.x 8 (e := xe_InvalidPlan) rfl) T.super (He.glo_ok X G (c.lx.ll.fact 26 (f := .glo "InvalidPlan") rfl)) rfl rfl rfl (by decide +kernel) ⟨rfl, rfl, rfl, by decide +kernel, rfl, by decide +kernel, by decide +kernel, by decide +kernel⟩ rfl (fun _ => ⟨_, rfl⟩) rfl rfl rfl rfl (by decide) (by decide) (fun _ _ _ _ _ _ _ us hl => match us, hl with | [_, _], _ => rfl),
    xisB_ok (c.lx.ll.bool 67 (b := xisB "InvalidPlan") rfl),
    xmk1K (c.lx.x 8 (e := xe_InvalidPlan) rfl) T.super (He.glo_ok X G (c.lx.ll.fact 26 (f := .glo "InvalidPlan") rfl)) rfl rfl rfl (by decide +kernel) ⟨rfl, rfl, rfl, by decide +kernel, rfl, by decide +kernel, by decide +kernel, by decide +kernel⟩ rfl (fun _ => ⟨_, rfl⟩) rfl rfl rfl rfl (by decide) (by decide) (fun _ _ _ _ _ _ _ _ _ => rfl),
    inkB_ok (c.lx.ll.bool 68 (b := inkB "InvalidPlan" "HeardError" true) rfl),
    inbB_ok (c.lx.ll.bool 69 (b := inbB "InvalidPlan" "IndexError" false) rfl),
    inbB_ok (c.lx.ll.bool 70 (b := inbB "InvalidPlan" "KeyError" false) rfl),
    inbB_ok (c.lx.ll.bool 71 (b := inbB "InvalidPlan" "LookupError" false) rfl),
    inkB_ok (c.lx.ll.bool 72 (b := inkB "InvalidPlan" "Missing" false) rfl),
    inbB_ok (c.lx.ll.bool 73 (b := inbB "InvalidPlan" "ValueError" true) rfl),
    of_decide_eq_true (c.lx.ll.bool 74 (b := exB "InvalidPlan") rfl),
    (c.lx.x 9 (e := xe_InvalidNumber) rfl).code,
    (c.lx.x 9 (e := xe_InvalidNumber) rfl).field rfl,
    xmk1 (c.lx.x 9 (e := xe_InvalidNumber) rfl) T.super (He.glo_ok X G (c.lx.ll.fact 27 (f := .glo "InvalidNumber") rfl)) rfl rfl rfl (by decide +kernel) ⟨rfl, rfl, rfl, by decide +kernel, rfl, by decide +kernel, by decide +kernel, by decide +kernel⟩ rfl (fun _ => ⟨_, rfl⟩) rfl rfl rfl rfl (by decide) (by decide) (fun _ _ _ _ _ _ _ us hl => match us, hl with | [_, _], _ => rfl),
    xisB_ok (c.lx.ll.bool 75 (b := xisB "InvalidNumber") rfl),
    xmk1K (c.lx.x 9 (e := xe_InvalidNumber) rfl) T.super (He.glo_ok X G (c.lx.ll.fact 27 (f := .glo "InvalidNumber") rfl)) rfl rfl rfl (by decide +kernel) ⟨rfl, rfl, rfl, by decide +kernel, rfl, by decide +kernel, by decide +kernel, by decide +kernel⟩ rfl (fun _ => ⟨_, rfl⟩) rfl rfl rfl rfl (by decide) (by decide) (fun _ _ _ _ _ _ _ _ _ => rfl),
    inkB_ok (c.lx.ll.bool 76 (b := inkB "InvalidNumber" "HeardError" true) rfl),
    inbB_ok (c.lx.ll.bool 77 (b := inbB "InvalidNumber" "IndexError" false) rfl),
    inkB_ok (c.lx.ll.bool 78 (b := inkB "InvalidNumber" "InvalidLimit" false) rfl),
    inbB_ok (c.lx.ll.bool 79 (b := inbB "InvalidNumber" "KeyError" false) rfl),
    inbB_ok (c.lx.ll.bool 80 (b := inbB "InvalidNumber" "LookupError" false) rfl),
    inkB_ok (c.lx.ll.bool 81 (b := inkB "InvalidNumber" "Missing" false) rfl),
    inbB_ok (c.lx.ll.bool 82 (b := inbB "InvalidNumber" "ValueError" true) rfl),
    of_decide_eq_true (c.lx.ll.bool 83 (b := exB "InvalidNumber") rfl),
    (c.lx.x 10 (e := xe_InvalidLimit) rfl).code,
    (c.lx.x 10 (e := xe_InvalidLimit) rfl).field rfl,
    xmk1 (c.lx.x 10 (e := xe_InvalidLimit) rfl) T.super (He.glo_ok X G (c.lx.ll.fact 28 (f := .glo "InvalidLimit") rfl)) rfl rfl rfl (by decide +kernel) ⟨rfl, rfl, rfl, by decide +kernel, rfl, by decide +kernel, by decide +kernel, by decide +kernel⟩ rfl (fun _ => ⟨_, rfl⟩) rfl rfl rfl rfl (by decide) (by decide) (fun _ _ _ _ _ _ _ us hl => match us, hl with | [_, _], _ => rfl),
    xisB_ok (c.lx.ll.bool 84 (b := xisB "InvalidLimit") rfl),
    xmk1K (c.lx.x 10 (e := xe_InvalidLimit) rfl) T.super (He.glo_ok X G (c.lx.ll.fact 28 (f := .glo "InvalidLimit") rfl)) rfl rfl rfl (by decide +kernel) ⟨rfl, rfl, rfl, by decide +kernel, rfl, by decide +kernel, by decide +kernel, by decide +kernel⟩ rfl (fun _ => ⟨_, rfl⟩) rfl rfl rfl rfl (by decide) (by decide) (fun _ _ _ _ _ _ _ _ _ => rfl),
    inkB_ok (c.lx.ll.bool 85 (b := inkB "InvalidLimit" "HeardError" true) rfl),
    inbB_ok (c.lx.ll.bool 86 (b := inbB "InvalidLimit" "IndexError" false) rfl),
    inbB_ok (c.lx.ll.bool 87 (b := inbB "InvalidLimit" "KeyError" false) rfl),
    inbB_ok (c.lx.ll.bool 88 (b := inbB "InvalidLimit" "LookupError" false) rfl),
    inkB_ok (c.lx.ll.bool 89 (b := inkB "InvalidLimit" "Missing" false) rfl),
    inbB_ok (c.lx.ll.bool 90 (b := inbB "InvalidLimit" "ValueError" true) rfl),
    of_decide_eq_true (c.lx.ll.bool 91 (b := exB "InvalidLimit") rfl),
    (c.lx.x 11 (e := xe_InvalidText) rfl).code,
    xmk0 (c.lx.x 11 (e := xe_InvalidText) rfl) T.super (He.glo_ok X G (c.lx.ll.fact 29 (f := .glo "InvalidText") rfl)) rfl rfl (by decide +kernel) ⟨rfl, rfl, rfl, by decide +kernel, rfl, by decide +kernel, by decide +kernel, by decide +kernel⟩ rfl (fun _ => ⟨_, rfl⟩) rfl rfl rfl rfl (fun _ _ _ _ _ _ _ us hl => match us, hl with | [_], _ => rfl),
    xisB_ok (c.lx.ll.bool 92 (b := xisB "InvalidText") rfl),
    inkB_ok (c.lx.ll.bool 93 (b := inkB "InvalidText" "HeardError" true) rfl),
    inbB_ok (c.lx.ll.bool 94 (b := inbB "InvalidText" "IndexError" false) rfl),
    inbB_ok (c.lx.ll.bool 95 (b := inbB "InvalidText" "KeyError" false) rfl),
    inbB_ok (c.lx.ll.bool 96 (b := inbB "InvalidText" "LookupError" false) rfl),
    inkB_ok (c.lx.ll.bool 97 (b := inkB "InvalidText" "Missing" false) rfl),
    inbB_ok (c.lx.ll.bool 98 (b := inbB "InvalidText" "ValueError" true) rfl),
    of_decide_eq_true (c.lx.ll.bool 99 (b := exB "InvalidText") rfl),
    (c.lx.x 12 (e := xe_InvalidPage) rfl).code,
    (c.lx.x 12 (e := xe_InvalidPage) rfl).field rfl,
    xmk1 (c.lx.x 12 (e := xe_InvalidPage) rfl) T.super (He.glo_ok X G (c.lx.ll.fact 30 (f := .glo "InvalidPage") rfl)) rfl rfl rfl (by decide +kernel) ⟨rfl, rfl, rfl, by decide +kernel, rfl, by decide +kernel, by decide +kernel, by decide +kernel⟩ rfl (fun _ => ⟨_, rfl⟩) rfl rfl rfl rfl (by decide) (by decide) (fun _ _ _ _ _ _ _ us hl => match us, hl with | [_, _], _ => rfl),
    xisB_ok (c.lx.ll.bool 100 (b := xisB "InvalidPage") rfl),
    xmk1K (c.lx.x 12 (e := xe_InvalidPage) rfl) T.super (He.glo_ok X G (c.lx.ll.fact 30 (f := .glo "InvalidPage") rfl)) rfl rfl rfl (by decide +kernel) ⟨rfl, rfl, rfl, by decide +kernel, rfl, by decide +kernel, by decide +kernel, by decide +kernel⟩ rfl (fun _ => ⟨_, rfl⟩) rfl rfl rfl rfl (by decide) (by decide) (fun _ _ _ _ _ _ _ _ _ => rfl),
    inkB_ok (c.lx.ll.bool 101 (b := inkB "InvalidPage" "HeardError" true) rfl),
    inbB_ok (c.lx.ll.bool 102 (b := inbB "InvalidPage" "IndexError" false) rfl),
    inbB_ok (c.lx.ll.bool 103 (b := inbB "InvalidPage" "KeyError" false) rfl),
    inbB_ok (c.lx.ll.bool 104 (b := inbB "InvalidPage" "LookupError" false) rfl),
    inkB_ok (c.lx.ll.bool 105 (b := inkB "InvalidPage" "Missing" false) rfl),
    inbB_ok (c.lx.ll.bool 106 (b := inbB "InvalidPage" "ValueError" true) rfl),
    of_decide_eq_true (c.lx.ll.bool 107 (b := exB "InvalidPage") rfl),
    (c.lx.x 13 (e := xe_OtherNames) rfl).code,
    xmk0 (c.lx.x 13 (e := xe_OtherNames) rfl) T.super (He.glo_ok X G (c.lx.ll.fact 31 (f := .glo "OtherNames") rfl)) rfl rfl (by decide +kernel) ⟨rfl, rfl, rfl, by decide +kernel, rfl, by decide +kernel, by decide +kernel, by decide +kernel⟩ rfl (fun _ => ⟨_, rfl⟩) rfl rfl rfl rfl (fun _ _ _ _ _ _ _ us hl => match us, hl with | [_], _ => rfl),
    xisB_ok (c.lx.ll.bool 108 (b := xisB "OtherNames") rfl),
    inkB_ok (c.lx.ll.bool 109 (b := inkB "OtherNames" "HeardError" true) rfl),
    inbB_ok (c.lx.ll.bool 110 (b := inbB "OtherNames" "IndexError" false) rfl),
    inbB_ok (c.lx.ll.bool 111 (b := inbB "OtherNames" "KeyError" false) rfl),
    inbB_ok (c.lx.ll.bool 112 (b := inbB "OtherNames" "LookupError" false) rfl),
    inkB_ok (c.lx.ll.bool 113 (b := inkB "OtherNames" "Missing" false) rfl),
    inbB_ok (c.lx.ll.bool 114 (b := inbB "OtherNames" "ValueError" true) rfl),
    of_decide_eq_true (c.lx.ll.bool 115 (b := exB "OtherNames") rfl),
    (c.lx.x 14 (e := xe_NoOrder) rfl).code,
    xmk0 (c.lx.x 14 (e := xe_NoOrder) rfl) T.super (He.glo_ok X G (c.lx.ll.fact 32 (f := .glo "NoOrder") rfl)) rfl rfl (by decide +kernel) ⟨rfl, rfl, rfl, by decide +kernel, rfl, by decide +kernel, by decide +kernel, by decide +kernel⟩ rfl (fun _ => ⟨_, rfl⟩) rfl rfl rfl rfl (fun _ _ _ _ _ _ _ us hl => match us, hl with | [_], _ => rfl),
    xisB_ok (c.lx.ll.bool 116 (b := xisB "NoOrder") rfl),
    inkB_ok (c.lx.ll.bool 117 (b := inkB "NoOrder" "HeardError" true) rfl),
    inbB_ok (c.lx.ll.bool 118 (b := inbB "NoOrder" "IndexError" false) rfl),
    inbB_ok (c.lx.ll.bool 119 (b := inbB "NoOrder" "KeyError" false) rfl),
    inbB_ok (c.lx.ll.bool 120 (b := inbB "NoOrder" "LookupError" false) rfl),
    inkB_ok (c.lx.ll.bool 121 (b := inkB "NoOrder" "Missing" false) rfl),
    inbB_ok (c.lx.ll.bool 122 (b := inbB "NoOrder" "ValueError" true) rfl),
    of_decide_eq_true (c.lx.ll.bool 123 (b := exB "NoOrder") rfl),
    (c.lx.x 15 (e := xe_Full) rfl).code,
    (c.lx.x 15 (e := xe_Full) rfl).field rfl,
    xmk1 (c.lx.x 15 (e := xe_Full) rfl) T.super (He.glo_ok X G (c.lx.ll.fact 33 (f := .glo "Full") rfl)) rfl rfl rfl (by decide +kernel) ⟨rfl, rfl, rfl, by decide +kernel, rfl, by decide +kernel, by decide +kernel, by decide +kernel⟩ rfl (fun _ => ⟨_, rfl⟩) rfl rfl rfl rfl (by decide) (by decide) (fun _ _ _ _ _ _ _ us hl => match us, hl with | [_, _], _ => rfl),
    xisB_ok (c.lx.ll.bool 124 (b := xisB "Full") rfl),
    xmk1K (c.lx.x 15 (e := xe_Full) rfl) T.super (He.glo_ok X G (c.lx.ll.fact 33 (f := .glo "Full") rfl)) rfl rfl rfl (by decide +kernel) ⟨rfl, rfl, rfl, by decide +kernel, rfl, by decide +kernel, by decide +kernel, by decide +kernel⟩ rfl (fun _ => ⟨_, rfl⟩) rfl rfl rfl rfl (by decide) (by decide) (fun _ _ _ _ _ _ _ _ _ => rfl),
    inkB_ok (c.lx.ll.bool 125 (b := inkB "Full" "HeardError" true) rfl),
    inbB_ok (c.lx.ll.bool 126 (b := inbB "Full" "IndexError" false) rfl),
    inbB_ok (c.lx.ll.bool 127 (b := inbB "Full" "KeyError" false) rfl),
    inbB_ok (c.lx.ll.bool 128 (b := inbB "Full" "LookupError" false) rfl),
    inkB_ok (c.lx.ll.bool 129 (b := inkB "Full" "Missing" false) rfl),
    inkB_ok (c.lx.ll.bool 130 (b := inkB "Full" "TooMany" false) rfl),
    inbB_ok (c.lx.ll.bool 131 (b := inbB "Full" "ValueError" true) rfl),
    of_decide_eq_true (c.lx.ll.bool 132 (b := exB "Full") rfl),
    (c.lx.x 16 (e := xe_UnknownName) rfl).code,
    (c.lx.x 16 (e := xe_UnknownName) rfl).field rfl,
    xmk1 (c.lx.x 16 (e := xe_UnknownName) rfl) T.super (He.glo_ok X G (c.lx.ll.fact 34 (f := .glo "UnknownName") rfl)) rfl rfl rfl (by decide +kernel) ⟨rfl, rfl, rfl, by decide +kernel, rfl, by decide +kernel, by decide +kernel, by decide +kernel⟩ rfl (fun _ => ⟨_, rfl⟩) rfl rfl rfl rfl (by decide) (by decide) (fun _ _ _ _ _ _ _ us hl => match us, hl with | [_, _], _ => rfl),
    xisB_ok (c.lx.ll.bool 133 (b := xisB "UnknownName") rfl),
    xmk1K (c.lx.x 16 (e := xe_UnknownName) rfl) T.super (He.glo_ok X G (c.lx.ll.fact 34 (f := .glo "UnknownName") rfl)) rfl rfl rfl (by decide +kernel) ⟨rfl, rfl, rfl, by decide +kernel, rfl, by decide +kernel, by decide +kernel, by decide +kernel⟩ rfl (fun _ => ⟨_, rfl⟩) rfl rfl rfl rfl (by decide) (by decide) (fun _ _ _ _ _ _ _ _ _ => rfl),
    inkB_ok (c.lx.ll.bool 134 (b := inkB "UnknownName" "HeardError" false) rfl),
    inbB_ok (c.lx.ll.bool 135 (b := inbB "UnknownName" "IndexError" false) rfl),
    inbB_ok (c.lx.ll.bool 136 (b := inbB "UnknownName" "KeyError" false) rfl),
    inbB_ok (c.lx.ll.bool 137 (b := inbB "UnknownName" "LookupError" true) rfl),
    inkB_ok (c.lx.ll.bool 138 (b := inkB "UnknownName" "Missing" true) rfl),
    inkB_ok (c.lx.ll.bool 139 (b := inkB "UnknownName" "UnknownLog" false) rfl),
    inbB_ok (c.lx.ll.bool 140 (b := inbB "UnknownName" "ValueError" false) rfl),
    of_decide_eq_true (c.lx.ll.bool 141 (b := exB "UnknownName") rfl),
    (c.lx.x 17 (e := xe_UnknownMessage) rfl).code,
    (c.lx.x 17 (e := xe_UnknownMessage) rfl).field rfl,
    xmk1 (c.lx.x 17 (e := xe_UnknownMessage) rfl) T.super (He.glo_ok X G (c.lx.ll.fact 35 (f := .glo "UnknownMessage") rfl)) rfl rfl rfl (by decide +kernel) ⟨rfl, rfl, rfl, by decide +kernel, rfl, by decide +kernel, by decide +kernel, by decide +kernel⟩ rfl (fun _ => ⟨_, rfl⟩) rfl rfl rfl rfl (by decide) (by decide) (fun _ _ _ _ _ _ _ us hl => match us, hl with | [_, _], _ => rfl),
    xisB_ok (c.lx.ll.bool 142 (b := xisB "UnknownMessage") rfl),
    xmk1K (c.lx.x 17 (e := xe_UnknownMessage) rfl) T.super (He.glo_ok X G (c.lx.ll.fact 35 (f := .glo "UnknownMessage") rfl)) rfl rfl rfl (by decide +kernel) ⟨rfl, rfl, rfl, by decide +kernel, rfl, by decide +kernel, by decide +kernel, by decide +kernel⟩ rfl (fun _ => ⟨_, rfl⟩) rfl rfl rfl rfl (by decide) (by decide) (fun _ _ _ _ _ _ _ _ _ => rfl),
    inkB_ok (c.lx.ll.bool 143 (b := inkB "UnknownMessage" "HeardError" false) rfl),
    inbB_ok (c.lx.ll.bool 144 (b := inbB "UnknownMessage" "IndexError" false) rfl),
    inbB_ok (c.lx.ll.bool 145 (b := inbB "UnknownMessage" "KeyError" false) rfl),
    inbB_ok (c.lx.ll.bool 146 (b := inbB "UnknownMessage" "LookupError" true) rfl),
    inkB_ok (c.lx.ll.bool 147 (b := inkB "UnknownMessage" "Missing" true) rfl),
    inkB_ok (c.lx.ll.bool 148 (b := inkB "UnknownMessage" "UnknownName" false) rfl),
    inbB_ok (c.lx.ll.bool 149 (b := inbB "UnknownMessage" "ValueError" false) rfl),
    of_decide_eq_true (c.lx.ll.bool 150 (b := exB "UnknownMessage") rfl),
    (c.lx.x 18 (e := xe_UnknownLog) rfl).code,
    (c.lx.x 18 (e := xe_UnknownLog) rfl).field rfl,
    xmk1 (c.lx.x 18 (e := xe_UnknownLog) rfl) T.super (He.glo_ok X G (c.lx.ll.fact 36 (f := .glo "UnknownLog") rfl)) rfl rfl rfl (by decide +kernel) ⟨rfl, rfl, rfl, by decide +kernel, rfl, by decide +kernel, by decide +kernel, by decide +kernel⟩ rfl (fun _ => ⟨_, rfl⟩) rfl rfl rfl rfl (by decide) (by decide) (fun _ _ _ _ _ _ _ us hl => match us, hl with | [_, _], _ => rfl),
    xisB_ok (c.lx.ll.bool 151 (b := xisB "UnknownLog") rfl),
    xmk1K (c.lx.x 18 (e := xe_UnknownLog) rfl) T.super (He.glo_ok X G (c.lx.ll.fact 36 (f := .glo "UnknownLog") rfl)) rfl rfl rfl (by decide +kernel) ⟨rfl, rfl, rfl, by decide +kernel, rfl, by decide +kernel, by decide +kernel, by decide +kernel⟩ rfl (fun _ => ⟨_, rfl⟩) rfl rfl rfl rfl (by decide) (by decide) (fun _ _ _ _ _ _ _ _ _ => rfl),
    inkB_ok (c.lx.ll.bool 152 (b := inkB "UnknownLog" "HeardError" false) rfl),
    inbB_ok (c.lx.ll.bool 153 (b := inbB "UnknownLog" "IndexError" false) rfl),
    inbB_ok (c.lx.ll.bool 154 (b := inbB "UnknownLog" "KeyError" false) rfl),
    inbB_ok (c.lx.ll.bool 155 (b := inbB "UnknownLog" "LookupError" true) rfl),
    inkB_ok (c.lx.ll.bool 156 (b := inkB "UnknownLog" "Missing" true) rfl),
    inbB_ok (c.lx.ll.bool 157 (b := inbB "UnknownLog" "ValueError" false) rfl),
    of_decide_eq_true (c.lx.ll.bool 158 (b := exB "UnknownLog") rfl)⟩
theorem law_holds {w : World} {K : PySem.W.Frag} {mg : Str → Option Value} {base : Heap} (T : Facts mg) (D : Defs K mg) (XX : XF (PySem.Challenge.rw_heardwire_k60_errors_and_their_classes).prog w K mg base)  (hTB : TabBs K mg base) :
    ∀ fd, FunD K d_law.name d_law.qual d_law.params d_law.body d_law.scope (d_law.dvs K) (d_law.kws K) (He.fAd K d_law.at_) fd → FnOk (PySem.Challenge.rw_heardwire_k60_errors_and_their_classes).prog w K mg base CX0 70 (He.fAd K d_law.at_) fd ["_law_script"] (spLaw K) := by
  have c__law_draw : FnV (PySem.Challenge.rw_heardwire_k60_errors_and_their_classes).prog w K mg base d__law_draw 1 ["_law_bag_here", "_law_many"] fDraw := ok_draw D._law_draw T
  have c__law_pick : FnV (PySem.Challenge.rw_heardwire_k60_errors_and_their_classes).prog w K mg base d__law_pick 2 ["_law_bag_here", "_law_some"] fPickT := ok_pick D._law_pick T c__law_draw
  have c__law_field : FnV (PySem.Challenge.rw_heardwire_k60_errors_and_their_classes).prog w K mg base d__law_field 1 ["_law_e"] (fLField K) := ok_lfield D._law_field T XX
  have c__law_same : FnV (PySem.Challenge.rw_heardwire_k60_errors_and_their_classes).prog w K mg base d__law_same 4 ["_law_found", "_law_due"] (fSame 4) := ok_same D._law_same T 4
  exact ok_law T XX hTB D._law_bag c__law_draw c__law_pick c__law_field c__law_same
theorem facts {w : World} {K : PySem.W.Frag} {h : Heap} {mg : Str → Option Value} {f : Addr} (X : K.In h) (G : h.Ns mainGlobals mg) (hfa : mg ("law" : Str) = some (.ref f)) (c : lk.Ok K) :
    ∃ fd : FuncData, (∀ (s : Shared) (v : Value), BindsTo s fd ⟨[v], []⟩ [("_law_script", v)]) ∧ ∀ base : Heap, K.In base → base.Ns mainGlobals mg → TabBs K mg base → FnOk (PySem.Challenge.rw_heardwire_k60_errors_and_their_classes).prog w K mg base CX0 70 f fd ["_law_script"] (spLaw K) := by
  obtain ⟨T, D⟩ := defs_of X G c
  obtain ⟨fd, F⟩ := D.law.fd
  have e := hfa.symm.trans D.law.mg
  cases e
  have b := FunD.bindsA (ps := ["_law_script"]) F fun _ _ _ _ _ _ us hl => match us, hl with | [_], _ => rfl
  exact ⟨fd, fun s v => b s [v] rfl, fun base _ _ hTB => law_holds (w := w) (base := base) T D (xf_of X G c T) hTB fd F⟩
end K60
open PySem PySem.W PySem.Calls PyProof.Rows
theorem PySem.Challenge.cw_heardwire_k60_errors_and_their_classes_holds : PySem.Challenge.rw_heardwire_k60_errors_and_their_classes.Holds := by
  w_on; o_law
  refine HandSHeadRun.head_any (r := OpenLaw.row PySem.Challenge.rw_heardwire_k60_errors_and_their_classes) (q := view (OpenLaw.row PySem.Challenge.rw_heardwire_k60_errors_and_their_classes).prog [28]) (H := K60.hk) (ob := K60.ob) (M := 16000) (loose := K60.loose) (d := HandSHeadRun.topDef (OpenLaw.row PySem.Challenge.rw_heardwire_k60_errors_and_their_classes).prog 28) (kwd := []) K60.ob_eq
    (by kernel_rfl) (fun s => by kernel_rfl) K60.run (by kernel_rfl) (by kernel_rfl) (by kernel_rfl) (by rfl) (by first | assumption | decide +kernel) (by decide +kernel) ⟨rfl, rfl, rfl, rfl, rfl, by decide +kernel⟩ ?hw ?hc
  case hw => w_witness2
  case hc =>
    refine LamX.walk_ofTsE (l := PySem.Challenge.rw_heardwire_k60_errors_and_their_classes) (n := 63) (k := 70) (x := "_law_script") (CX := fun _ => L2.CX0) rfl (by decide) (by kernel_rfl) ⟨rfl, by decide, by decide⟩ ?F (fun _ _ _ _ _ z => z)
    intro w mg fa h Y G hmg0
    obtain ⟨K, KX, c, t, u⟩ := Y
    have hmg : mg ("law" : PySem.Str) = some (.ref fa) := by
      have e : (HandSHeadRun.topDef (OpenLaw.row PySem.Challenge.rw_heardwire_k60_errors_and_their_classes).prog 28).name = ("law" : PySem.Str) := by kernel_rfl
      rw [← e]
      exact hmg0
    obtain ⟨fd, hb, hF⟩ := K60.facts (w := w) KX G hmg c
    exact VT.lawAtZ KX t u hb hF
