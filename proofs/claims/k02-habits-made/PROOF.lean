import PyProof.Rows.All
import Wide.All
import OpenK.AllK
import Wide.FinOn
import HandS.ForMost
import HandS.IsInst
import HandS.Wide
import HandS.Style
import HandS.TupAny
import HandS.Flow
import HandS.Exc
import HandS.ExcInit
import HandS.ExcValue
import HandS.Lambda
import HandS.HeadHook4
import KE.KDflt
import HandS.Deep
import PyProof.StrBlock2
import HandS.Zip
import HandS.More
import HandS.Defaults
import HandS.HeadHook2
import HandS.Head0
import HandS.Head1
import HandS.Head2
import HandS.HeadEnd
import HandS.Codes
import HandS.Dict
import HandS.Property
import HandS.MakeKwOnly
import HandS.Small
import HandS.DictComp
import HandS.HeadHook1
import HandS.MakeKw
import HandS.WordsExc
import HandS.ClsMeth
import KE.KSuper
import KE.KExcSuper
import HandS.TryOnly
import HandS.TryMany
import HandS.ExcField
import KE.KTryMore
import HandS.Conv
import HandS.Strs
import HandS.FStr
import PyProof.CollectStr
import PyProof.TupleOfSeq
import HandS.HeadWalk
import HandS.HotCalls
import HandS.OwnEq
import KE.GoesEnum
import HandS.RaiseMore
import HandS.Star
import PySem.Challenge.RW_heardwire_k02_habits_made_and_refused
set_option Elab.async false
set_option linter.all false
set_option maxRecDepth 100000
set_option maxHeartbeats 4000000
set_option autoImplicit false
/-! VT: values as trees over HandS. -/
namespace VT
open PySem PySem.Spec PyProof.Rows L2

/-- a text of the world -/
def okS (x : Str) : Prop := PyData.strOk x = true ∧ x.length ≤ sizeLine
instance (x : Str) : Decidable (okS x) := inferInstanceAs (Decidable (_ ∧ _))
/-- a lambda's text: its own and its maker's scope; dfl: it has one parameter, whose default is 0 -/
structure LamSt where
  id : Nat
  qual : Str
  params : Arguments
  body : Expr
  scope : Scope
  sup : Scope
  dfl : Bool
/-- a lambda made in a frame whose objects stand from n on -/
structure LamB where
  st : LamSt
  n : Nat
def LamB.clo (b : LamB) : List (Str × Addr) := L2.cloFrom (cellsFrom (b.n + 1) b.st.sup.names []) b.st.scope.names []
/-- the function object of a lambda -/
def lamO (f c' : Addr) (dV : Value) (b : LamB) : HO := .ext fun h => ∃ doc pm ctv, h.get? f = some (PySem.W.kdv_obj "<lambda>" b.st.qual b.st.params (.expr b.st.body) b.st.scope b.clo dV doc pm c' ctv)
/-- data without addresses -/
inductive D where
  | non | bl (b : Bool) | int (i : Int) | str (x : Str)
  | lst (xs : List D) | tup (xs : List D)
  | dic (kvs : List (Key × D)) | dit (kvs : List (List Key × D))
  | ins (C : Addr) (fs : List (Str × D))
  | exn (C : Addr) (fs : List (Str × D))
  | fn (f : Addr) (b : LamB)
  | opq

/-- an exception at a, raised or not: its class, its dict -/
def exnO (a C dx : Addr) : HO := .ext fun h => ∃ (oe : Obj) (vs : Array Value), h.get? a = some oe ∧ oe.cls = .ref C ∧ oe.dict = some dx ∧ oe.data = .fields vs
mutual
def rep (F : Hp) : D → V → Prop
  | .non, v => v = .non
  | .bl b, v => v = .bl b
  | .int i, v => v = .int i
  | .str x, v => v = .str x ∧ okS x
  | .lst ds, v => ∃ a vs, v = .ref a ∧ F a = some (.lst vs) ∧ reps F ds vs
  | .tup ds, v => ∃ a vs, v = .ref a ∧ Rd F a (.tup vs) ∧ reps F ds vs
  | .dic kvs, v => ∃ a ws, v = .ref a ∧ F a = some (.dK ws) ∧ repk F kvs ws
  | .dit kvs, v => ∃ a ws, v = .ref a ∧ F a = some (.dT ws) ∧ rept F kvs ws
  | .ins C fs, v => ∃ a dx ws, v = .ref a ∧ F a = some (.ins C dx ws) ∧ F dx = some (.own a) ∧ repf F fs ws
  | .exn C fs, v => ∃ a dx ws o, v = .ref a ∧ F a = some (.frz o (exnO a C dx)) ∧ F dx = some (.xd ws) ∧ repf F fs ws
  | .fn f b, v => v = .ref f ∧ ∃ c' dV, F f = some (lamO f c' dV b) ∧ F c' = some (LamX.CodeO c' b.st.qual) ∧ ((b.st.dfl = false ∧ dV = .none) ∨ (b.st.dfl = true ∧ ∃ T, dV = .ref T ∧ F T = some (.tup [.int 0])))
  | .opq, _ => False
def reps (F : Hp) : List D → List V → Prop
  | [], vs => vs = []
  | d :: ds, vs => ∃ v r, vs = v :: r ∧ rep F d v ∧ reps F ds r
def repk (F : Hp) : List (Key × D) → List (Key × V) → Prop
  | [], ws => ws = []
  | (k, d) :: r, ws => ∃ v t, ws = (k, v) :: t ∧ rep F d v ∧ repk F r t
def rept (F : Hp) : List (List Key × D) → List (List Key × V) → Prop
  | [], ws => ws = []
  | (k, d) :: r, ws => ∃ v t, ws = (k, v) :: t ∧ rep F d v ∧ rept F r t
def repf (F : Hp) : List (Str × D) → List (Str × V) → Prop
  | [], ws => ws = []
  | (k, d) :: r, ws => ∃ v t, ws = (k, v) :: t ∧ rep F d v ∧ repf F r t
end

section
variable {F F' : Hp}
mutual
theorem rep.mono (h : ∀ b o, F b = some o → F' b = some o) : ∀ (d : D) (v : V), rep F d v → rep F' d v
  | .non, _, r => r
  | .bl _, _, r => r
  | .int _, _, r => r
  | .str _, _, r => r
  | .lst ds, _, ⟨a, vs, e, q, r⟩ => ⟨a, vs, e, h _ _ q, reps.mono h ds vs r⟩
  | .tup ds, _, ⟨a, vs, e, q, r⟩ => ⟨a, vs, e, q.imp (h _ _) fun ⟨o, q⟩ => ⟨o, h _ _ q⟩, reps.mono h ds vs r⟩
  | .dic kvs, _, ⟨a, ws, e, q, r⟩ => ⟨a, ws, e, h _ _ q, repk.mono h kvs ws r⟩
  | .dit kvs, _, ⟨a, ws, e, q, r⟩ => ⟨a, ws, e, h _ _ q, rept.mono h kvs ws r⟩
  | .ins C fs, _, ⟨a, dx, ws, e, q, q2, r⟩ => ⟨a, dx, ws, e, h _ _ q, h _ _ q2, repf.mono h fs ws r⟩
  | .exn C fs, _, ⟨a, dx, ws, o, e, q, q2, r⟩ => ⟨a, dx, ws, o, e, h _ _ q, h _ _ q2, repf.mono h fs ws r⟩
  | .fn _ _, _, ⟨e, c, dV, h1, h2, h3⟩ => ⟨e, c, dV, h _ _ h1, h _ _ h2, h3.imp id fun ⟨a, T, b, h4⟩ => ⟨a, T, b, h _ _ h4⟩⟩
  | .opq, _, r => r
theorem reps.mono (h : ∀ b o, F b = some o → F' b = some o) : ∀ (ds : List D) (vs : List V), reps F ds vs → reps F' ds vs
  | [], _, r => r
  | d :: ds, _, ⟨v, r, e, q, z⟩ => ⟨v, r, e, rep.mono h d v q, reps.mono h ds r z⟩
theorem repk.mono (h : ∀ b o, F b = some o → F' b = some o) : ∀ (ds : List (Key × D)) (vs : List (Key × V)), repk F ds vs → repk F' ds vs
  | [], _, r => r
  | (k, d) :: ds, _, ⟨v, r, e, q, z⟩ => ⟨v, r, e, rep.mono h d v q, repk.mono h ds r z⟩
theorem rept.mono (h : ∀ b o, F b = some o → F' b = some o) : ∀ (ds : List (List Key × D)) (vs : List (List Key × V)), rept F ds vs → rept F' ds vs
  | [], _, r => r
  | (k, d) :: ds, _, ⟨v, r, e, q, z⟩ => ⟨v, r, e, rep.mono h d v q, rept.mono h ds r z⟩
theorem repf.mono (h : ∀ b o, F b = some o → F' b = some o) : ∀ (ds : List (Str × D)) (vs : List (Str × V)), repf F ds vs → repf F' ds vs
  | [], _, r => r
  | (k, d) :: ds, _, ⟨v, r, e, q, z⟩ => ⟨v, r, e, rep.mono h d v q, repf.mono h ds r z⟩
end
theorem reps.length : ∀ {ds : List D} {vs : List V}, reps F ds vs → vs.length = ds.length
  | [], _, r => by rw [show _ = [] from r]; rfl
  | _ :: _, _, ⟨v, r, e, _, z⟩ => by rw [e, List.length_cons, List.length_cons, reps.length z]
theorem reps.append : ∀ {ds es : List D} {vs ws : List V}, reps F ds vs → reps F es ws → reps F (ds ++ es) (vs ++ ws)
  | [], _, _, _, r, s => by rw [show _ = [] from r]; exact s
  | _ :: _, _, _, _, ⟨v, r, e, q, z⟩, s => by rw [e]; exact ⟨v, _, rfl, q, reps.append z s⟩
theorem reps.get : ∀ {ds : List D} {vs : List V} {i : Nat} {d : D}, reps F ds vs → ds[i]? = some d → ∃ v, vs[i]? = some v ∧ rep F d v
  | [], _, _, _, _, e => by simp at e
  | _ :: _, _, 0, _, ⟨v, r, e, q, z⟩, h => by
    rw [e]
    have h : some _ = some _ := h
    cases h
    exact ⟨v, rfl, q⟩
  | _ :: _, _, i + 1, _, ⟨v, r, e, q, z⟩, h => by
    rw [e]
    exact reps.get (i := i) z h
theorem reps.get' : ∀ {ds : List D} {vs : List V} {i : Nat} {v : V}, reps F ds vs → vs[i]? = some v → ∃ d, ds[i]? = some d ∧ rep F d v
  | [], _, _, _, r, e => by rw [show _ = [] from r] at e; simp at e
  | d :: _, _, 0, _, ⟨v, r, e, q, z⟩, h => by
    rw [e] at h
    have h : some _ = some _ := h
    cases h
    exact ⟨d, rfl, q⟩
  | _ :: _, _, i + 1, _, ⟨v, r, e, q, z⟩, h => by
    rw [e] at h
    exact reps.get' (i := i) z h
theorem reps.take : ∀ {ds : List D} {vs : List V} (n : Nat), reps F ds vs → reps F (ds.take n) (vs.take n)
  | _, _, 0, _ => rfl
  | [], _, _ + 1, r => by rw [show _ = [] from r]; rfl
  | _ :: _, _, n + 1, ⟨v, r, e, q, z⟩ => by rw [e]; exact ⟨v, _, rfl, q, reps.take n z⟩
theorem reps.drop : ∀ {ds : List D} {vs : List V} (n : Nat), reps F ds vs → reps F (ds.drop n) (vs.drop n)
  | _, _, 0, r => r
  | [], _, _ + 1, r => by rw [show _ = [] from r]; rfl
  | _ :: _, _, n + 1, ⟨v, r, e, q, z⟩ => by rw [e]; exact reps.drop n z
theorem reps.set : ∀ {ds : List D} {vs : List V} (n : Nat) {d : D} {v : V}, reps F ds vs → rep F d v → reps F (ds.set n d) (vs.set n v)
  | [], _, _, _, _, r, _ => by rw [show _ = [] from r]; rfl
  | _ :: _, _, 0, _, _, ⟨v, r, e, q, z⟩, h => by rw [e]; exact ⟨_, _, rfl, h, z⟩
  | _ :: _, _, n + 1, _, _, ⟨v, r, e, q, z⟩, h => by rw [e]; exact ⟨v, _, rfl, q, reps.set n z h⟩
theorem reps.reverse : ∀ {ds : List D} {vs : List V}, reps F ds vs → reps F ds.reverse vs.reverse
  | [], _, r => by rw [show _ = [] from r]; rfl
  | _ :: _, _, ⟨v, r, e, q, z⟩ => by
    rw [e, List.reverse_cons, List.reverse_cons]
    exact reps.append (reps.reverse z) ⟨v, [], rfl, q, rfl⟩
theorem reps.map_int : ∀ {ns : List Int} {vs : List V}, reps F (ns.map D.int) vs → vs = ns.map V.int
  | [], _, r => r
  | _ :: ns, _, ⟨v, r, e, q, z⟩ => by
    rw [e, show v = _ from q, reps.map_int (ns := ns) z]
    rfl
theorem reps.of_int : ∀ {ns : List Int}, reps F (ns.map D.int) (ns.map V.int)
  | [] => rfl
  | _ :: ns => ⟨_, _, rfl, rfl, reps.of_int (ns := ns)⟩
theorem reps.map_str : ∀ {ns : List Str} {vs : List V}, reps F (ns.map D.str) vs → vs = ns.map V.str ∧ ∀ x ∈ ns, okS x
  | [], _, r => ⟨r, fun _ h => nomatch h⟩
  | n :: ns, _, ⟨v, r, e, q, z⟩ => by
    obtain ⟨h1, h2⟩ := reps.map_str (ns := ns) z
    refine ⟨by rw [e, show v = _ from q.1, h1]; rfl, fun x h => ?_⟩
    rcases List.mem_cons.mp h with rfl | h
    · exact q.2
    · exact h2 x h
theorem reps.map_bl : ∀ {ns : List Bool} {vs : List V}, reps F (ns.map D.bl) vs → vs = ns.map V.bl
  | [], _, r => r
  | _ :: ns, _, ⟨v, r, e, q, z⟩ => by
    rw [e, show v = _ from q, reps.map_bl (ns := ns) z]
    rfl
end

/-- a field of an object under way: a frozen tree, or an object of its own -/
inductive FV where
  | tr (d : D) | own (d : D)
/-- how a value is held: a frozen tree; an object of this frame's own, not yet shared; a parameter's object that is only read; an object just looked at; the bag; an object under way, looked at, a parameter -/
inductive SV where
  | tr (d : D) | own (d : D) | brw (d : D) | pk (d : D) | bag | obj (q C : Addr) (fs : List (Str × FV)) | pob (C : Addr) (fs : List (Str × FV)) | bob (C : Addr) (fs : List (Str × FV)) | exc (a C d : Addr) (fs : List (Str × D)) | tz (ds : List D) | fn (f : Addr)
def SV.d : SV → D
  | .tr d => d
  | .own d => d
  | .brw d => d
  | .pk d => d
  | .bag => .opq
  | .obj _ _ _ => .opq
  | .pob _ _ => .opq
  | .bob _ _ => .opq
  | .exc _ _ _ _ => .opq
  | .tz ds => .tup ds
  | .fn _ => .opq

/-- what of the program's own objects is tracked: tables of code objects, tuples -/
structure TBL where
  tabs : List (Addr × Str)
  tups : List (Addr × List D)
/-- the ghosts: what is frozen, where the bag stands -/
structure Gh where
  F : Hp
  pb : Option Addr
  T : TBL := ⟨[], []⟩
/-- the defs that may hold a lambda, over all laws -/
def lamFns : List Str := ["law", "_law_defaults_so", "_law_others_so", "_law_refused_so", "_law_full_so", "lots_of", "doubtful", "_law_line", "_law_limits_so", "_law_pages_so"]
def lamIn (K : PySem.W.Frag) : List Str := lamFns.filter fun x => PySem.W.codeHdIn K (He.cT K (x, none)).1 (He.cT K (x, none)).2
def lamQ (x : Str) : Str := x ++ ".<locals>.<lambda>"
/-- the tables of code objects of a fragment's defs -/
def tabsIn (K : PySem.W.Frag) : List (Addr × Str) := (lamIn K).map fun x => ((He.cT K (x, none)).2, lamQ x)
/-- defaults that are tuples -/
def dflTups : List ((Str × Option Str) × Nat × List D) := [(("Log", some "__init__"), 0, [])]
/-- globals that are tuples -/
def gloTups : List (Str × List D) := [("CLAIMS", [.non, .str "quiet", .str "waiting"])]
def tupIn (K : PySem.W.Frag) : List (Addr × List D) := ((dflTups.map fun c => (He.dflAt c.1 c.2.1 K, c.2.2)) ++ gloTups.map fun c => (He.ga K c.1, c.2)).filter fun p => !decide (p.1 = 0)
def TabsOf (K : PySem.W.Frag) : TBL := ⟨tabsIn K, tupIn K⟩

/-- the bag: cells (frozen), place, rest, mixed -/
def BagAt (G : Gh) (H : Hp) (p : Addr) : Prop := ∃ (c : Addr) (ns : List Int) (i r m : Int), H p = some (.lst [.ref c, .int i, .int r, .int m]) ∧ G.F c = some (.lst (ns.map V.int)) ∧ ns.length ≤ 63 ∧ 0 ≤ i ∧ 0 ≤ r ∧ 0 ≤ m ∧ m < 2147483648

/-- the tables of code objects: what they tell of is known -/
def TabsF (T : TBL) (F H : Hp) : Prop := (∀ p ∈ T.tabs, F p.1 = none ∧ ∃ ps : Array Value, H p.1 = some (.tbl ps) ∧ TriplesOk ps.toList ∧ ∀ (pos : Pos) (cv : Value), codeAmong pos ps.toList = some cv → ∃ c, cv = .ref c ∧ F c = some (LamX.CodeO c p.2)) ∧ ∀ p ∈ T.tups, ∃ (o : Obj) (vs : List V), o.dict = none ∧ F p.1 = some (.frz o (.tup vs)) ∧ reps (fun _ => none) p.2 vs
theorem TabsF.ext {T : TBL} {F F' H H' : Hp} (h : TabsF T F H) (hF : ∀ b o, F b = some o → F' b = some o) (hH : ∀ b ps, H b = some (.tbl ps) → H' b = some (.tbl ps)) (hN : ∀ b ps, F b = none → H b = some (.tbl ps) → F' b = none) : TabsF T F' H' := ⟨fun p hp =>
  let ⟨n, ps, e, k, c⟩ := h.1 p hp
  ⟨hN _ _ n e, ps, hH _ _ e, k, fun pos cv hc => let ⟨b, e1, e2⟩ := c pos cv hc; ⟨b, e1, hF _ _ e2⟩⟩, fun p hp =>
  let ⟨o, vs, hd, e, r⟩ := h.2 p hp
  ⟨o, vs, hd, hF _ _ e, r⟩⟩
theorem TabsF.ext0 {T : TBL} {F H H' : Hp} (h : TabsF T F H) (hH : ∀ b ps, H b = some (.tbl ps) → H' b = some (.tbl ps)) : TabsF T F H' := h.ext (fun _ _ z => z) hH fun _ _ z _ => z
structure OkG (G : Gh) (H : Hp) : Prop where
  sub : ∀ b o, G.F b = some o → H b = some o
  bag : ∀ p, G.pb = some p → BagAt G H p ∧ G.F p = none
  tabs : TabsF G.T G.F H

/-- the heap went on: nothing that stood was changed but the bag -/
structure Ext (G : Gh) (H : Hp) (G' : Gh) (H' : Hp) : Prop where
  ok : OkG G' H'
  same : ∀ b o, H b = some o → G.pb ≠ some b → (∀ ps, o ≠ .tbl ps) → H' b = some o
  tbl : ∀ b ps, H b = some (.tbl ps) → ∃ ps', H' b = some (.tbl ps')
  tt : G'.T = G.T
  pb : ∀ p, G.pb = some p → G'.pb = some p
  pnew : ∀ p, G'.pb = some p → G.pb = some p ∨ H p = none
  frz : ∀ b o, G.F b = some o → G'.F b = some o
  new : ∀ b o, G'.F b = some o → G.F b = some o ∨ H b = none

section
variable {G G' G1 G2 : Gh} {H H' H1 H2 : Hp}
theorem Ext.refl (ok : OkG G H) : Ext G H G H := ⟨ok, fun _ _ h _ _ => h, fun _ ps h => ⟨ps, h⟩, rfl, fun _ h => h, fun _ h => .inl h, fun _ _ h => h, fun _ _ h => .inl h⟩
/-- what stood stands -/
theorem Ext.dom (E : Ext G H G' H') {b : Addr} (h : H' b = none) : H b = none := by
  cases e : H b with
  | none => rfl
  | some o =>
    by_cases q : G.pb = some b
    · obtain ⟨⟨c, ns, i, r, m, z, _⟩, _⟩ := E.ok.bag b (E.pb b q)
      rw [z] at h
      cases h
    · by_cases ht : ∃ ps, o = .tbl ps
      · obtain ⟨ps, rfl⟩ := ht
        obtain ⟨ps', z⟩ := E.tbl b ps e
        rw [z] at h
        cases h
      · rw [E.same b o e q fun ps z => ht ⟨ps, z⟩] at h
        cases h
theorem Ext.trans (a : Ext G H G1 H1) (b : Ext G1 H1 G2 H2) : Ext G H G2 H2 where
  ok := b.ok
  same := fun c o h q n => b.same c o (a.same c o h q n) (fun z => by
    rcases a.pnew c z with z | z
    · exact q z
    · rw [h] at z; cases z) n
  tbl := fun c ps h => by
    obtain ⟨ps1, h1⟩ := a.tbl c ps h
    exact b.tbl c ps1 h1
  tt := b.tt.trans a.tt
  pb := fun p h => b.pb p (a.pb p h)
  pnew := fun p h => by
    rcases b.pnew p h with z | z
    · exact a.pnew p z
    · exact .inr (a.dom z)
  frz := fun c o h => b.frz c o (a.frz c o h)
  new := fun c o h => by
    rcases b.new c o h with z | z
    · exact a.new c o z
    · exact .inr (a.dom z)
end

/-- what stands at a, to be changed -/
def cont (F H : Hp) (a : Addr) : D → Prop
  | .lst ds => ∃ vs, H a = some (.lst vs) ∧ reps F ds vs
  | .dic kvs => ∃ ws, H a = some (.dK ws) ∧ repk F kvs ws
  | .dit kvs => ∃ ws, H a = some (.dT ws) ∧ rept F kvs ws
  | _ => False
/-- the fields of an object under way -/
inductive RepF (Hs : Hp) (G : Gh) (H : Hp) : List (Str × FV) → List (Str × V) → Prop
  | nil : RepF Hs G H [] []
  | tr {f : Str} {d : D} {v : V} {fs : List (Str × FV)} {ws : List (Str × V)} : rep G.F d v → RepF Hs G H fs ws → RepF Hs G H ((f, .tr d) :: fs) ((f, v) :: ws)
  | own {f : Str} {d : D} {b : Addr} {fs : List (Str × FV)} {ws : List (Str × V)} : Hs b = none → G.F b = none → G.pb ≠ some b → cont G.F H b d → RepF Hs G H fs ws → RepF Hs G H ((f, .own d) :: fs) ((f, .ref b) :: ws)
/-- .. that are only looked at -/
inductive RepP (N : Addr → Prop) (G : Gh) (H : Hp) : List (Str × FV) → List (Str × V) → Prop
  | nil : RepP N G H [] []
  | tr {f : Str} {d : D} {v : V} {fs : List (Str × FV)} {ws : List (Str × V)} : rep G.F d v → RepP N G H fs ws → RepP N G H ((f, .tr d) :: fs) ((f, v) :: ws)
  | own {f : Str} {d : D} {b : Addr} {fs : List (Str × FV)} {ws : List (Str × V)} : N b → G.pb ≠ some b → cont G.F H b d → RepP N G H fs ws → RepP N G H ((f, .own d) :: fs) ((f, .ref b) :: ws)
/-- where the fields' own objects stand -/
def adrs : List (Str × FV) → List (Str × V) → List Addr
  | (_, .own _) :: fs, (_, .ref b) :: ws => b :: adrs fs ws
  | (_, .tr _) :: fs, _ :: ws => adrs fs ws
  | _, _ => []
/-- something stands there, no table -/
def There (H : Hp) (b : Addr) : Prop := ∃ o, H b = some o ∧ ∀ ps, o ≠ .tbl ps
theorem There.ne {H : Hp} {b : Addr} (h : There H b) : H b ≠ none := by
  obtain ⟨o, e, _⟩ := h
  rw [e]
  nofun
theorem rdUp {F H : Hp} {a : Addr} {u : HO} (h : ∀ b o, F b = some o → H b = some o) (q : Rd F a u) : Rd H a u := q.imp (h _ _) fun ⟨o, q⟩ => ⟨o, h _ _ q⟩
/-- a place of the frame's own -/
def Mine (Hs : Hp) (G : Gh) (b : Addr) : Prop := Hs b = none ∧ G.F b = none ∧ G.pb ≠ some b
/-- H0: the heap at the frame's entry (a parameter's object stood there); Hs: the heap ahead of which an own object did not stand -/
def RepV (H0 Hs : Hp) (G : Gh) (H : Hp) (v : V) : SV → Prop
  | .tr d => rep G.F d v
  | .own d => ∃ a, v = .ref a ∧ Hs a = none ∧ G.F a = none ∧ G.pb ≠ some a ∧ cont G.F H a d
  | .brw d => ∃ a, v = .ref a ∧ H0 a ≠ none ∧ G.pb ≠ some a ∧ cont G.F H a d
  | .pk d => ∃ a, v = .ref a ∧ G.pb ≠ some a ∧ cont G.F H a d
  | .bag => ∃ a, v = .ref a ∧ G.pb = some a
  | .obj q C fs => ∃ a dx ws, v = .ref a ∧ H a = some (.ins C dx ws) ∧ H dx = some (.own a) ∧ Mine Hs G a ∧ Mine Hs G dx ∧ (a :: dx :: adrs fs ws).Nodup ∧ RepF Hs G H fs ws ∧ a = q
  | .pob C fs => ∃ a dx ws, v = .ref a ∧ H a = some (.ins C dx ws) ∧ G.pb ≠ some a ∧ RepP (fun _ => True) G H fs ws
  | .bob C fs => ∃ a dx ws, v = .ref a ∧ H0 a ≠ none ∧ H a = some (.ins C dx ws) ∧ G.pb ≠ some a ∧ RepP (fun b => H0 b ≠ none) G H fs ws
  | .exc a _ d fs => v = .ref a ∧ ∃ ws, G.F d = some (.xd ws) ∧ repf G.F fs ws
  | .fn f => v = .ref f
  | .tz ds => ∃ a o vs, v = .ref a ∧ o.dict = none ∧ G.F a = some (.frz o (.tup vs)) ∧ reps G.F ds vs
/-- the places of an own value -/
def Owns (H : Hp) (v : V) : SV → Addr → Prop
  | .own _, b => v = .ref b
  | .obj _ C fs, b => ∃ a dx ws, v = .ref a ∧ H a = some (.ins C dx ws) ∧ (b = a ∨ b = dx ∨ b ∈ adrs fs ws)
  | _, _ => False

section
variable {G G' G1 G2 : Gh} {H0 Hs Hs' H H' H1 H2 : Hp} {v : V} {sv : SV} {a : Addr} {d : D}
theorem Rd.ext (E : Ext G H G' H') {u : HO} (q : G.pb ≠ some a) (n : ∀ ps, u ≠ .tbl ps) (h : Rd H a u) : Rd H' a u := by
  rcases h with h | ⟨o, h⟩
  · exact .inl (E.same a _ h q n)
  · exact .inr ⟨o, E.same a _ h q nofun⟩
theorem cont.ext (E : Ext G H G' H') (q : G.pb ≠ some a) (h : cont G.F H a d) : cont G'.F H' a d := by
  cases d with
  | lst ds => obtain ⟨vs, e, r⟩ := h; exact ⟨vs, E.same _ _ e q nofun, reps.mono E.frz _ _ r⟩
  | dic kvs => obtain ⟨vs, e, r⟩ := h; exact ⟨vs, E.same _ _ e q nofun, repk.mono E.frz _ _ r⟩
  | dit kvs => obtain ⟨vs, e, r⟩ := h; exact ⟨vs, E.same _ _ e q nofun, rept.mono E.frz _ _ r⟩
  | _ => exact h.elim
theorem cont.thereT (h : cont G.F H a d) : There H a := by
  cases d with
  | lst ds => obtain ⟨vs, e, r⟩ := h; exact ⟨_, e, nofun⟩
  | dic kvs => obtain ⟨vs, e, r⟩ := h; exact ⟨_, e, nofun⟩
  | dit kvs => obtain ⟨vs, e, r⟩ := h; exact ⟨_, e, nofun⟩
  | _ => exact h.elim
theorem cont.there (h : cont G.F H a d) : H a ≠ none := by
  cases d with
  | lst ds => obtain ⟨vs, e, r⟩ := h; rw [e]; simp
  | dic kvs => obtain ⟨vs, e, r⟩ := h; rw [e]; simp
  | dit kvs => obtain ⟨vs, e, r⟩ := h; rw [e]; simp
  | _ => exact h.elim
theorem Ext.npb (E : Ext G H G' H') (q : G.pb ≠ some a) (h : H a ≠ none) : G'.pb ≠ some a := fun z => by
  rcases E.pnew a z with z | z
  · exact q z
  · exact h z
theorem Ext.nF (E : Ext G H G' H') (q : G.F a = none) (h : H a ≠ none) : G'.F a = none := by
  cases e : G'.F a with
  | none => rfl
  | some o =>
    rcases E.new a o e with z | z
    · rw [q] at z; cases z
    · exact (h z).elim
theorem RepF.mine {fs : List (Str × FV)} {ws : List (Str × V)} (r : RepF Hs G H fs ws) : ∀ b ∈ adrs fs ws, Mine Hs G b ∧ There H b := by
  induction r with
  | nil => intro b hb; cases hb
  | tr _ _ ih => exact ih
  | own h1 h2 h3 h4 _ ih =>
    intro b hb
    rcases List.mem_cons.mp hb with rfl | hb
    · exact ⟨⟨h1, h2, h3⟩, h4.thereT⟩
    · exact ih b hb
/-- fields stay where their places are as they were -/
theorem cont.at {F F' H H' : Hp} {b : Addr} {d : D} (m : ∀ x o, F x = some o → F' x = some o) (e : H' b = H b) (h : cont F H b d) : cont F' H' b d := by
  cases d with
  | lst ds => obtain ⟨vs, k, r⟩ := h; exact ⟨vs, e.trans k, reps.mono m _ _ r⟩
  | dic ds => obtain ⟨vs, k, r⟩ := h; exact ⟨vs, e.trans k, repk.mono m _ _ r⟩
  | dit ds => obtain ⟨vs, k, r⟩ := h; exact ⟨vs, e.trans k, rept.mono m _ _ r⟩
  | _ => exact h.elim
theorem RepF.at {fs : List (Str × FV)} {ws : List (Str × V)} (r : RepF Hs G H fs ws) (m : ∀ x o, G.F x = some o → G'.F x = some o) (hb : ∀ b ∈ adrs fs ws, Mine Hs' G' b ∧ H' b = H b) : RepF Hs' G' H' fs ws := by
  induction r with
  | nil => exact .nil
  | tr h _ ih => exact .tr (rep.mono m _ _ h) (ih hb)
  | own h1 h2 h3 h4 _ ih =>
    obtain ⟨⟨q1, q2, q3⟩, q4⟩ := hb _ (List.mem_cons_self ..)
    exact .own q1 q2 q3 (h4.at m q4) (ih fun b h => hb b (List.mem_cons_of_mem _ h))
/-- an own value's places: new, not frozen, not the bag, there -/
theorem RepV.owns {b : Addr} (r : RepV H0 Hs G H v sv) (o : Owns H v sv b) : Mine Hs G b ∧ There H b := by
  cases sv with
  | own d =>
    obtain ⟨a, e, h1, h2, h3, h4⟩ := r
    have o : v = .ref b := o
    rw [e] at o
    cases o
    exact ⟨⟨h1, h2, h3⟩, h4.thereT⟩
  | obj q C fs =>
    obtain ⟨a, dx, ws, e, ea, ed, h1, h2, _, rf, _⟩ := r
    obtain ⟨a', dx', ws', e', ea', hb⟩ := o
    rw [e] at e'
    cases e'
    rw [ea] at ea'
    cases ea'
    rcases hb with rfl | rfl | hb
    · exact ⟨h1, _, ea, nofun⟩
    · exact ⟨h2, _, ed, nofun⟩
    · exact rf.mine b hb
  | _ => exact o.elim
theorem RepP.ext {N : Addr → Prop} {fs : List (Str × FV)} {ws : List (Str × V)} (E : Ext G H G' H') (r : RepP N G H fs ws) : RepP N G' H' fs ws := by
  induction r with
  | nil => exact .nil
  | tr h _ ih => exact .tr (rep.mono E.frz _ _ h) ih
  | own h1 h2 h3 _ ih => exact .own h1 (E.npb h2 h3.there) (h3.ext E h2) ih
theorem RepP.imp {N N' : Addr → Prop} {fs : List (Str × FV)} {ws : List (Str × V)} (h : ∀ b, H b ≠ none → N b → N' b) (r : RepP N G H fs ws) : RepP N' G H fs ws := by
  induction r with
  | nil => exact .nil
  | tr q _ ih => exact .tr q ih
  | own h1 h2 h3 _ ih => exact .own (h _ h3.there h1) h2 h3 ih
theorem RepP.mono {N : Addr → Prop} {fs : List (Str × FV)} {ws : List (Str × V)} (m : ∀ x o, G.F x = some o → G'.F x = some o) (e : G'.pb = G.pb := by rfl) (r : RepP N G H fs ws) : RepP N G' H fs ws := by
  induction r with
  | nil => exact .nil
  | tr q _ ih => exact .tr (rep.mono m _ _ q) ih
  | own h1 h2 h3 _ ih => exact .own h1 (by rw [e]; exact h2) (h3.at m rfl) ih
theorem RepP.off {N : Addr → Prop} {fs : List (Str × FV)} {ws : List (Str × V)} (r : RepP N G H fs ws) (h : ∀ b, N b → ∀ u, H b = some u → H' b = some u) : RepP N G H' fs ws := by
  induction r with
  | nil => exact .nil
  | tr q _ ih => exact .tr q ih
  | own h1 h2 h3 _ ih =>
    refine .own h1 h2 (h3.at (fun _ _ z => z) ?_) ih
    obtain ⟨o, ho⟩ := Option.ne_none_iff_exists'.mp h3.there
    rw [ho]
    exact h _ h1 o ho
theorem RepF.peek {fs : List (Str × FV)} {ws : List (Str × V)} (r : RepF Hs G H fs ws) : RepP (fun _ => True) G H fs ws := by
  induction r with
  | nil => exact .nil
  | tr q _ ih => exact .tr q ih
  | own h1 h2 h3 h4 _ ih => exact .own trivial h3 h4 ih
/-- what holds an own value: it stays where its places are as they were -/
theorem RepV.at (r : RepV H0 Hs G H v sv) (hs : ∀ d, sv ≠ .brw d) (hs2 : ∀ d, sv ≠ .pk d) (hs3 : sv ≠ .bag) (hs4 : ∀ C fs, sv ≠ .pob C fs) (hs5 : ∀ C fs, sv ≠ .bob C fs) (m : ∀ x o, G.F x = some o → G'.F x = some o) (hb : ∀ b, Owns H v sv b → Mine Hs' G' b ∧ H' b = H b) : RepV H0 Hs' G' H' v sv := by
  cases sv with
  | tr d => exact rep.mono m d v r
  | exc a C d fs =>
    obtain ⟨e, ws, h1, h2⟩ := r
    exact ⟨e, ws, m _ _ h1, repf.mono m _ _ h2⟩
  | tz ds =>
    obtain ⟨a, o, vs, e, h0, h1, h2⟩ := r
    exact ⟨a, o, vs, e, h0, m _ _ h1, reps.mono m _ _ h2⟩
  | fn f => exact r
  | own d =>
    obtain ⟨a, e, h1, h2, h3, h4⟩ := r
    obtain ⟨⟨q1, q2, q3⟩, q4⟩ := hb a e
    exact ⟨a, e, q1, q2, q3, h4.at m q4⟩
  | obj q C fs =>
    obtain ⟨a, dx, ws, e, ea, ed, h1, h2, hn, rf, hq⟩ := r
    obtain ⟨qa, qa2⟩ := hb a ⟨a, dx, ws, e, ea, .inl rfl⟩
    obtain ⟨qd, qd2⟩ := hb dx ⟨a, dx, ws, e, ea, .inr (.inl rfl)⟩
    exact ⟨a, dx, ws, e, qa2.trans ea, qd2.trans ed, qa, qd, hn, rf.at m fun b h => hb b ⟨a, dx, ws, e, ea, .inr (.inr h)⟩, hq⟩
  | brw d => exact (hs d rfl).elim
  | pk d => exact (hs2 d rfl).elim
  | bag => exact (hs3 rfl).elim
  | pob C fs => exact (hs4 C fs rfl).elim
  | bob C fs => exact (hs5 C fs rfl).elim
theorem Owns.at {b : Addr} (r : RepV H0 Hs G H v sv) (h : ∀ b, Owns H v sv b → H' b = H b) (o : Owns H' v sv b) : Owns H v sv b := by
  cases sv with
  | own d => exact o
  | obj q C fs =>
    obtain ⟨a, dx, ws, e, ea, _⟩ := r
    obtain ⟨a', dx', ws', e', ea', hb⟩ := o
    rw [e] at e'
    cases e'
    rw [h a ⟨a, dx, ws, e, ea, .inl rfl⟩, ea] at ea'
    cases ea'
    exact ⟨a, dx, ws, e, ea, hb⟩
  | _ => exact o.elim
theorem Ext.mine {Hs : Hp} {b : Addr} (E : Ext G H G' H') (h : Mine Hs G b) (hb : There H b) : Mine Hs G' b ∧ H' b = H b := by
  refine ⟨⟨h.1, E.nF h.2.1 hb.ne, E.npb h.2.2 hb.ne⟩, ?_⟩
  obtain ⟨o, e, n⟩ := hb
  rw [e]
  exact E.same b o e h.2.2 n
/-- a held value stays -/
theorem RepV.ext (E : Ext G H G' H') (r : RepV H0 Hs G H v sv) : RepV H0 Hs G' H' v sv := by
  cases sv with
  | tr d => exact rep.mono E.frz d v r
  | exc a C d fs =>
    obtain ⟨e, ws, h1, h2⟩ := r
    exact ⟨e, ws, E.frz _ _ h1, repf.mono E.frz _ _ h2⟩
  | tz ds =>
    obtain ⟨a, o, vs, e, h0, h1, h2⟩ := r
    exact ⟨a, o, vs, e, h0, E.frz _ _ h1, reps.mono E.frz _ _ h2⟩
  | fn f => exact r
  | own d =>
    obtain ⟨a, e, h1, h2, h3, h4⟩ := r
    exact ⟨a, e, h1, E.nF h2 h4.there, E.npb h3 h4.there, h4.ext E h3⟩
  | brw d =>
    obtain ⟨a, e, h1, h3, h4⟩ := r
    exact ⟨a, e, h1, E.npb h3 h4.there, h4.ext E h3⟩
  | pk d =>
    obtain ⟨a, e, h3, h4⟩ := r
    exact ⟨a, e, E.npb h3 h4.there, h4.ext E h3⟩
  | bag =>
    obtain ⟨a, e, h⟩ := r
    exact ⟨a, e, E.pb a h⟩
  | obj q C fs => exact r.at (fun _ => nofun) (fun _ => nofun) nofun (fun _ _ => nofun) (fun _ _ => nofun) E.frz fun b o => E.mine (r.owns o).1 (r.owns o).2
  | pob C fs =>
    obtain ⟨a, dx, ws, e, ea, nb, rf⟩ := r
    exact ⟨a, dx, ws, e, E.same _ _ ea nb nofun, E.npb nb (by rw [ea]; simp), rf.ext E⟩
  | bob C fs =>
    obtain ⟨a, dx, ws, e, h0, ea, nb, rf⟩ := r
    exact ⟨a, dx, ws, e, h0, E.same _ _ ea nb nofun, E.npb nb (by rw [ea]; simp), rf.ext E⟩
/-- newer than a later heap is newer than an earlier one -/
theorem RepV.back (h : ∀ b, Hs b = none → Hs' b = none) (r : RepV H0 Hs G H v sv) : RepV H0 Hs' G H v sv := by
  cases sv with
  | own d =>
    obtain ⟨a, e, h1, h2⟩ := r
    exact ⟨a, e, h a h1, h2⟩
  | obj q C fs => exact r.at (fun _ => nofun) (fun _ => nofun) nofun (fun _ _ => nofun) (fun _ _ => nofun) (fun _ _ z => z) fun b o => ⟨⟨h b (r.owns o).1.1, (r.owns o).1.2⟩, rfl⟩
  | _ => exact r
end

/-- may stand in a slot -/
def SV.ok : SV → Prop
  | .pk _ => False
  | .pob _ _ => False
  | _ => True
abbrev S := List (Option SV)
/-- the frame's slots as they are told -/
structure Rel (G0 : Gh) (H0 : Hp) (G : Gh) (H : Hp) (σ : L2.St) (S : S) : Prop where
  ext : Ext G0 H0 G H
  len : S.length = σ.length
  slot : ∀ (i : Nat) (sv : SV), S[i]? = some (some sv) → ∃ v, σ[i]? = some (some v) ∧ RepV H0 H0 G H v sv
  sep : ∀ (i j : Nat) (sv sw : SV) (v w : V) (b : Addr), i ≠ j → S[i]? = some (some sv) → S[j]? = some (some sw) → σ[i]? = some (some v) → σ[j]? = some (some w) → Owns H v sv b → ¬ Owns H w sw b
  nopk : ∀ (i : Nat) (sv : SV), S[i]? = some (some sv) → sv.ok
theorem Rel.ok {G0 G : Gh} {H0 H : Hp} {σ : L2.St} {S : S} (R : Rel G0 H0 G H σ S) : OkG G H := R.ext.ok
theorem Rel.go {G0 G G' : Gh} {H0 H H' : Hp} {σ : L2.St} {S : S} (R : Rel G0 H0 G H σ S) (E : Ext G H G' H') : Rel G0 H0 G' H' σ S :=
  ⟨R.ext.trans E, R.len, fun i sv e => let ⟨v, e1, r⟩ := R.slot i sv e; ⟨v, e1, r.ext E⟩, fun i j sv sw v w b hij e1 e2 e3 e4 o1 o2 => by
    obtain ⟨v', e5, r1⟩ := R.slot i sv e1
    obtain ⟨w', e6, r2⟩ := R.slot j sw e2
    rw [e3] at e5
    cases e5
    rw [e4] at e6
    cases e6
    exact R.sep i j sv sw v w b hij e1 e2 e3 e4 (o1.at r1 fun b o => (E.mine (r1.owns o).1 (r1.owns o).2).2) (o2.at r2 fun b o => (E.mine (r2.owns o).1 (r2.owns o).2).2), R.nopk⟩

/-! ### readings -/
abbrev GE := S → (SV → Prop) → Prop
abbrev GT := S → (Bool → Prop) → Prop
abbrev GA := S → (List SV → Prop) → Prop
abbrev KQ (H0 : Hp) (G : Gh) (H : Hp) (Qs : SV → Prop) (Q : VK) : Prop := ∀ v H' G' sv, Ext G H G' H' → RepV H0 H G' H' v sv → Qs sv → Q v H'
def TV (G0 : Gh) (H0 : Hp) (g : GE) : TE := fun σ H Q => ∃ G S Qs, Rel G0 H0 G H σ S ∧ g S Qs ∧ KQ H0 G H Qs Q
def TTV (G0 : Gh) (H0 : Hp) (g : GT) : TT := fun σ H Q => ∃ G S Qs, Rel G0 H0 G H σ S ∧ g S Qs ∧ ∀ b H' G', Ext G H G' H' → Qs b → Q b H'
/-- the places of the own ones of a row -/
def OwnsL (H : Hp) : List V → List SV → Addr → Prop
  | v :: vs, sv :: svs, b => Owns H v sv b ∨ OwnsL H vs svs b
  | _, _, _ => False
inductive RepL (H0 Hs : Hp) (G : Gh) (H : Hp) : List V → List SV → Prop
  | nil : RepL H0 Hs G H [] []
  | cons {v : V} {sv : SV} {vs : List V} {svs : List SV} : RepV H0 Hs G H v sv → RepL H0 Hs G H vs svs → (∀ b, Owns H v sv b → ¬ OwnsL H vs svs b) → RepL H0 Hs G H (v :: vs) (sv :: svs)
theorem RepL.owns {H0 Hs : Hp} {G : Gh} {H : Hp} {b : Addr} : ∀ {vs : List V} {svs : List SV}, RepL H0 Hs G H vs svs → OwnsL H vs svs b → Mine Hs G b ∧ There H b
  | _, _, .nil, o => o.elim
  | _, _, .cons r t _, o => o.elim (fun o => r.owns o) fun o => RepL.owns t o
theorem OwnsL.at {H0 Hs : Hp} {G : Gh} {H H' : Hp} {b : Addr} : ∀ {vs : List V} {svs : List SV}, RepL H0 Hs G H vs svs → (∀ b, OwnsL H vs svs b → H' b = H b) → OwnsL H' vs svs b → OwnsL H vs svs b
  | _, _, .nil, _, o => o.elim
  | _, _, .cons r t _, h, o => o.elim (fun o => .inl (o.at r fun b o => h b (.inl o))) fun o => .inr (OwnsL.at t (fun b o => h b (.inr o)) o)
def TAV (G0 : Gh) (H0 : Hp) (g : GA) : TA := fun σ H Q => ∃ G S Qs, Rel G0 H0 G H σ S ∧ g S Qs ∧ ∀ vs H' G' svs, Ext G H G' H' → RepL H0 H G' H' vs svs → Qs svs → Q vs H'
/-- what is wanted of an exception of the class at C with these fields, raised at these slots -/
abbrev XP := Addr → List (Str × D) → Prop
def SV.isRet : SV → Prop
  | .tr _ => True
  | .own _ => True
  | .bag => True
  | _ => False
/-- an exception in the air, as it is told -/
def XOf (G : Gh) (H : Hp) (Qx : XP) : XK := fun cls d H' => ∃ C dx fs ws G', cls = .ref C ∧ d = some dx ∧ Ext G H G' H' ∧ G'.F dx = some (.xd ws) ∧ repf G'.F fs ws ∧ Qx C fs
/-- what the calls of lambdas come to -/
abbrev TLT := LamB → (SV → Prop) → XP → Prop
abbrev thkLev : Nat := 60
/-- more may be wanted -/
def TLMono (TL : TLT) : Prop := ∀ (b : LamB) (Q Q' : SV → Prop) (Qx Qx' : XP), (∀ sv, Q sv → Q' sv) → (∀ C fs, Qx C fs → Qx' C fs) → TL b Q Qx → TL b Q' Qx'
/-- whatever lambda is told of, called at any later time, keeps what is told -/
structure ThkOk (P : Program) (w : World) (K : PySem.W.Frag) (mg : Str → Option Value) (base : Heap) (TL : TLT) (G : Gh) (H : Hp) : Prop where
  mono : TLMono TL
  run : ∀ (f : Addr) (b : LamB) (G1 : Gh) (H1 : Hp) (A1 : Around) (outer1 : List Env) (s1 : Shared) (Q : VK) (E : XK) (Qs : SV → Prop) (Qx : XP), Ext G H G1 H1 → rep G1.F (.fn f b) (.ref f) → Env0 P w K mg base A1 outer1 s1 H1 → Room (thkLev + 1) A1 → TL b Qs Qx →
    (∀ v H' G' sv, Ext G1 H1 G' H' → RepV H1 H1 G' H' v sv → sv.isRet → Qs sv → Q v H') → (∀ cls d H', XOf G1 H1 Qx cls d H' → E cls d H') →
    codeAny (model P w) A1 (.call (.ref f) ⟨[], []⟩) (CR (L2.CX P w) outer1 P w H1 s1 Q E) s1
theorem ThkOk.go {P : Program} {w : World} {K : PySem.W.Frag} {mg : Str → Option Value} {base : Heap} {TL : TLT} {G G1 : Gh} {H H1 : Hp} (h : ThkOk P w K mg base TL G H) (E : Ext G H G1 H1) : ThkOk P w K mg base TL G1 H1 :=
  ⟨h.mono, fun f b G2 H2 A1 outer1 s1 Q Ex Qs Qx E2 => h.run f b G2 H2 A1 outer1 s1 Q Ex Qs Qx (E.trans E2)⟩
abbrev TL0 : TLT := fun _ _ _ => False
theorem thk0 {P : Program} {w : World} {K : PySem.W.Frag} {mg : Str → Option Value} {base : Heap} {G : Gh} {H : Hp} : ThkOk P w K mg base TL0 G H := ⟨fun _ _ _ _ _ _ _ z => z, fun _ _ _ _ _ _ _ _ _ _ _ _ _ _ _ z => z.elim⟩
structure EXT where
  ex : Addr → List (Str × D) → S → Prop
  tl : TLT
instance : CoeFun EXT fun _ => Addr → List (Str × D) → S → Prop := ⟨EXT.ex⟩
abbrev E0T : EXT := ⟨fun _ _ _ => False, TL0⟩
/-- .. where nothing may be raised -/
abbrev EXT.off (EX : EXT) : EXT := ⟨fun _ _ _ => False, EX.tl⟩
def WV (EX : EXT) (G0 : Gh) (H0 : Hp) : WX := fun cls d σ H => ∃ G S C dx fs ws, cls = .ref C ∧ d = some dx ∧ Rel G0 H0 G H σ S ∧ G.F dx = some (.xd ws) ∧ repf G.F fs ws ∧ EX C fs S
structure Lk (X : Cx) (EX : EXT) (G0 : Gh) (H0 : Hp) : Prop where
  takes : Takes X (WV EX G0 H0)
  tabs : G0.T = TabsOf X.K
  thk : ThkOk X.prog X.w X.K X.mg X.base EX.tl G0 H0
theorem takesE0 {X : Cx} {G0 : Gh} {H0 : Hp} {tl : TLT} : Takes X (WV ⟨fun _ _ _ => False, tl⟩ G0 H0) := LamX.takes0.imp fun _ _ _ _ ⟨_, _, _, _, _, _, _, _, _, _, _, z⟩ => z
theorem Lk.e0 {X : Cx} {G0 : Gh} {H0 : Hp} (h : G0.T = TabsOf X.K) : Lk X E0T G0 H0 := ⟨takesE0, h, thk0⟩
theorem Lk.blk {X Y : Cx} {EX : EXT} {G0 : Gh} {H0 : Hp} (l : Lk X EX G0 H0) (h : (Y.prog, Y.w, Y.K, Y.mg, Y.base) = (X.prog, X.w, X.K, X.mg, X.base)) : Lk Y EX.off G0 H0 := by
  simp only [Prod.mk.injEq] at h
  obtain ⟨h1, h2, h3, h4, h5⟩ := h
  exact ⟨takesE0, by rw [h3]; exact l.tabs, by rw [h1, h2, h3, h4, h5]; exact l.thk⟩
structure VE (X : Cx) (EX : EXT) (e : Expr) (g : GE) : Prop where
  pe : ∀ G0 H0, Lk X EX G0 H0 → PE X e (TV G0 H0 g)
structure VC (X : Cx) (EX : EXT) (e : Expr) (g : GT) : Prop where
  pt : ∀ G0 H0, Lk X EX G0 H0 → PT X e (TTV G0 H0 g)
structure VW (X : Cx) (EX : EXT) (e : Expr) (g : GT) : Prop where
  pw : ∀ G0 H0, Lk X EX G0 H0 → PW X e (TTV G0 H0 g)
structure VA (X : Cx) (EX : EXT) (es : List Expr) (g : GA) : Prop where
  pa : ∀ G0 H0, Lk X EX G0 H0 → PA X es (TAV G0 H0 g)
section
variable {X : Cx} {EX : EXT} {e : Expr}
theorem peMono {t t' : TE} (h : PE X e t) (k : ∀ σ H Q, t' σ H Q → t σ H Q) : PE X e t' := ⟨fun pins s σ H Q I q => h.run pins s σ H Q I (k σ H Q q)⟩
theorem ptMono {t t' : TT} (h : PT X e t) (k : ∀ σ H Q, t' σ H Q → t σ H Q) : PT X e t' := ⟨fun pins s σ H Q I q => h.run pins s σ H Q I (k σ H Q q)⟩
theorem pwMono {t t' : TT} (h : PW X e t) (k : ∀ σ H Q, t' σ H Q → t σ H Q) : PW X e t' := ⟨fun wh pins s σ H Q I q => h.run wh pins s σ H Q I (k σ H Q q)⟩
theorem paMono {es : List Expr} {t t' : TA} (h : PA X es t) (k : ∀ σ H Q, t' σ H Q → t σ H Q) : PA X es t' := ⟨fun pos pins s σ H Q I q => h.run pos pins s σ H Q I (k σ H Q q)⟩
theorem peOf {t : TE} (h : ∀ σ H Q, t σ H Q → ∃ t', PE X e t' ∧ t' σ H Q) : PE X e t := ⟨fun pins s σ H Q I q => let ⟨_, p, z⟩ := h σ H Q q; p.run pins s σ H Q I z⟩
end
theorem RepL.ext {H0 Hs : Hp} {G G' : Gh} {H H' : Hp} (E : Ext G H G' H') : ∀ {vs : List V} {svs : List SV}, RepL H0 Hs G H vs svs → RepL H0 Hs G' H' vs svs
  | _, _, .nil => .nil
  | _, _, .cons r t n => .cons (r.ext E) (RepL.ext E t) fun b o1 o2 => n b (o1.at r fun b o => (E.mine (r.owns o).1 (r.owns o).2).2) (o2.at t fun b o => (E.mine (t.owns o).1 (t.owns o).2).2)
theorem RepL.back {H0 Hs Hs' : Hp} {G : Gh} {H : Hp} (h : ∀ b, Hs b = none → Hs' b = none) : ∀ {vs : List V} {svs : List SV}, RepL H0 Hs G H vs svs → RepL H0 Hs' G H vs svs
  | _, _, .nil => .nil
  | _, _, .cons r t n => .cons (r.back h) (RepL.back h t) n
theorem RepL.length {H0 Hs : Hp} {G : Gh} {H : Hp} : ∀ {vs : List V} {svs : List SV}, RepL H0 Hs G H vs svs → vs.length = svs.length
  | _, _, .nil => rfl
  | _, _, .cons r t _ => by rw [List.length_cons, List.length_cons, RepL.length t]
/-- a value, then a row newer than it -/
theorem RepL.cons' {H0 Hs : Hp} {G1 G2 : Gh} {H1 H2 : Hp} {v : V} {sv : SV} {vs : List V} {svs : List SV} (E1 : ∀ b, H1 b = none → Hs b = none) (E2 : Ext G1 H1 G2 H2) (r : RepV H0 Hs G1 H1 v sv) (t : RepL H0 H1 G2 H2 vs svs) : RepL H0 Hs G2 H2 (v :: vs) (sv :: svs) :=
  .cons (r.ext E2) (t.back E1) fun b o1 o2 => (r.owns (o1.at r fun b o => (E2.mine (r.owns o).1 (r.owns o).2).2)).2.ne (t.owns o2).1.1

/-! ### names and constants -/
/-- what a name gives: its own object is only looked at -/
def SV.look : SV → SV
  | .own d => .pk d
  | .obj _ C fs => .pob C fs
  | sv => sv
def gName (i : Nat) : GE := fun S Q => ∃ sv, S[i]? = some (some sv) ∧ Q sv.look
@[simp] def gC (d : D) : GE := fun _ Q => Q (.tr d)
section
variable {X : Cx} {EX : EXT}
theorem ve_name (i : Nat) {x : Str} {pos : Pos} (hN : X.N[i]? = some x := by rfl) (hv : Vis X.env.scope x := by first | exact Or.inl rfl | exact Or.inr (Or.inl rfl) | exact Or.inr (Or.inr rfl)) (hd : (x == ("__debug__" : Str)) = false := by decide)
    (hcd : (x == ("__classdict__" : Str)) = false := by decide) : VE X EX (.Name x pos) (gName i) := by
  refine ⟨fun G0 H0 tk => peMono (pe_var hN hv hd hcd) fun σ H Q ⟨G, S, Qs, R, ⟨sv, e, q⟩, k⟩ => ?_⟩
  obtain ⟨v, e1, r⟩ := R.slot i sv e
  refine ⟨v, e1, k v H G sv.look (.refl R.ok) ?_ q⟩
  cases sv with
  | tr d => exact r
  | own d => obtain ⟨a, e, h1, h2, h3, h4⟩ := r; exact ⟨a, e, h3, h4⟩
  | obj q C fs => obtain ⟨a, dx, ws, e, ea, _, h1, _, _, rf, _⟩ := r; exact ⟨a, dx, ws, e, ea, h1.2.2, rf.peek⟩
  | _ => exact r
theorem ve_c {e : Expr} {v : V} {d : D} (h : PE X e (tC v)) (r : ∀ F, rep F d v) : VE X EX e (gC d) :=
  ⟨fun G0 H0 tk => peMono h fun σ H Q ⟨G, S, Qs, R, q, k⟩ => k v H G (.tr d) (.refl R.ok) (r G.F) q⟩
theorem ve_int {i j pos} : VE X EX (.Constant (.int i) j pos) (gC (.int i)) := ve_c pe_int fun _ => rfl
theorem ve_bl {b j pos} : VE X EX (.Constant (.bool b) j pos) (gC (.bl b)) := ve_c pe_bl fun _ => rfl
theorem ve_non {j pos} : VE X EX (.Constant .none j pos) (gC .non) := ve_c pe_non fun _ => rfl
theorem ve_str {x j pos} (h : okS x := by decide +kernel) : VE X EX (.Constant (.str x) j pos) (gC (.str x)) := ve_c pe_str fun _ => ⟨rfl, h⟩
end

/-! ### operators by values -/
abbrev KB (H0 : Hp) (G : Gh) (H : Hp) (Qs : SV → Prop) (Q : VK) : Prop := KQ H0 G H Qs Q
/-- f on two held values gives what g tells -/
def OpW (X : Cx) (f : Value → Value → Sem Value) (g : D → D → (SV → Prop) → Prop) : Prop :=
  ∀ (H0 Ha Hb : Hp) (G : Gh) (H : Hp) (x y : V) (sx sy : SV) (Qs : SV → Prop) (Q : VK), OkG G H → RepV H0 Ha G H x sx → RepV H0 Hb G H y sy → g sx.d sy.d Qs → KQ H0 G H Qs Q → ∃ r, OpR X f r ∧ r x y H Q
@[simp] def gOp (g : D → D → (SV → Prop) → Prop) (ga gb : GE) : GE := fun S Q => ga S fun x => gb S fun y => g x.d y.d Q
section
variable {X : Cx} {EX : EXT} {a b c : Expr} {ga gb gc : GE} {pos : Pos}
theorem opr_any {f : Value → Value → Sem Value} : OpR X f (fun x y H Q => ∃ r, OpR X f r ∧ r x y H Q) := fun pins s σ H x y v u Q I rx ry ⟨_, h, q⟩ => h pins s σ H x y v u Q I rx ry q
theorem kq_back {H0 : Hp} {G G1 : Gh} {H H1 : Hp} {Qs : SV → Prop} {Q : VK} (E : Ext G H G1 H1) (k : KQ H0 G H Qs Q) : KQ H0 G1 H1 Qs Q :=
  fun v H' G' sv E' r q => k v H' G' sv (E.trans E') (r.back fun _ z => E.dom z) q
theorem gOp_t {f : Value → Value → Sem Value} {g : D → D → (SV → Prop) → Prop} (ho : OpW X f g) {G0 : Gh} {H0 : Hp} {σ : L2.St} {H : Hp} {Q : VK} (h : TV G0 H0 (gOp g ga gb) σ H Q) :
    tOp (fun x y H Q => ∃ r, OpR X f r ∧ r x y H Q) (TV G0 H0 ga) (TV G0 H0 gb) σ H Q := by
  obtain ⟨G, S, Qs, R, q, k⟩ := h
  refine ⟨G, S, _, R, q, fun x H1 G1 sx E1 r1 q1 => ?_⟩
  refine ⟨G1, S, _, R.go E1, q1, fun y H2 G2 sy E2 r2 q2 => ?_⟩
  exact ho H0 _ _ G2 H2 x y sx sy Qs Q E2.ok (r1.ext E2) r2 q2 (kq_back (E1.trans E2) k)
theorem ve_op {op : Operator} {g : D → D → (SV → Prop) → Prop} (ho : OpW X (binaryOp op) g) (ha : VE X EX a ga) (hb : VE X EX b gb) : VE X EX (.BinOp a op b pos) (gOp g ga gb) :=
  ⟨fun G0 H0 tk => peMono (pe_op opr_any (ha.pe G0 H0 tk) (hb.pe G0 H0 tk)) fun _ _ _ h => gOp_t ho h⟩
theorem ve_cmp {op : CmpOp} {g : D → D → (SV → Prop) → Prop} (ho : OpW X (compareOp op) g) (ha : VE X EX a ga) (hb : VE X EX b gb) (hm : behindInMarks op b = false := by first | exact nobehind _ (by decide) (by decide) | rfl) : VE X EX (.Compare a [op] [b] pos) (gOp g ga gb) :=
  ⟨fun G0 H0 tk => peMono (pe_cmpR opr_any (ha.pe G0 H0 tk) (hb.pe G0 H0 tk) hm) fun _ _ _ h => gOp_t ho h⟩
/-- two comparisons in a chain -/
@[simp] def gChain (g g' : D → D → (SV → Prop) → Prop) (ga gb gc : GE) : GE := fun S Q => ga S fun x => gb S fun y => g x.d y.d fun z => ∃ k, z = .tr (.bl k) ∧ if k = true then gc S fun w => g' y.d w.d Q else Q (.tr (.bl false))
theorem ve_chain {op op' : CmpOp} {g g' : D → D → (SV → Prop) → Prop} (ho : OpW X (compareOp op) g) (ho' : OpW X (compareOp op') g') (ha : VE X EX a ga) (hb : VE X EX b gb) (hc : VE X EX c gc)
    (hm : lastMarks [op, op'] [b, c] = false := by with_unfolding_all rfl) : VE X EX (.Compare a [op, op'] [b, c] pos) (gChain g g' ga gb gc) := by
  refine ⟨fun G0 H0 tk => peMono (pe_chain opr_any opr_any (ha.pe G0 H0 tk) (hb.pe G0 H0 tk) (hc.pe G0 H0 tk) hm) fun σ H Q ⟨G, S, Qs, R, q, k⟩ => ?_⟩
  refine ⟨G, S, _, R, q, fun x H1 G1 sx E1 r1 q1 => ?_⟩
  refine ⟨G1, S, _, R.go E1, q1, fun y H2 G2 sy E2 r2 q2 => ?_⟩
  refine ho H0 _ _ G2 H2 x y sx sy _ _ E2.ok (r1.ext E2) r2 q2 fun z H3 G3 sz E3 r3 q3 => ?_
  obtain ⟨kb, rfl, q3⟩ := q3
  cases kb with
  | true =>
    refine ⟨true, r3, ?_⟩
    rw [if_pos rfl] at q3 ⊢
    refine ⟨G3, S, _, (R.go E1).go (E2.trans E3), q3, fun w H4 G4 sw E4 r4 q4 => ?_⟩
    exact ho' H0 _ _ G4 H4 y w sy sw Qs Q E4.ok ((r2.ext E3).ext E4) r4 q4 (kq_back ((E1.trans E2).trans (E3.trans E4)) k)
  | false =>
    refine ⟨false, r3, ?_⟩
    rw [if_neg Bool.false_ne_true] at q3 ⊢
    exact k (V.bl false) H3 G3 (.tr (.bl false)) ((E1.trans E2).trans E3) rfl q3
/-! ### tests -/
@[simp] def gTest (g : GE) : GT := fun S Q => g S fun z => ∃ k, z = .tr (.bl k) ∧ Q k
theorem vc_val {e : Expr} {g : GE} (h : VE X EX e g) (he : ∀ whole, isTrue e X.env whole = (do let v ← whole; standAt e.pos; holding [v] (truthy v)) := by intro _; rfl) : VC X EX e (gTest g) := by
  refine ⟨fun G0 H0 tk => ptMono (pt_val (h.pe G0 H0 tk) he) fun σ H Q ⟨G, S, Qs, R, q, k⟩ => ?_⟩
  refine ⟨G, S, _, R, q, fun v H1 G1 sv E1 r1 q1 => ?_⟩
  obtain ⟨b, rfl, q1⟩ := q1
  exact ⟨b, r1, k b H1 G1 E1 q1⟩
theorem vc_cmp {op : CmpOp} {g : D → D → (SV → Prop) → Prop} (ho : OpW X (compareOp op) g) (ha : VE X EX a ga) (hb : VE X EX b gb) (hm : behindInMarks op b = false := by first | exact nobehind _ (by decide) (by decide) | rfl) : VC X EX (.Compare a [op] [b] pos) (gTest (gOp g ga gb)) := by
  refine ⟨fun G0 H0 tk => ptMono (pt_cmpR opr_any (ha.pe G0 H0 tk) (hb.pe G0 H0 tk) hm) fun σ H Q ⟨G, S, Qs, R, q, k⟩ => ?_⟩
  refine ⟨G, S, _, R, q, fun x H1 G1 sx E1 r1 q1 => ?_⟩
  refine ⟨G1, S, _, R.go E1, q1, fun y H2 G2 sy E2 r2 q2 => ?_⟩
  refine ho H0 _ _ G2 H2 x y sx sy _ _ E2.ok (r1.ext E2) r2 q2 fun z H3 G3 sz E3 r3 q3 => ?_
  obtain ⟨b, rfl, q3⟩ := q3
  exact ⟨b, r3, k b H3 G3 ((E1.trans E2).trans E3) q3⟩
theorem vc_chain {op op' : CmpOp} {g g' : D → D → (SV → Prop) → Prop} (ho : OpW X (compareOp op) g) (ho' : OpW X (compareOp op') g') (ha : VE X EX a ga) (hb : VE X EX b gb) (hc : VE X EX c gc)
    (hm : lastMarks [op, op'] [b, c] = false := by with_unfolding_all rfl) : VC X EX (.Compare a [op, op'] [b, c] pos) (gTest (gChain g g' ga gb gc)) := by
  refine ⟨fun G0 H0 tk => ptMono (pt_chain opr_any opr_any (ha.pe G0 H0 tk) (hb.pe G0 H0 tk) (hc.pe G0 H0 tk) hm) fun σ H Q ⟨G, S, Qs, R, q, k⟩ => ?_⟩
  refine ⟨G, S, _, R, q, fun x H1 G1 sx E1 r1 q1 => ?_⟩
  refine ⟨G1, S, _, R.go E1, q1, fun y H2 G2 sy E2 r2 q2 => ?_⟩
  refine ho H0 _ _ G2 H2 x y sx sy _ _ E2.ok (r1.ext E2) r2 q2 fun z H3 G3 sz E3 r3 q3 => ?_
  obtain ⟨kb, rfl, q3⟩ := q3
  cases kb with
  | true =>
    refine ⟨true, r3, ?_⟩
    rw [if_pos rfl] at q3 ⊢
    refine ⟨G3, S, _, (R.go E1).go (E2.trans E3), q3, fun w H4 G4 sw E4 r4 q4 => ?_⟩
    refine ho' H0 _ _ G4 H4 y w sy sw _ _ E4.ok ((r2.ext E3).ext E4) r4 q4 fun z H5 G5 sz5 E5 r5 q5 => ?_
    obtain ⟨b, rfl, q5⟩ := q5
    exact ⟨b, r5, k b H5 G5 (((E1.trans E2).trans (E3.trans E4)).trans E5) q5⟩
  | false =>
    refine ⟨false, r3, ?_⟩
    rw [if_neg Bool.false_ne_true] at q3 ⊢
    obtain ⟨b, e, q3⟩ := q3
    cases e
    exact ⟨false, rfl, k _ _ _ ((E1.trans E2).trans E3) q3⟩
@[simp] def gAndT (t u : GT) : GT := fun S Q => t S fun c => if c = true then u S Q else Q false
@[simp] def gOrT (t u : GT) : GT := fun S Q => t S fun c => if c = true then Q true else u S Q
@[simp] def gNotT (t : GT) : GT := fun S Q => t S fun c => Q (!c)
variable {gA gB : GT} {rest : List Expr}
theorem VW.vc {e : Expr} (h : VW X EX e gA) : VC X EX e gA := ⟨fun G0 H0 tk => (h.pw G0 H0 tk).pt⟩
theorem vw_and1 (ha : VC X EX a gA) : VW X EX (.BoolOp .And [a] pos) gA := ⟨fun G0 H0 tk => pw_and1 (ha.pt G0 H0 tk)⟩
theorem vw_or1 (ha : VC X EX a gA) : VW X EX (.BoolOp .Or [a] pos) gA := ⟨fun G0 H0 tk => pw_or1 (ha.pt G0 H0 tk)⟩
theorem vw_and (ha : VC X EX a gA) (hb : VW X EX (.BoolOp .And (b :: rest) pos) gB) : VW X EX (.BoolOp .And (a :: b :: rest) pos) (gAndT gA gB) := by
  refine ⟨fun G0 H0 tk => pwMono (pw_and (ha.pt G0 H0 tk) (hb.pw G0 H0 tk)) fun σ H Q ⟨G, S, Qs, R, q, k⟩ => ?_⟩
  refine ⟨G, S, _, R, q, fun c H1 G1 E1 q1 => ?_⟩
  cases c with
  | true =>
    rw [if_pos rfl] at q1 ⊢
    exact ⟨G1, S, _, R.go E1, q1, fun b H2 G2 E2 q2 => k b H2 G2 (E1.trans E2) q2⟩
  | false =>
    rw [if_neg Bool.false_ne_true] at q1 ⊢
    exact k _ _ _ E1 q1
theorem vw_or (ha : VC X EX a gA) (hb : VW X EX (.BoolOp .Or (b :: rest) pos) gB) : VW X EX (.BoolOp .Or (a :: b :: rest) pos) (gOrT gA gB) := by
  refine ⟨fun G0 H0 tk => pwMono (pw_or (ha.pt G0 H0 tk) (hb.pw G0 H0 tk)) fun σ H Q ⟨G, S, Qs, R, q, k⟩ => ?_⟩
  refine ⟨G, S, _, R, q, fun c H1 G1 E1 q1 => ?_⟩
  cases c with
  | true =>
    rw [if_pos rfl] at q1 ⊢
    exact k _ _ _ E1 q1
  | false =>
    rw [if_neg Bool.false_ne_true] at q1 ⊢
    exact ⟨G1, S, _, R.go E1, q1, fun b H2 G2 E2 q2 => k b H2 G2 (E1.trans E2) q2⟩
theorem vc_not (ha : VC X EX a gA) : VC X EX (.UnaryOp .Not a pos) (gNotT gA) := by
  refine ⟨fun G0 H0 tk => ptMono (pt_not (ha.pt G0 H0 tk)) fun σ H Q ⟨G, S, Qs, R, q, k⟩ => ?_⟩
  exact ⟨G, S, _, R, q, fun c H1 G1 E1 q1 => k _ _ _ E1 q1⟩
/-! ### and, or, not as values, all but the last bools -/
@[simp] def gAndV (ga gb : GE) : GE := fun S Q => ga S fun x => ∃ c, x = .tr (.bl c) ∧ if c = true then gb S Q else Q (.tr (.bl false))
@[simp] def gOrV (ga gb : GE) : GE := fun S Q => ga S fun x => ∃ c, x = .tr (.bl c) ∧ if c = true then Q (.tr (.bl true)) else gb S Q
@[simp] def gNotV (ga : GE) : GE := fun S Q => ga S fun x => ∃ c, x = .tr (.bl c) ∧ Q (.tr (.bl (!c)))
theorem ve_one {op} (h : VE X EX a ga) : VE X EX (.BoolOp op [a] pos) ga := ⟨fun G0 H0 tk => pe_one (h.pe G0 H0 tk)⟩
theorem ve_and (ha : VE X EX a ga) (hb : VE X EX (.BoolOp .And (b :: rest) pos) gb) : VE X EX (.BoolOp .And (a :: b :: rest) pos) (gAndV ga gb) := by
  refine ⟨fun G0 H0 tk => peMono (pe_and (ha.pe G0 H0 tk) (hb.pe G0 H0 tk)) fun σ H Q ⟨G, S, Qs, R, q, k⟩ => ?_⟩
  refine ⟨G, S, _, R, q, fun v H1 G1 sv E1 r1 q1 => ?_⟩
  obtain ⟨c, rfl, q1⟩ := q1
  refine ⟨c, r1, ?_⟩
  cases c with
  | true =>
    rw [if_pos rfl] at q1 ⊢
    exact ⟨G1, S, Qs, R.go E1, q1, kq_back E1 k⟩
  | false =>
    rw [if_neg Bool.false_ne_true] at q1 ⊢
    exact k (V.bl false) H1 G1 (.tr (.bl false)) E1 rfl q1
theorem ve_or (ha : VE X EX a ga) (hb : VE X EX (.BoolOp .Or (b :: rest) pos) gb) : VE X EX (.BoolOp .Or (a :: b :: rest) pos) (gOrV ga gb) := by
  refine ⟨fun G0 H0 tk => peMono (pe_or (ha.pe G0 H0 tk) (hb.pe G0 H0 tk)) fun σ H Q ⟨G, S, Qs, R, q, k⟩ => ?_⟩
  refine ⟨G, S, _, R, q, fun v H1 G1 sv E1 r1 q1 => ?_⟩
  obtain ⟨c, rfl, q1⟩ := q1
  refine ⟨c, r1, ?_⟩
  cases c with
  | true =>
    rw [if_pos rfl] at q1 ⊢
    exact k (V.bl true) H1 G1 (.tr (.bl true)) E1 rfl q1
  | false =>
    rw [if_neg Bool.false_ne_true] at q1 ⊢
    exact ⟨G1, S, Qs, R.go E1, q1, kq_back E1 k⟩
theorem ve_not (ha : VE X EX a ga) : VE X EX (.UnaryOp .Not a pos) (gNotV ga) := by
  refine ⟨fun G0 H0 tk => peMono (pe_not (ha.pe G0 H0 tk)) fun σ H Q ⟨G, S, Qs, R, q, k⟩ => ?_⟩
  refine ⟨G, S, _, R, q, fun v H1 G1 sv E1 r1 q1 => ?_⟩
  obtain ⟨c, rfl, q1⟩ := q1
  exact ⟨c, r1, k (V.bl (!c)) H1 G1 (.tr (.bl (!c))) E1 rfl q1⟩
@[simp] def gIf (t : GT) (ga gb : GE) : GE := fun S Q => t S fun c => if c = true then ga S Q else gb S Q
theorem ve_if {c : Expr} (hc : VC X EX c gA) (ha : VE X EX a ga) (hb : VE X EX b gb) : VE X EX (.IfExp c a b pos) (gIf gA ga gb) := by
  refine ⟨fun G0 H0 tk => peMono (pe_ifExp (hc.pt G0 H0 tk) (ha.pe G0 H0 tk) (hb.pe G0 H0 tk)) fun σ H Q ⟨G, S, Qs, R, q, k⟩ => ?_⟩
  refine ⟨G, S, _, R, q, fun c H1 G1 E1 q1 => ?_⟩
  cases c with
  | true =>
    rw [if_pos rfl] at q1 ⊢
    exact ⟨G1, S, Qs, R.go E1, q1, kq_back E1 k⟩
  | false =>
    rw [if_neg Bool.false_ne_true] at q1 ⊢
    exact ⟨G1, S, Qs, R.go E1, q1, kq_back E1 k⟩
/-! ### lists of expressions -/
@[simp] def gaNil : GA := fun _ Q => Q []
@[simp] def gaCons (ga : GE) (gr : GA) : GA := fun S Q => ga S fun x => gr S fun xs => Q (x :: xs)
theorem va_nil : VA X EX [] gaNil := ⟨fun G0 H0 tk => paMono pa_nil fun σ H Q ⟨G, S, Qs, R, q, k⟩ => k [] H G [] (.refl R.ok) .nil q⟩
theorem va_cons {e : Expr} {es : List Expr} {g : GE} {gr : GA} (ha : VE X EX e g) (hr : VA X EX es gr) (hs : starEach (e :: es) X.env = (false, eval e X.env) :: starEach es X.env := by rfl) : VA X EX (e :: es) (gaCons g gr) := by
  refine ⟨fun G0 H0 tk => paMono (pa_cons (ha.pe G0 H0 tk) (hr.pa G0 H0 tk) hs) fun σ H Q ⟨G, S, Qs, R, q, k⟩ => ?_⟩
  refine ⟨G, S, _, R, q, fun v H1 G1 sv E1 r1 q1 => ?_⟩
  refine ⟨G1, S, _, R.go E1, q1, fun vs H2 G2 svs E2 r2 q2 => ?_⟩
  exact k _ _ _ _ (E1.trans E2) (RepL.cons' (fun _ z => E1.dom z) E2 r1 r2) q2
end
end VT

namespace VT
open PySem PySem.Spec PyProof.Rows L2

/-! ### tables -/
theorem tabs_put {T : TBL} {F H : Hp} {a : Addr} {u o : HO} (h : TabsF T F H) (ha : H a = some u) (n1 : ∀ ps, u ≠ .tbl ps) : TabsF T F (upd H a o) :=
  h.ext0 fun b ps e => by rw [upd_ne (ne_of e ha fun z => n1 ps z.symm)]; exact e
theorem tabs_new {T : TBL} {F H : Hp} {p : Addr} {o : HO} (h : TabsF T F H) (hp : H p = none) : TabsF T F (upd H p o) := h.ext0 fun b u e => by rw [upd_ne (ne_of_none e hp)]; exact e
/-! ### new objects -/
section
variable {G Gs : Gh} {H0 H Hs : Hp} {p a : Addr} {o : HO} {Qs : SV → Prop} {Q : VK} {ds : List D} {vs : List V} {d : D} {v : V}
theorem OkG.nF (ok : OkG G H) (hp : H p = none) : G.F p = none := by
  cases e : G.F p with
  | none => rfl
  | some o => rw [ok.sub p o e] at hp; cases hp
theorem OkG.npb (ok : OkG G H) (hp : H p = none) : G.pb ≠ some p := fun z => by
  obtain ⟨⟨c, ns, i, r, m, e, _⟩, _⟩ := ok.bag p z
  rw [e] at hp; cases hp
/-- the bag is as it was where its own place is -/
theorem BagAt.go {G' : Gh} {H' : Hp} {q : Addr} (b : BagAt G H q) (h : ∀ o, H q = some o → H' q = some o) (hF : ∀ b o, G.F b = some o → G'.F b = some o) : BagAt G' H' q := by
  obtain ⟨c, ns, i, r, m, e, ec, z⟩ := b
  exact ⟨c, ns, i, r, m, h _ e, hF _ _ ec, z⟩
theorem BagAt.upd {q : Addr} (b : BagAt G H q) (hp : H p = none) : BagAt G (upd H p o) q := b.go (fun u e => by rw [upd_ne (ne_of_none e hp)]; exact e) fun _ _ z => z
theorem upd_mono {F : Hp} (hn : F p = none) : ∀ b u, F b = some u → upd F p o b = some u := fun b u e => by rw [upd_ne (ne_of_none e hn)]; exact e
theorem ext_new (ok : OkG G H) (hp : H p = none) (o : HO) : Ext G H G (upd H p o) where
  ok := ⟨fun b u e => by rw [upd_ne (ne_of_none (ok.sub b u e) hp)]; exact ok.sub b u e, fun q e => ⟨(ok.bag q e).1.upd hp, (ok.bag q e).2⟩, tabs_new ok.tabs hp⟩
  same := fun b u e _ _ => by rw [upd_ne (ne_of_none e hp)]; exact e
  tbl := fun b ps e => ⟨ps, by rw [upd_ne (ne_of_none e hp)]; exact e⟩
  tt := rfl
  pb := fun _ h => h
  pnew := fun _ h => .inl h
  frz := fun _ _ h => h
  new := fun _ _ h => .inl h
theorem ext_frz (ok : OkG G H) (hp : H p = none) (o : HO) : Ext G H ⟨upd G.F p o, G.pb, G.T⟩ (upd H p o) where
  ok := by
    refine ⟨fun b u e => ?_, fun q e => ⟨((ok.bag q e).1.upd hp).go (fun _ z => z) (upd_mono (ok.nF hp)), ?_⟩, ok.tabs.ext (upd_mono (ok.nF hp)) (fun b ps e => by rw [upd_ne (ne_of_none e hp)]; exact e) fun b ps n e => by show upd G.F p o b = none; rw [upd_ne (ne_of_none e hp)]; exact n⟩
    · by_cases h : b = p
      · subst h
        have e : upd G.F b o b = some u := e
        rw [upd_same] at e
        rw [upd_same]
        exact e
      · have e : upd G.F p o b = some u := e
        rw [upd_ne h] at e
        rw [upd_ne h]
        exact ok.sub b u e
    · show upd G.F p o q = none
      rw [upd_ne (fun z => ok.npb hp (by rw [← z]; exact e))]
      exact (ok.bag q e).2
  same := fun b u e _ _ => by rw [upd_ne (ne_of_none e hp)]; exact e
  tbl := fun b ps e => ⟨ps, by rw [upd_ne (ne_of_none e hp)]; exact e⟩
  tt := rfl
  pb := fun _ h => h
  pnew := fun _ h => .inl h
  frz := upd_mono (ok.nF hp)
  new := fun b u h => by
    by_cases z : b = p
    · subst z; exact .inr hp
    · have h : upd G.F p o b = some u := h
      rw [upd_ne z] at h
      exact .inl h
theorem ext_freeze (E : Ext Gs Hs G H) (hs : Hs a = none) (ha : H a = some o) (hF : G.F a = none) (hb : G.pb ≠ some a) (no : ∀ ps, o ≠ .tbl ps := by nofun) : Ext Gs Hs ⟨upd G.F a o, G.pb, G.T⟩ H where
  ok := by
    refine ⟨fun b u e => ?_, fun q e => ⟨(E.ok.bag q e).1.go (fun _ z => z) (upd_mono hF), ?_⟩, E.ok.tabs.ext (upd_mono hF) (fun _ _ z => z) fun b ps n e => by show upd G.F a o b = none; rw [upd_ne (ne_of e ha fun z => no ps z.symm)]; exact n⟩
    · by_cases h : b = a
      · subst h
        have e : upd G.F b o b = some u := e
        rw [upd_same] at e
        rw [ha]
        exact e
      · have e : upd G.F a o b = some u := e
        rw [upd_ne h] at e
        exact E.ok.sub b u e
    · show upd G.F a o q = none
      rw [upd_ne (fun z => hb (by rw [← z]; exact e))]
      exact (E.ok.bag q e).2
  same := E.same
  tbl := E.tbl
  tt := E.tt
  pb := E.pb
  pnew := E.pnew
  frz := fun b u h => upd_mono hF b u (E.frz b u h)
  new := fun b u h => by
    by_cases z : b = a
    · subst z; exact .inr hs
    · have h : upd G.F a o b = some u := h
      rw [upd_ne z] at h
      exact E.new b u h
theorem kq_lst (k : KQ H0 G H Qs Q) (ok : OkG G H) (hp : H p = none) (r : reps G.F ds vs) (q : Qs (.own (.lst ds))) : Q (.ref p) (upd H p (.lst vs)) :=
  k _ _ G (.own (.lst ds)) (ext_new ok hp _) ⟨p, rfl, hp, ok.nF hp, ok.npb hp, vs, upd_same, r⟩ q
theorem kq_tup (k : KQ H0 G H Qs Q) (ok : OkG G H) (hp : H p = none) (r : reps G.F ds vs) (q : Qs (.tr (.tup ds))) : Q (.ref p) (upd H p (.tup vs)) :=
  k _ _ ⟨upd G.F p (.tup vs), G.pb, G.T⟩ (.tr (.tup ds)) (ext_frz ok hp _) ⟨p, vs, rfl, .inl upd_same, reps.mono (upd_mono (ok.nF hp)) _ _ r⟩ q
theorem kq_dic {ds : List (Key × D)} {vs : List (Key × V)} (k : KQ H0 G H Qs Q) (ok : OkG G H) (hp : H p = none) (r : repk G.F ds vs) (q : Qs (.own (.dic ds))) : Q (.ref p) (upd H p (.dK vs)) :=
  k _ _ G (.own (.dic ds)) (ext_new ok hp _) ⟨p, rfl, hp, ok.nF hp, ok.npb hp, vs, upd_same, r⟩ q
theorem kq_tr (k : KQ H0 G H Qs Q) (ok : OkG G H) (r : rep G.F d v) (q : Qs (.tr d)) : Q v H := k _ _ G (.tr d) (.refl ok) r q
end

/-! ### what stands behind a held value -/
section
variable {H0 Hs H : Hp} {G : Gh} {v : V} {sv : SV} {ds : List D}
theorem RepV.lst (r : RepV H0 Hs G H v sv) (ok : OkG G H) (e : sv.d = .lst ds) : ∃ a vs, v = .ref a ∧ H a = some (.lst vs) ∧ reps G.F ds vs := by
  cases sv with
  | tr d => cases e; obtain ⟨a, vs, e1, e2, r⟩ := r; exact ⟨a, vs, e1, ok.sub _ _ e2, r⟩
  | own d => cases e; obtain ⟨a, e1, _, _, _, vs, e2, r⟩ := r; exact ⟨a, vs, e1, e2, r⟩
  | brw d => cases e; obtain ⟨a, e1, _, _, vs, e2, r⟩ := r; exact ⟨a, vs, e1, e2, r⟩
  | pk d => cases e; obtain ⟨a, e1, _, vs, e2, r⟩ := r; exact ⟨a, vs, e1, e2, r⟩
  | bag | obj _ _ _ | pob _ _ | bob _ _ | exc _ _ _ _ | tz _ | fn _ => cases e
theorem RepV.dic {ds : List (Key × D)} (r : RepV H0 Hs G H v sv) (ok : OkG G H) (e : sv.d = .dic ds) : ∃ a vs, v = .ref a ∧ H a = some (.dK vs) ∧ repk G.F ds vs := by
  cases sv with
  | tr d => cases e; obtain ⟨a, vs, e1, e2, r⟩ := r; exact ⟨a, vs, e1, ok.sub _ _ e2, r⟩
  | own d => cases e; obtain ⟨a, e1, _, _, _, vs, e2, r⟩ := r; exact ⟨a, vs, e1, e2, r⟩
  | brw d => cases e; obtain ⟨a, e1, _, _, vs, e2, r⟩ := r; exact ⟨a, vs, e1, e2, r⟩
  | pk d => cases e; obtain ⟨a, e1, _, vs, e2, r⟩ := r; exact ⟨a, vs, e1, e2, r⟩
  | bag | obj _ _ _ | pob _ _ | bob _ _ | exc _ _ _ _ | tz _ | fn _ => cases e
theorem RepV.dit {ds : List (List Key × D)} (r : RepV H0 Hs G H v sv) (ok : OkG G H) (e : sv.d = .dit ds) : ∃ a vs, v = .ref a ∧ H a = some (.dT vs) ∧ rept G.F ds vs := by
  cases sv with
  | tr d => cases e; obtain ⟨a, vs, e1, e2, r⟩ := r; exact ⟨a, vs, e1, ok.sub _ _ e2, r⟩
  | own d => cases e; obtain ⟨a, e1, _, _, _, vs, e2, r⟩ := r; exact ⟨a, vs, e1, e2, r⟩
  | brw d => cases e; obtain ⟨a, e1, _, _, vs, e2, r⟩ := r; exact ⟨a, vs, e1, e2, r⟩
  | pk d => cases e; obtain ⟨a, e1, _, vs, e2, r⟩ := r; exact ⟨a, vs, e1, e2, r⟩
  | bag | obj _ _ _ | pob _ _ | bob _ _ | exc _ _ _ _ | tz _ | fn _ => cases e
/-- whatever is no list and no dict is a tree -/
theorem RepV.tree {d : D} (r : RepV H0 Hs G H v sv) (e : sv.d = d) (h : ∀ F K a, ¬ cont F K a d) (ho : d ≠ .opq) : rep G.F d v := by
  cases sv with
  | tr d => cases e; exact r
  | own d => cases e; obtain ⟨a, e1, _, _, _, c⟩ := r; exact (h _ _ _ c).elim
  | brw d => cases e; obtain ⟨a, e1, _, _, c⟩ := r; exact (h _ _ _ c).elim
  | pk d => cases e; obtain ⟨a, e1, _, c⟩ := r; exact (h _ _ _ c).elim
  | tz ds => cases e; obtain ⟨a, o, vs, e1, _, e2, r⟩ := r; exact ⟨a, vs, e1, .inr ⟨o, e2⟩, r⟩
  | bag | obj _ _ _ | pob _ _ | bob _ _ | exc _ _ _ _ | fn _ => exact (ho e.symm).elim
theorem RepV.tup (r : RepV H0 Hs G H v sv) (ok : OkG G H) (e : sv.d = .tup ds) : ∃ a vs, v = .ref a ∧ Rd H a (.tup vs) ∧ reps G.F ds vs := by
  obtain ⟨a, vs, e1, e2, q⟩ := r.tree e (fun _ _ _ z => z) (fun z => nomatch z)
  exact ⟨a, vs, e1, e2.imp (ok.sub _ _) fun ⟨o, e⟩ => ⟨o, ok.sub _ _ e⟩, q⟩
theorem RepV.int {i : Int} (r : RepV H0 Hs G H v sv) (e : sv.d = .int i) : v = .int i := r.tree e (fun _ _ _ z => z) (fun z => nomatch z)
theorem RepV.bl {i : Bool} (r : RepV H0 Hs G H v sv) (e : sv.d = .bl i) : v = .bl i := r.tree e (fun _ _ _ z => z) (fun z => nomatch z)
theorem RepV.non (r : RepV H0 Hs G H v sv) (e : sv.d = .non) : v = .non := r.tree e (fun _ _ _ z => z) (fun z => nomatch z)
theorem RepV.str {x : Str} (r : RepV H0 Hs G H v sv) (e : sv.d = .str x) : v = .str x ∧ okS x := r.tree e (fun _ _ _ z => z) (fun z => nomatch z)
end

/-! ### texts are texts -/
theorem strOk_append {x y : Str} (h : PyData.strOk x = true) (k : PyData.strOk y = true) : PyData.strOk (x ++ y) = true := by
  obtain ⟨x⟩ := x
  obtain ⟨y⟩ := y
  show (x ++ y).all (· < 0x110000) = true
  have h : x.all (· < 0x110000) = true := h
  have k : y.all (· < 0x110000) = true := k
  rw [Array.all_append, h, k]
  rfl

theorem length_append (x y : Str) : (x ++ y).length = x.length + y.length := by
  obtain ⟨x⟩ := x
  obtain ⟨y⟩ := y
  exact Array.size_append

/-! ### + -/
def gAdd : D → D → (SV → Prop) → Prop
  | .int i, .int j, Q => Q (.tr (.int (i + j)))
  | .str x, .str y, Q => x.length + y.length ≤ sizeLine ∧ Q (.tr (.str (x ++ y)))
  | .lst xs, .lst ys, Q => xs.length + ys.length ≤ sizeLine ∧ Q (.own (.lst (xs ++ ys)))
  | .tup xs, .tup ys, Q => xs.length + ys.length ≤ sizeLine ∧ Q (.tr (.tup (xs ++ ys)))
  | _, _, _ => False
section
variable {X : Cx} {EX : EXT}
theorem ow_add : OpW X (binaryOp .Add) gAdd := by
  intro H0 Ha Hb G H x y sx sy Qs Q ok rx ry q k
  unfold gAdd at q
  split at q
  · rename_i i j hx hy
    cases rx.int hx
    cases ry.int hy
    exact ⟨_, op_add, i, j, rfl, rfl, kq_tr (d := .int (i + j)) k ok rfl q⟩
  · rename_i i j hx hy
    obtain ⟨rfl, o1⟩ := rx.str hx
    obtain ⟨rfl, o2⟩ := ry.str hy
    exact ⟨_, op_add_str, i, j, rfl, rfl, q.1, kq_tr (d := .str (i ++ j)) k ok ⟨rfl, strOk_append o1.1 o2.1, by rw [length_append]; exact q.1⟩ q.2⟩
  · rename_i xs ys hx hy
    obtain ⟨a, vs, rfl, ea, r1⟩ := rx.lst ok hx
    obtain ⟨b, ws, rfl, eb, r2⟩ := ry.lst ok hy
    exact ⟨_, op_cat, a, b, vs, ws, rfl, rfl, ea, eb, by rw [r1.length, r2.length]; exact q.1, fun p hp => kq_lst k ok hp (r1.append r2) q.2⟩
  · rename_i xs ys hx hy
    have t1 := rx.tree hx (fun _ _ _ z => z) (fun z => nomatch z)
    have t2 := ry.tree hy (fun _ _ _ z => z) (fun z => nomatch z)
    obtain ⟨a, vs, rfl, ea, r1⟩ := rx.tup ok hx
    obtain ⟨b, ws, rfl, eb, r2⟩ := ry.tup ok hy
    refine ⟨_, op_catA, a, b, vs, ws, rfl, rfl, .inl ea, .inl eb, by rw [r1.length, r2.length]; exact q.1, fun z => ?_, fun _ z => ?_, fun _ _ p hp => kq_tup k ok hp (r1.append r2) q.2⟩
    · have e : xs = [] := List.eq_nil_of_length_eq_zero (by rw [← r1.length, z]; rfl)
      subst e
      exact kq_tr k ok t2 q.2
    · have e : ys = [] := List.eq_nil_of_length_eq_zero (by rw [← r2.length, z]; rfl)
      subst e
      rw [List.append_nil] at q
      exact kq_tr k ok t1 q.2
  · exact q.elim
/-! ### numbers -/
def gI (C : Int → Int → Prop) (f : Int → Int → D) : D → D → (SV → Prop) → Prop
  | .int i, .int j, Q => C i j ∧ Q (.tr (f i j))
  | _, _, _ => False
theorem ow_I {f : Value → Value → Sem Value} {C C' : Int → Int → Prop} {g : Int → Int → V} {d : Int → Int → D} (h : OpR X f (rI C g)) (hc : ∀ i j, C' i j → C i j) (hd : ∀ F i j, C' i j → rep F (d i j) (g i j)) : OpW X f (gI C' d) := by
  intro H0 Ha Hb G H x y sx sy Qs Q ok rx ry q k
  unfold gI at q
  split at q
  · rename_i i j hx hy
    cases rx.int hx
    cases ry.int hy
    exact ⟨_, h, i, j, rfl, rfl, hc i j q.1, kq_tr k ok (hd _ i j q.1) q.2⟩
  · exact q.elim
theorem ow_I0 {f : Value → Value → Sem Value} {g : Int → Int → V} {d : Int → Int → D} (h : OpR X f (rI0 g)) (hd : ∀ F i j, rep F (d i j) (g i j)) : OpW X f (gI (fun _ _ => True) d) := by
  intro H0 Ha Hb G H x y sx sy Qs Q ok rx ry q k
  unfold gI at q
  split at q
  · rename_i i j hx hy
    cases rx.int hx
    cases ry.int hy
    exact ⟨_, h, i, j, rfl, rfl, kq_tr k ok (hd _ i j) q.2⟩
  · exact q.elim
abbrev gSub := gI (fun _ _ => True) fun i j => .int (i - j)
theorem ow_sub : OpW X (binaryOp .Sub) gSub := ow_I0 op_sub fun _ _ _ => rfl
abbrev gDiv := gI CDivW fun i j => .int (i / j)
theorem ow_div : OpW X (binaryOp .FloorDiv) gDiv := ow_I op_fdivW (fun _ _ h => h) fun _ _ _ _ => rfl
abbrev gMod := gI (fun _ j => 0 < j) fun i j => .int (i % j)
theorem ow_mod : OpW X (binaryOp .Mod) gMod := ow_I op_mod (fun _ _ h => h) fun _ _ _ _ => rfl
abbrev gPow := gI CPow fun i j => .int (i ^ j.toNat)
theorem ow_pow : OpW X (binaryOp .Pow) gPow := ow_I op_pow (fun _ _ h => h) fun _ _ _ _ => rfl
abbrev gLt := gI (fun _ _ => True) fun i j => .bl (decide (i < j))
abbrev gLe := gI (fun _ _ => True) fun i j => .bl (decide (i ≤ j))
abbrev gGt := gI (fun _ _ => True) fun i j => .bl (decide (j < i))
abbrev gGe := gI (fun _ _ => True) fun i j => .bl (decide (j ≤ i))
theorem ow_lt : OpW X (compareOp .Lt) gLt := ow_I0 op_lt fun _ _ _ => rfl
theorem ow_le : OpW X (compareOp .LtE) gLe := ow_I0 op_le fun _ _ _ => rfl
theorem ow_gt : OpW X (compareOp .Gt) gGt := ow_I0 op_gt fun _ _ _ => rfl
theorem ow_ge : OpW X (compareOp .GtE) gGe := ow_I0 op_ge fun _ _ _ => rfl
/-- a list as often -/
def repL {α : Type} (xs : List α) : Nat → List α
  | 0 => []
  | n + 1 => xs ++ repL xs n
end
end VT

namespace VT
open PySem PySem.Spec PyProof.Rows L2

/-! ### data as data: ==, in -/
mutual
/-- no dict, no object -/
def D.dat : D → Bool
  | .non | .bl _ | .int _ | .str _ => true
  | .lst xs | .tup xs => dats xs
  | _ => false
def dats : List D → Bool
  | [] => true
  | x :: xs => x.dat && dats xs
end
mutual
def D.dep : D → Nat
  | .lst xs | .tup xs => deps xs + 1
  | _ => 0
def deps : List D → Nat
  | [] => 0
  | x :: xs => max x.dep (deps xs)
end
mutual
def deq : D → D → Bool
  | .non, .non => true
  | .bl a, .bl b => a == b
  | .bl a, .int j => (if a then 1 else 0) == j
  | .int i, .bl b => i == (if b then 1 else 0)
  | .int i, .int j => i == j
  | .str x, .str y => x == y
  | .lst xs, .lst ys => deqs xs ys
  | .tup xs, .tup ys => deqs xs ys
  | _, _ => false
def deqs : List D → List D → Bool
  | [], [] => true
  | x :: xs, y :: ys => deq x y && deqs xs ys
  | _, _ => false
end
mutual
def toPy : D → PyData
  | .non => .none
  | .bl b => .bool b
  | .int i => .int i
  | .str x => .str x
  | .lst xs => .list (toPys xs)
  | .tup xs => .tuple (toPys xs)
  | _ => .none
def toPys : List D → List PyData
  | [] => []
  | x :: xs => toPy x :: toPys xs
end
mutual
theorem dep_py : ∀ d : D, (toPy d).depth = d.dep
  | .lst xs => by simp only [toPy, PyData.depth, D.dep, dep_pys xs]
  | .tup xs => by simp only [toPy, PyData.depth, D.dep, dep_pys xs]
  | .non | .bl _ | .int _ | .str _ => by simp only [toPy, PyData.depth, D.dep]
  | .dic _ | .dit _ | .ins _ _ | .exn _ _ | .fn _ _ | .opq => by simp only [toPy, PyData.depth, PyData.depthKv, D.dep]
theorem dep_pys : ∀ ds : List D, PyData.depthAll (toPys ds) = deps ds
  | [] => by simp only [toPys, PyData.depthAll, deps]
  | d :: ds => by simp only [toPys, PyData.depthAll, deps, dep_py d, dep_pys ds]
end
mutual
theorem eqv_py : ∀ d e : D, d.dat = true → e.dat = true → PyData.eqv (toPy d) (toPy e) = deq d e
  | .lst xs, .lst ys, h, k => by simp only [toPy, PyData.eqv, deq]; exact eqv_pys xs ys h k
  | .tup xs, .tup ys, h, k => by simp only [toPy, PyData.eqv, deq]; exact eqv_pys xs ys h k
  | .non, .non, _, _ | .non, .bl _, _, _ | .non, .int _, _, _ | .non, .str _, _, _ | .non, .lst _, _, _ | .non, .tup _, _, _ => by simp only [toPy, PyData.eqv, deq]
  | .bl _, .non, _, _ | .bl _, .bl _, _, _ | .bl _, .int _, _, _ | .bl _, .str _, _, _ | .bl _, .lst _, _, _ | .bl _, .tup _, _, _ => by simp only [toPy, PyData.eqv, deq]
  | .int _, .non, _, _ | .int _, .bl _, _, _ | .int _, .int _, _, _ | .int _, .str _, _, _ | .int _, .lst _, _, _ | .int _, .tup _, _, _ => by simp only [toPy, PyData.eqv, deq]
  | .str _, .non, _, _ | .str _, .bl _, _, _ | .str _, .int _, _, _ | .str _, .str _, _, _ | .str _, .lst _, _, _ | .str _, .tup _, _, _ => by simp only [toPy, PyData.eqv, deq]
  | .lst _, .non, _, _ | .lst _, .bl _, _, _ | .lst _, .int _, _, _ | .lst _, .str _, _, _ | .lst _, .tup _, _, _ => by simp only [toPy, PyData.eqv, deq]
  | .tup _, .non, _, _ | .tup _, .bl _, _, _ | .tup _, .int _, _, _ | .tup _, .str _, _, _ | .tup _, .lst _, _, _ => by simp only [toPy, PyData.eqv, deq]
  | .dic _, _, h, _ | .dit _, _, h, _ | .ins _ _, _, h, _ | .exn _ _, _, h, _ | .fn _ _, _, h, _ | .opq, _, h, _ => by simp [D.dat] at h
  | _, .dic _, _, h | _, .dit _, _, h | _, .ins _ _, _, h | _, .exn _ _, _, h | _, .fn _ _, _, h | _, .opq, _, h => by simp [D.dat] at h
theorem eqv_pys : ∀ ds es : List D, dats ds = true → dats es = true → PyData.eqvAll (toPys ds) (toPys es) = deqs ds es
  | [], [], _, _ => by simp only [toPys, PyData.eqvAll, deqs]
  | [], _ :: _, _, _ => by simp only [toPys, PyData.eqvAll, deqs]
  | _ :: _, [], _, _ => by simp only [toPys, PyData.eqvAll, deqs]
  | d :: ds, e :: es, h, k => by
    rw [dats, Bool.and_eq_true] at h k
    simp only [toPys, PyData.eqvAll, deqs]
    rw [eqv_py d e h.1 k.1, eqv_pys ds es h.2 k.2]
end
section
variable {K : PySem.W.Frag} {F H : Hp}
mutual
theorem rep_dp (hF : ∀ b o, F b = some o → H b = some o) : ∀ (d : D) (v : V), d.dat = true → rep F d v → Dp K H v (toPy d) ∧ (toPy d).canLay0 = true
  | .non, _, _, r => by rw [show _ = _ from r]; exact ⟨.non, rfl⟩
  | .bl _, _, _, r => by rw [show _ = _ from r]; exact ⟨.bl _, rfl⟩
  | .int _, _, _, r => by rw [show _ = _ from r]; exact ⟨.int _, rfl⟩
  | .str _, _, _, r => by rw [show _ = _ from r.1]; exact ⟨.str _, r.2.1⟩
  | .lst ds, _, h, ⟨a, vs, e, q, r⟩ => by
    obtain ⟨h1, h2⟩ := reps_dp hF ds vs h r
    rw [e]
    exact ⟨.lst (SqL.of (hF _ _ q)) h1, h2⟩
  | .tup ds, _, h, ⟨a, vs, e, q, r⟩ => by
    obtain ⟨h1, h2⟩ := reps_dp hF ds vs h r
    rw [e]
    exact ⟨.tup (Or.inl (q.imp (hF _ _) fun ⟨o, e⟩ => ⟨o, hF _ _ e⟩)) h1, h2⟩
  | .dic _, _, h, _ | .dit _, _, h, _ | .ins _ _, _, h, _ | .exn _ _, _, h, _ | .fn _ _, _, h, _ | .opq, _, h, _ => by simp [D.dat] at h
theorem reps_dp (hF : ∀ b o, F b = some o → H b = some o) : ∀ (ds : List D) (vs : List V), dats ds = true → reps F ds vs → DpAll K H vs (toPys ds) ∧ PyData.canLayAll0 (toPys ds) = true
  | [], _, _, r => by rw [show _ = _ from r]; exact ⟨.nil, rfl⟩
  | d :: ds, _, h, ⟨v, r, e, q, z⟩ => by
    rw [dats, Bool.and_eq_true] at h
    obtain ⟨h1, h2⟩ := rep_dp hF d v h.1 q
    obtain ⟨h3, h4⟩ := reps_dp hF ds r h.2 z
    rw [e]
    refine ⟨.cons h1 h3, ?_⟩
    rw [toPys, PyData.canLayAll0, h2, h4]
    rfl
end
end
section
variable {X : Cx} {EX : EXT} {H0 Hs H : Hp} {G : Gh} {v : V} {sv : SV}
theorem RepV.dp {K : PySem.W.Frag} (r : RepV H0 Hs G H v sv) (ok : OkG G H) (h : sv.d.dat = true) : Dp K H v (toPy sv.d) ∧ (toPy sv.d).canLay0 = true := by
  have top : ∀ (d : D) (a : Addr), d.dat = true → cont G.F H a d → Dp K H (.ref a) (toPy d) ∧ (toPy d).canLay0 = true := fun d a h c => by
    cases d with
    | lst ds =>
      obtain ⟨vs, e, r⟩ := c
      obtain ⟨h1, h2⟩ := reps_dp ok.sub ds vs h r
      exact ⟨.lst (SqL.of e) h1, h2⟩
    | dic _ => simp [D.dat] at h
    | dit _ => simp [D.dat] at h
    | _ => exact c.elim
  cases sv with
  | tr d => exact rep_dp ok.sub d v h r
  | own d => obtain ⟨a, e, _, _, _, c⟩ := r; rw [e]; exact top d a h c
  | brw d => obtain ⟨a, e, _, _, c⟩ := r; rw [e]; exact top d a h c
  | pk d => obtain ⟨a, e, _, c⟩ := r; rw [e]; exact top d a h c
  | tz ds => exact rep_dp ok.sub (.tup ds) v h (let ⟨a, o, vs, e1, _, e2, r⟩ := r; ⟨a, vs, e1, .inr ⟨o, e2⟩, r⟩)
  | bag | obj _ _ _ | pob _ _ | bob _ _ | exc _ _ _ _ | fn _ => simp [SV.d, D.dat] at h
@[simp] def gEq (neg : Bool) (x y : D) (Q : SV → Prop) : Prop := x.dat = true ∧ y.dat = true ∧ x.dep ≤ 64 ∧ y.dep ≤ 64 ∧ Q (.tr (.bl (if neg then !deq x y else deq x y)))
theorem shaped_of {d : D} (h : (toPy d).canLay0 = true) (k : d.dep ≤ 64) : SeqAt.shaped (toPy d) = true := by
  unfold SeqAt.shaped
  rw [h, dep_py]
  simpa using k
theorem ow_eq (hu : X.A.units + 64 < cLine) : OpW X (compareOp .Eq) (gEq false) := by
  intro H0 Ha Hb G H x y sx sy Qs Q ok rx ry ⟨d1, d2, h1, h2, q⟩ k
  obtain ⟨p1, l1⟩ := rx.dp (K := X.K) ok d1
  obtain ⟨p2, l2⟩ := ry.dp (K := X.K) ok d2
  refine ⟨_, op_eqD hu, _, _, p1, p2, shaped_of l1 h1, shaped_of l2 h2, ?_⟩
  rw [eqv_py _ _ d1 d2]
  exact kq_tr (d := .bl _) k ok rfl q
theorem ow_ne (hu : X.A.units + 64 < cLine) : OpW X (compareOp .NotEq) (gEq true) := by
  intro H0 Ha Hb G H x y sx sy Qs Q ok rx ry ⟨d1, d2, h1, h2, q⟩ k
  obtain ⟨p1, l1⟩ := rx.dp (K := X.K) ok d1
  obtain ⟨p2, l2⟩ := ry.dp (K := X.K) ok d2
  refine ⟨_, op_neD hu, _, _, p1, p2, shaped_of l1 h1, shaped_of l2 h2, ?_⟩
  rw [eqv_py _ _ d1 d2]
  exact kq_tr (d := .bl _) k ok rfl q
/-- x is None -/
def D.isNon : D → Bool
  | .non => true
  | _ => false
@[simp] def gIsN (neg : Bool) (x y : D) (Q : SV → Prop) : Prop := x ≠ .opq ∧ y = .non ∧ Q (.tr (.bl (if neg then !x.isNon else x.isNon)))
theorem RepV.isN (r : RepV H0 Hs G H v sv) (h : sv.d ≠ .opq) : decide (v = .non) = sv.d.isNon := by
  have top : ∀ (d : D) (a : Addr), cont G.F H a d → decide (V.ref a = .non) = d.isNon := fun d a c => by
    cases d <;> first | exact c.elim | rfl
  cases sv with
  | tr d =>
    show _ = d.isNon
    cases d with
    | non => rw [show v = .non from r]; rfl
    | bl _ => rw [show v = _ from r]; rfl
    | int _ => rw [show v = _ from r]; rfl
    | str _ => rw [show v = _ from r.1]; rfl
    | lst _ => obtain ⟨a, _, e, _⟩ := r; rw [e]; rfl
    | tup _ => obtain ⟨a, _, e, _⟩ := r; rw [e]; rfl
    | dic _ => obtain ⟨a, _, e, _⟩ := r; rw [e]; rfl
    | dit _ => obtain ⟨a, _, e, _⟩ := r; rw [e]; rfl
    | ins _ _ => obtain ⟨a, _, _, e, _⟩ := r; rw [e]; rfl
    | exn _ _ => obtain ⟨a, _, _, _, e, _⟩ := r; rw [e]; rfl
    | fn _ _ => rw [r.1]; rfl
    | opq => exact (h rfl).elim
  | own d => obtain ⟨a, e, _, _, _, c⟩ := r; rw [e]; exact top d a c
  | brw d => obtain ⟨a, e, _, _, c⟩ := r; rw [e]; exact top d a c
  | pk d => obtain ⟨a, e, _, c⟩ := r; rw [e]; exact top d a c
  | tz ds => obtain ⟨a, o, vs, e, _⟩ := r; rw [e]; rfl
  | bag | obj _ _ _ | pob _ _ | bob _ _ | exc _ _ _ _ | fn _ => exact (h rfl).elim
theorem ow_is : OpW X (compareOp .Is) (gIsN false) := by
  intro H0 Ha Hb G H x y sx sy Qs Q ok rx ry ⟨h1, h2, q⟩ k
  refine ⟨_, op_isN, ry.non h2, ?_⟩
  rw [rx.isN h1]
  exact kq_tr (d := .bl _) k ok rfl q
theorem ow_isnot : OpW X (compareOp .IsNot) (gIsN true) := by
  intro H0 Ha Hb G H x y sx sy Qs Q ok rx ry ⟨h1, h2, q⟩ k
  refine ⟨_, op_notN, ry.non h2, ?_⟩
  rw [rx.isN h1]
  exact kq_tr (d := .bl _) k ok rfl q
/-- is True, is False -/
def gIsB (neg : Bool) : D → D → (SV → Prop) → Prop
  | .bl a, .bl b, Q => Q (.tr (.bl (if neg then !decide (a = b) else decide (a = b))))
  | _, _, _ => False
theorem ow_isB : OpW X (compareOp .Is) (gIsB false) := by
  intro H0 Ha Hb G H x y sx sy Qs Q ok rx ry q k
  unfold gIsB at q
  split at q
  · rename_i a b hx hy
    exact ⟨_, op_isBl, a, b, rx.bl hx, ry.bl hy, kq_tr (d := .bl _) k ok rfl q⟩
  · exact q.elim
theorem ow_isnotB : OpW X (compareOp .IsNot) (gIsB true) := by
  intro H0 Ha Hb G H x y sx sy Qs Q ok rx ry q k
  unfold gIsB at q
  split at q
  · rename_i a b hx hy
    exact ⟨_, op_notBl, a, b, rx.bl hx, ry.bl hy, kq_tr (d := .bl _) k ok rfl q⟩
  · exact q.elim
/-! ### in -/
/-- a flat value -/
def D.flat : D → Bool
  | .non | .bl _ | .int _ | .str _ => true
  | _ => false
/-- one sign in a text: the sign's code -/
def sign? (x : Str) : Option Nat := match x.cps.toList with
  | [c] => some c
  | _ => none
/-- x in y -/
def gIn (neg : Bool) (x y : D) (Q : SV → Prop) : Prop := match y with
  | .lst ys => x.dat = true ∧ dats ys = true ∧ x.dep ≤ 60 ∧ deps ys ≤ 60 ∧ Q (.tr (.bl (if neg then !ys.any (fun z => deq z x) else ys.any fun z => deq z x)))
  | .tup ys => x.flat = true ∧ ys.all D.flat = true ∧ Q (.tr (.bl (if neg then !ys.any (fun z => deq z x) else ys.any fun z => deq z x)))
  | .str z => ∃ s, x = .str s ∧ match sign? s with
    | some c => Q (.tr (.bl (if neg then !decide (c ∈ z.cps.toList) else decide (c ∈ z.cps.toList))))
    | none => Q (.tr (.bl (if neg then !!(Builtin.Str.occurrences z s 0 z.length 1).isEmpty else !(Builtin.Str.occurrences z s 0 z.length 1).isEmpty)))
  | _ => False
theorem flat_V {F : Hp} : ∀ {d : D} {v : V}, d.flat = true → rep F d v → flatV v = true
  | .non, _, _, r => by rw [show _ = _ from r]; rfl
  | .bl _, _, _, r => by rw [show _ = _ from r]; rfl
  | .int _, _, _, r => by rw [show _ = _ from r]; rfl
  | .str _, _, _, r => by rw [show _ = _ from r.1]; rfl
  | .lst _, _, h, _ | .tup _, _, h, _ | .dic _, _, h, _ | .dit _, _, h, _ | .ins _ _, _, h, _ | .exn _ _, _, h, _ | .fn _ _, _, h, _ | .opq, _, h, _ => by simp [D.flat] at h
theorem flat_eq {F : Hp} {d e : D} {v w : V} (hd : d.flat = true) (he : e.flat = true) (r : rep F d v) (q : rep F e w) : eqV v w = deq d e := by
  cases d <;> first
    | (simp [D.flat] at hd; done)
    | (cases e <;> first
        | (simp [D.flat] at he; done)
        | (first | (have r := r.1; rw [r]) | (have r : _ = _ := r; rw [r])
           first | (have q := q.1; rw [q]) | (have q : _ = _ := q; rw [q])
           simp only [eqV, deq]))
theorem flats_any {F : Hp} {x : D} {v : V} (hx : x.flat = true) (r : rep F x v) : ∀ {ds : List D} {vs : List V}, ds.all D.flat = true → reps F ds vs → inV v vs = (ds.any fun z => deq z x) ∧ vs.all flatV = true
  | [], _, _, q => by rw [show _ = _ from q]; exact ⟨rfl, rfl⟩
  | d :: ds, _, h, ⟨w, t, e, q, z⟩ => by
    rw [List.all_cons, Bool.and_eq_true] at h
    obtain ⟨h1, h2⟩ := flats_any hx r h.2 z
    rw [e]
    constructor
    · show (eqV w v || inV v t) = _
      rw [h1, flat_eq h.1 hx q r, List.any_cons]
    · rw [List.all_cons, flat_V h.1 q, h2]
      rfl
theorem sign_eq {s : Str} {c : Nat} (h : sign? s = some c) : s = ⟨#[c]⟩ := by
  obtain ⟨⟨l⟩⟩ := s
  unfold sign? at h
  match l, h with
  | [c'], h => rw [show c' = c from Option.some.inj h]
theorem toPys_any (x : D) (hx : x.dat = true) : ∀ ds : List D, dats ds = true → ((toPys ds).any fun z => PyData.eqv z (toPy x)) = ds.any fun z => deq z x
  | [], _ => rfl
  | d :: ds, h => by
    rw [dats, Bool.and_eq_true] at h
    rw [toPys, List.any_cons, List.any_cons, eqv_py d x h.1 hx, toPys_any x hx ds h.2]
theorem ow_in (hu : X.A.units + 64 < cLine) (hu' : X.A.units + 65 < cLine) : OpW X (compareOp .In) (gIn false) := by
  intro H0 Ha Hb G H x y sx sy Qs Q ok rx ry q k
  unfold gIn at q
  split at q
  · rename_i ys hy
    obtain ⟨d1, d2, h1, h2, q⟩ := q
    obtain ⟨p1, l1⟩ := rx.dp (K := X.K) ok d1
    have hyd : sy.d.dat = true := by rw [hy]; exact d2
    obtain ⟨p2, l2⟩ := ry.dp (K := X.K) ok hyd
    rw [hy] at p2 l2
    refine ⟨_, op_inD hu', _, _, p1, p2, shaped_of l1 (by omega), shaped_of (d := .lst ys) l2 (by rw [D.dep]; omega), ?_⟩
    rw [toPys_any _ d1 _ d2]
    exact kq_tr (d := .bl _) k ok rfl q
  · rename_i ys hy
    obtain ⟨d1, d2, q⟩ := q
    have t1 := rx.tree rfl (fun F K a c => by cases hh : sx.d <;> first | (rw [hh] at c; exact c) | (rw [hh] at d1; simp [D.flat] at d1)) (fun z => by rw [z] at d1; simp [D.flat] at d1)
    obtain ⟨a, vs, rfl, ea, r⟩ := ry.tup ok hy
    obtain ⟨e1, e2⟩ := flats_any d1 t1 d2 r
    refine ⟨_, op_in_seq, a, vs, rfl, .inr (.inl ea), flat_V d1 t1, e2, ?_⟩
    rw [e1]
    exact kq_tr (d := .bl _) k ok rfl q
  · rename_i z hz
    obtain ⟨s, hs, q⟩ := q
    obtain ⟨rfl, _⟩ := rx.str hs
    obtain ⟨rfl, _⟩ := ry.str hz
    split at q
    · rename_i c hc
      have e := sign_eq hc
      subst e
      exact ⟨_, op_in_sign, c, z, rfl, rfl, kq_tr (d := .bl _) k ok rfl q⟩
    · exact ⟨_, op_in_str, s, z, rfl, rfl, kq_tr (d := .bl _) k ok rfl q⟩
  · exact q.elim
theorem ow_notin (hu : X.A.units + 64 < cLine) (hu' : X.A.units + 65 < cLine) : OpW X (compareOp .NotIn) (gIn true) := by
  intro H0 Ha Hb G H x y sx sy Qs Q ok rx ry q k
  unfold gIn at q
  split at q
  · rename_i ys hy
    obtain ⟨d1, d2, h1, h2, q⟩ := q
    obtain ⟨p1, l1⟩ := rx.dp (K := X.K) ok d1
    have hyd : sy.d.dat = true := by rw [hy]; exact d2
    obtain ⟨p2, l2⟩ := ry.dp (K := X.K) ok hyd
    rw [hy] at p2 l2
    refine ⟨_, op_notInD hu', _, _, p1, p2, shaped_of l1 (by omega), shaped_of (d := .lst ys) l2 (by rw [D.dep]; omega), ?_⟩
    rw [toPys_any _ d1 _ d2]
    exact kq_tr (d := .bl _) k ok rfl q
  · rename_i ys hy
    obtain ⟨d1, d2, q⟩ := q
    have t1 := rx.tree rfl (fun F K a c => by cases hh : sx.d <;> first | (rw [hh] at c; exact c) | (rw [hh] at d1; simp [D.flat] at d1)) (fun z => by rw [z] at d1; simp [D.flat] at d1)
    obtain ⟨a, vs, rfl, ea, r⟩ := ry.tup ok hy
    obtain ⟨e1, e2⟩ := flats_any d1 t1 d2 r
    refine ⟨_, op_notIn_seq, a, vs, rfl, .inr (.inl ea), flat_V d1 t1, e2, ?_⟩
    rw [e1]
    exact kq_tr (d := .bl _) k ok rfl q
  · rename_i z hz
    obtain ⟨s, hs, q⟩ := q
    obtain ⟨rfl, _⟩ := rx.str hs
    obtain ⟨rfl, _⟩ := ry.str hz
    split at q
    · rename_i c hc
      have e := sign_eq hc
      subst e
      exact ⟨_, op_notIn_sign, c, z, rfl, rfl, kq_tr (d := .bl _) k ok rfl q⟩
    · exact ⟨_, op_notIn_str, s, z, rfl, rfl, kq_tr (d := .bl _) k ok rfl q⟩
  · exact q.elim
end
end VT

namespace VT
open PySem PySem.Spec PyProof.Rows L2

/-! ### a new object is let go of: it is a tree from now on -/
def SV.let_ : SV → SV
  | .own d => .tr d
  | .tz ds => .tr (.tup ds)
  | sv => sv
@[simp] def gFz (g : GE) : GE := fun S Q => g S fun sv => Q sv.let_
theorem own_freeze {Gs G : Gh} {H0 Hs H : Hp} {v : V} {d : D} (E : Ext Gs Hs G H) (r : RepV H0 Hs G H v (.own d)) : ∃ G', Ext Gs Hs G' H ∧ Ext G H G' H = Ext G H G' H ∧ RepV H0 Hs G' H v (.tr d) ∧ (∀ b o, G.F b = some o → G'.F b = some o) := by
  obtain ⟨a, rfl, h1, h2, h3, c⟩ := r
  cases d with
  | lst ds =>
    obtain ⟨vs, e, r⟩ := c
    exact ⟨_, ext_freeze E h1 e h2 h3, rfl, ⟨a, vs, rfl, upd_same, reps.mono (upd_mono h2) _ _ r⟩, upd_mono h2⟩
  | dic ds =>
    obtain ⟨vs, e, r⟩ := c
    exact ⟨_, ext_freeze E h1 e h2 h3, rfl, ⟨a, vs, rfl, upd_same, repk.mono (upd_mono h2) _ _ r⟩, upd_mono h2⟩
  | dit ds =>
    obtain ⟨vs, e, r⟩ := c
    exact ⟨_, ext_freeze E h1 e h2 h3, rfl, ⟨a, vs, rfl, upd_same, rept.mono (upd_mono h2) _ _ r⟩, upd_mono h2⟩
  | _ => exact c.elim
section
variable {X : Cx} {EX : EXT} {e : Expr} {g : GE}
theorem ve_fz (h : VE X EX e g) : VE X EX e (gFz g) := by
  refine ⟨fun G0 H0 tk => peMono (h.pe G0 H0 tk) fun σ H Q ⟨G, S, Qs, R, q, k⟩ => ?_⟩
  refine ⟨G, S, _, R, q, fun v H1 G1 sv E1 r1 q1 => ?_⟩
  cases sv with
  | own d =>
    obtain ⟨G', E', _, r', _⟩ := own_freeze E1 r1
    exact k v H1 G' (.tr d) E' r' q1
  | tz ds =>
    obtain ⟨a, o, vs, e1, _, e2, r⟩ := r1
    exact k v H1 G1 (.tr (.tup ds)) E1 ⟨a, vs, e1, .inr ⟨o, e2⟩, r⟩ q1
  | _ => exact k v H1 G1 _ E1 r1 q1
end

/-! ### all trees -/
@[simp] def onTrs : List SV → (List D → Prop) → Prop
  | [], P => P []
  | .tr d :: r, P => onTrs r fun ds => P (d :: ds)
  | _ :: _, _ => False
theorem onTrs_of {H0 Hs : Hp} {G : Gh} {H : Hp} : ∀ {svs : List SV} {vs : List V} {P : List D → Prop}, RepL H0 Hs G H vs svs → onTrs svs P → ∃ ds, reps G.F ds vs ∧ P ds
  | [], _, P, .nil, h => ⟨[], rfl, h⟩
  | .tr d :: r, _, P, .cons rv rr _, h => by
    obtain ⟨ds, h1, h2⟩ := onTrs_of rr h
    exact ⟨d :: ds, ⟨_, _, rfl, rv, h1⟩, h2⟩
  | .own _ :: _, _, _, _, h => h.elim
  | .brw _ :: _, _, _, _, h => h.elim
  | .pk _ :: _, _, _, _, h => h.elim
  | .bag :: _, _, _, _, h => h.elim
@[simp] def gTup (ga : GA) : GE := fun S Q => ga S fun svs => onTrs svs fun ds => ds.length ≤ sizeLine ∧ Q (.tr (.tup ds))
@[simp] def gLst (ga : GA) : GE := fun S Q => ga S fun svs => onTrs svs fun ds => ds.length ≤ sizeLine ∧ Q (.own (.lst ds))
section
variable {X : Cx} {EX : EXT} {es : List Expr} {ga : GA} {pos : Pos}
theorem ve_tup {x1} (h : VA X EX es ga) : VE X EX (.Tuple es x1 pos) (gTup ga) := by
  refine ⟨fun G0 H0 tk => peMono (pe_tup (h.pa G0 H0 tk)) fun σ H Q ⟨G, S, Qs, R, q, k⟩ => ?_⟩
  refine ⟨G, S, _, R, q, fun vs H1 G1 svs E1 r1 q1 => ?_⟩
  obtain ⟨ds, r2, hz, q2⟩ := onTrs_of r1 q1
  exact ⟨by rw [r2.length]; exact hz, fun p hp => kq_tup (kq_back E1 k) E1.ok hp r2 q2⟩
theorem ve_lst (h : VA X EX es ga) : VE X EX (.List es pos) (gLst ga) := by
  refine ⟨fun G0 H0 tk => peMono (pe_lst (h.pa G0 H0 tk)) fun σ H Q ⟨G, S, Qs, R, q, k⟩ => ?_⟩
  refine ⟨G, S, _, R, q, fun vs H1 G1 svs E1 r1 q1 => ?_⟩
  obtain ⟨ds, r2, hz, q2⟩ := onTrs_of r1 q1
  exact ⟨by rw [r2.length]; exact hz, fun p hp => kq_lst (kq_back E1 k) E1.ok hp r2 q2⟩
end

/-! ### built-in functions -/
def CallW (X : Cx) (f : Value) (g : List D → (SV → Prop) → Prop) : Prop :=
  ∀ (H0 Hs : Hp) (G : Gh) (H : Hp) (vs : List V) (svs : List SV) (Qs : SV → Prop) (Q : VK), OkG G H → RepL H0 Hs G H vs svs → g (svs.map SV.d) Qs → KQ H0 G H Qs Q → ∃ r, CallR X f r ∧ r vs H Q
@[simp] def gCB (g : List D → (SV → Prop) → Prop) (ga : GA) : GE := fun S Q => ga S fun svs => g (svs.map SV.d) Q
section
variable {X : Cx} {EX : EXT} {x : Str} {p pos : Pos} {e : Expr} {es : List Expr} {ga : GA} {id T : String} {g : List D → (SV → Prop) → Prop}
theorem callr_any {f : Value} : CallR X f (fun vs H Q => ∃ r, CallR X f r ∧ r vs H Q) := fun pins s σ H xs us Q I r ⟨_, h, q⟩ => h pins s σ H xs us Q I r q
theorem gCB_t {f : Value} (hc : CallW X f g) {G0 : Gh} {H0 : Hp} {σ : L2.St} {H : Hp} {Q : VK} (h : TV G0 H0 (gCB g ga) σ H Q) : tCB (fun vs H Q => ∃ r, CallR X f r ∧ r vs H Q) (TAV G0 H0 ga) σ H Q := by
  obtain ⟨G, S, Qs, R, q, k⟩ := h
  refine ⟨G, S, _, R, q, fun vs H1 G1 svs E1 r1 q1 => ?_⟩
  exact hc H0 _ G1 H1 vs svs Qs Q E1.ok r1 q1 (kq_back E1 k)
theorem ve_callB (hc : CallW X (.builtin id) g) (hg : Gl X x) (hm : X.mg x = none) (hv : bootBuiltins x = some (.builtin id)) (ha : VA X EX (e :: es) ga) (hn : x ≠ "__name__" := by decide) (hdb : (x == ("__debug__" : Str)) = false := by decide)
    (he : starEach (e :: es) X.env = (false, eval e X.env) :: starEach es X.env := by rfl) (hpl : (backTo pos (starEach es X.env)).any (·.1) = false := by rfl) : VE X EX (.Call (.Name x p) (e :: es) [] pos) (gCB g ga) :=
  ⟨fun G0 H0 tk => peMono (pe_callB callr_any hg hm hv (ha.pa G0 H0 tk) hn hdb he hpl) fun _ _ _ h => gCB_t hc h⟩
theorem ve_callT (hc : CallW X (.type T) g) (hg : Gl X x) (hm : X.mg x = none) (hv : bootBuiltins x = some (.type T)) (ha : VA X EX (e :: es) ga) (hn : x ≠ "__name__" := by decide) (hdb : (x == ("__debug__" : Str)) = false := by decide)
    (he : starEach (e :: es) X.env = (false, eval e X.env) :: starEach es X.env := by rfl) (hpl : (backTo pos (starEach es X.env)).any (·.1) = false := by rfl) : VE X EX (.Call (.Name x p) (e :: es) [] pos) (gCB g ga) :=
  ⟨fun G0 H0 tk => peMono (pe_callTy callr_any hg hm hv (ha.pa G0 H0 tk) hn hdb he hpl) fun _ _ _ h => gCB_t hc h⟩
end
section
variable {X : Cx} {EX : EXT} {H0 Hs H : Hp} {G : Gh}
theorem repl1 {vs : List V} {svs : List SV} {d : D} (r : RepL H0 Hs G H vs svs) (e : svs.map SV.d = [d]) : ∃ v sv, vs = [v] ∧ svs = [sv] ∧ sv.d = d ∧ RepV H0 Hs G H v sv := by
  cases r with
  | nil => cases e
  | cons rv rr _ =>
    cases rr with
    | nil =>
      simp only [List.map_cons, List.map_nil, List.cons.injEq, and_true] at e
      exact ⟨_, _, rfl, rfl, e, rv⟩
    | cons _ _ _ => simp at e
theorem repl2 {vs : List V} {svs : List SV} {d e : D} (r : RepL H0 Hs G H vs svs) (h : svs.map SV.d = [d, e]) : ∃ v sv w sw, vs = [v, w] ∧ svs = [sv, sw] ∧ sv.d = d ∧ sw.d = e ∧ RepV H0 Hs G H v sv ∧ RepV H0 Hs G H w sw := by
  cases r with
  | nil => cases h
  | cons rv rr _ =>
    cases rr with
    | nil => simp at h
    | cons rw_ rr _ =>
      cases rr with
      | nil =>
        simp only [List.map_cons, List.map_nil, List.cons.injEq, and_true] at h
        exact ⟨_, _, _, _, rfl, rfl, h.1, h.2, rv, rw_⟩
      | cons _ _ _ => simp at h
def gLen : List D → (SV → Prop) → Prop
  | [.lst xs], Q => Q (.tr (.int xs.length))
  | [.tup xs], Q => Q (.tr (.int xs.length))
  | [.str x], Q => Q (.tr (.int x.length))
  | _, _ => False
theorem cw_len : CallW X (.builtin "len") gLen := by
  intro H0 Hs G H vs svs Qs Q ok r q k
  unfold gLen at q
  split at q
  · rename_i xs h
    obtain ⟨v, sv, rfl, rfl, e, rv⟩ := repl1 r h
    obtain ⟨a, ws, rfl, ea, rw_⟩ := rv.lst ok e
    refine ⟨_, call_len_seq, a, ws, rfl, .inl (.of ea), ?_⟩
    rw [rw_.length]
    exact kq_tr (d := .int _) k ok rfl q
  · rename_i xs h
    obtain ⟨v, sv, rfl, rfl, e, rv⟩ := repl1 r h
    obtain ⟨a, ws, rfl, ea, rw_⟩ := rv.tup ok e
    refine ⟨_, call_len_seq, a, ws, rfl, .inr (.inl ea), ?_⟩
    rw [rw_.length]
    exact kq_tr (d := .int _) k ok rfl q
  · rename_i x h
    obtain ⟨v, sv, rfl, rfl, e, rv⟩ := repl1 r h
    obtain ⟨rfl, hx⟩ := rv.str e
    exact ⟨_, call_len_str, x, rfl, hx.2, kq_tr (d := .int _) k ok rfl q⟩
  · exact q.elim
def gAbs : List D → (SV → Prop) → Prop
  | [.int i], Q => Q (.tr (.int (if i < 0 then -i else i)))
  | _, _ => False
theorem cw_abs : CallW X (.builtin "abs") gAbs := by
  intro H0 Hs G H vs svs Qs Q ok r q k
  unfold gAbs at q
  split at q
  · rename_i i h
    obtain ⟨v, sv, rfl, rfl, e, rv⟩ := repl1 r h
    cases rv.int e
    exact ⟨_, call_abs, i, rfl, kq_tr (d := .int _) k ok rfl q⟩
  · exact q.elim
def gInt : List D → (SV → Prop) → Prop
  | [.int i], Q => Q (.tr (.int i))
  | [.bl b], Q => Q (.tr (.int (if b then 1 else 0)))
  | _, _ => False
theorem cw_int : CallW X (.type "int") gInt := by
  intro H0 Hs G H vs svs Qs Q ok r q k
  unfold gInt at q
  split at q
  · rename_i i h
    obtain ⟨v, sv, rfl, rfl, e, rv⟩ := repl1 r h
    cases rv.int e
    exact ⟨_, call_int1, .inl ⟨i, rfl, kq_tr (d := .int _) k ok rfl q⟩⟩
  · rename_i i h
    obtain ⟨v, sv, rfl, rfl, e, rv⟩ := repl1 r h
    cases rv.bl e
    exact ⟨_, call_int1, .inr ⟨i, rfl, kq_tr (d := .int _) k ok rfl q⟩⟩
  · exact q.elim
def gMax : List D → (SV → Prop) → Prop
  | [.int i, .int j], Q => Q (.tr (.int (if j > i then j else i)))
  | _, _ => False
def gMin : List D → (SV → Prop) → Prop
  | [.int i, .int j], Q => Q (.tr (.int (if j < i then j else i)))
  | _, _ => False
theorem cw_max (hc : X.calm = true) : CallW X (.builtin "max") gMax := by
  intro H0 Hs G H vs svs Qs Q ok r q k
  unfold gMax at q
  split at q
  · rename_i i j h
    obtain ⟨v, sv, w, sw, rfl, rfl, e, e2, rv, rw_⟩ := repl2 r h
    cases rv.int e
    cases rw_.int e2
    exact ⟨_, call_max2 hc, i, j, rfl, kq_tr (d := .int _) k ok rfl q⟩
  · exact q.elim
theorem cw_min (hc : X.calm = true) : CallW X (.builtin "min") gMin := by
  intro H0 Hs G H vs svs Qs Q ok r q k
  unfold gMin at q
  split at q
  · rename_i i j h
    obtain ⟨v, sv, w, sw, rfl, rfl, e, e2, rv, rw_⟩ := repl2 r h
    cases rv.int e
    cases rw_.int e2
    exact ⟨_, call_min2 hc, i, j, rfl, kq_tr (d := .int _) k ok rfl q⟩
  · exact q.elim
def gListOf : List D → (SV → Prop) → Prop
  | [.lst xs], Q => Q (.own (.lst xs))
  | [.tup xs], Q => Q (.own (.lst xs))
  | _, _ => False
theorem cw_list : CallW X (.type "list") gListOf := by
  intro H0 Hs G H vs svs Qs Q ok r q k
  unfold gListOf at q
  split at q
  · rename_i xs h
    obtain ⟨v, sv, rfl, rfl, e, rv⟩ := repl1 r h
    obtain ⟨a, ws, rfl, ea, rw_⟩ := rv.lst ok e
    exact ⟨_, call_list_of, a, ws, rfl, .inl (.of ea), fun p hp => kq_lst k ok hp rw_ q⟩
  · rename_i xs h
    obtain ⟨v, sv, rfl, rfl, e, rv⟩ := repl1 r h
    obtain ⟨a, ws, rfl, ea, rw_⟩ := rv.tup ok e
    exact ⟨_, call_list_of, a, ws, rfl, .inr (.inl ea), fun p hp => kq_lst k ok hp rw_ q⟩
  · exact q.elim
def gTupOf : List D → (SV → Prop) → Prop
  | [.lst xs], Q => Q (.tr (.tup xs))
  | [.tup xs], Q => Q (.tr (.tup xs))
  | _, _ => False
theorem cw_tuple : CallW X (.type "tuple") gTupOf := by
  intro H0 Hs G H vs svs Qs Q ok r q k
  unfold gTupOf at q
  split at q
  · rename_i xs h
    obtain ⟨v, sv, rfl, rfl, e, rv⟩ := repl1 r h
    obtain ⟨a, ws, rfl, ea, rw_⟩ := rv.lst ok e
    exact ⟨_, call_tuple_of, a, ws, rfl, .inl ⟨.of ea, fun p hp => kq_tup k ok hp rw_ q⟩⟩
  · rename_i xs h
    obtain ⟨v, sv, rfl, rfl, e, rv⟩ := repl1 r h
    have t := rv.tree e (fun _ _ _ z => z) (fun z => nomatch z)
    obtain ⟨a, ws, rfl, ea, rw_⟩ := rv.tup ok e
    exact ⟨_, call_tuple_of, a, ws, rfl, .inr ⟨.inl ea, kq_tr k ok t q⟩⟩
  · exact q.elim
/-- the bools, the intsD, the texts of a list -/
def blsD : List D → Option (List Bool)
  | [] => some []
  | .bl b :: r => (blsD r).map (b :: ·)
  | _ => none
def intsD : List D → Option (List Int)
  | [] => some []
  | .int b :: r => (intsD r).map (b :: ·)
  | _ => none
def strsD : List D → Option (List Str)
  | [] => some []
  | .str b :: r => (strsD r).map (b :: ·)
  | _ => none
theorem blsD_eq : ∀ {ds : List D} {bs : List Bool}, blsD ds = some bs → ds = bs.map D.bl
  | [], _, h => by cases h; rfl
  | .bl b :: r, bs, h => by
    rw [blsD] at h
    cases e : blsD r with
    | none => rw [e] at h; cases h
    | some t => rw [e] at h; cases h; rw [blsD_eq e]; rfl
theorem intsD_eq : ∀ {ds : List D} {bs : List Int}, intsD ds = some bs → ds = bs.map D.int
  | [], _, h => by cases h; rfl
  | .int b :: r, bs, h => by
    rw [intsD] at h
    cases e : intsD r with
    | none => rw [e] at h; cases h
    | some t => rw [e] at h; cases h; rw [intsD_eq e]; rfl
theorem strsD_eq : ∀ {ds : List D} {bs : List Str}, strsD ds = some bs → ds = bs.map D.str
  | [], _, h => by cases h; rfl
  | .str b :: r, bs, h => by
    rw [strsD] at h
    cases e : strsD r with
    | none => rw [e] at h; cases h
    | some t => rw [e] at h; cases h; rw [strsD_eq e]; rfl
@[simp] theorem blsD_map {α : Type} (f : α → Bool) : ∀ xs : List α, blsD (xs.map fun x => D.bl (f x)) = some (xs.map f)
  | [] => rfl
  | x :: xs => by rw [List.map_cons, blsD, blsD_map f xs]; rfl
@[simp] theorem intsD_map {α : Type} (f : α → Int) : ∀ xs : List α, intsD (xs.map fun x => D.int (f x)) = some (xs.map f)
  | [] => rfl
  | x :: xs => by rw [List.map_cons, intsD, intsD_map f xs]; rfl
@[simp] theorem strsD_map {α : Type} (f : α → Str) : ∀ xs : List α, strsD (xs.map fun x => D.str (f x)) = some (xs.map f)
  | [] => rfl
  | x :: xs => by rw [List.map_cons, strsD, strsD_map f xs]; rfl
def gAll : List D → (SV → Prop) → Prop
  | [.lst xs], Q => ∃ bs, blsD xs = some bs ∧ Q (.tr (.bl (bs.all id)))
  | _, _ => False
def gAny : List D → (SV → Prop) → Prop
  | [.lst xs], Q => ∃ bs, blsD xs = some bs ∧ Q (.tr (.bl (bs.any id)))
  | _, _ => False
def gSum : List D → (SV → Prop) → Prop
  | [.lst xs], Q => ∃ bs, intsD xs = some bs ∧ Q (.tr (.int bs.sum))
  | _, _ => False
theorem cw_all (hc : X.calm = true) : CallW X (.builtin "all") gAll := by
  intro H0 Hs G H vs svs Qs Q ok r q k
  unfold gAll at q
  split at q
  · rename_i xs h
    obtain ⟨bs, hb, q⟩ := q
    obtain ⟨v, sv, rfl, rfl, e, rv⟩ := repl1 r h
    obtain ⟨a, ws, rfl, ea, rw_⟩ := rv.lst ok e
    rw [blsD_eq hb] at rw_
    rw [rw_.map_bl] at ea
    exact ⟨_, cr_all hc, a, bs, rfl, .of ea, kq_tr (d := .bl _) k ok rfl q⟩
  · exact q.elim
theorem cw_any (hc : X.calm = true) : CallW X (.builtin "any") gAny := by
  intro H0 Hs G H vs svs Qs Q ok r q k
  unfold gAny at q
  split at q
  · rename_i xs h
    obtain ⟨bs, hb, q⟩ := q
    obtain ⟨v, sv, rfl, rfl, e, rv⟩ := repl1 r h
    obtain ⟨a, ws, rfl, ea, rw_⟩ := rv.lst ok e
    rw [blsD_eq hb] at rw_
    rw [rw_.map_bl] at ea
    exact ⟨_, cr_any hc, a, bs, rfl, .of ea, kq_tr (d := .bl _) k ok rfl q⟩
  · exact q.elim
theorem cw_sum (hc : X.calm = true) : CallW X (.builtin "sum") gSum := by
  intro H0 Hs G H vs svs Qs Q ok r q k
  unfold gSum at q
  split at q
  · rename_i xs h
    obtain ⟨bs, hb, q⟩ := q
    obtain ⟨v, sv, rfl, rfl, e, rv⟩ := repl1 r h
    obtain ⟨a, ws, rfl, ea, rw_⟩ := rv.lst ok e
    rw [intsD_eq hb] at rw_
    rw [rw_.map_int] at ea
    exact ⟨_, cr_sum hc, a, bs, rfl, .of ea, kq_tr (d := .int _) k ok rfl q⟩
  · exact q.elim
end
end VT

namespace VT
open PySem PySem.Spec PyProof.Rows L2

/-! ### kinds -/
inductive Ty where
  | int | str | bool | list | tuple | dict
@[simp] def Ty.nm : Ty → String
  | .int => "int" | .str => "str" | .bool => "bool" | .list => "list" | .tuple => "tuple" | .dict => "dict"
def D.isT : D → Ty → Bool
  | .bl _, .bool | .bl _, .int => true
  | .int _, .int => true
  | .str _, .str => true
  | .lst _, .list => true
  | .tup _, .tuple => true
  | .dic _, .dict | .dit _, .dict => true
  | _, _ => false
def D.kind : D → Option String
  | .non => some "NoneType"
  | .bl _ => some "bool"
  | .int _ => some "int"
  | .str _ => some "str"
  | .lst _ => some "list"
  | .tup _ => some "tuple"
  | .dic _ | .dit _ => some "dict"
  | _ => none
section
variable {X : Cx} {EX : EXT} {H0 Hs H : Hp} {G : Gh} {v : V} {sv : SV}
theorem RepV.ty {K : PySem.W.Frag} {n : String} (r : RepV H0 Hs G H v sv) (ok : OkG G H) (e : sv.d.kind = some n) : TyX K H v (.type n) := by
  cases hd : sv.d with
  | non => rw [hd] at e; cases e; rw [r.non hd]; exact .base .non
  | bl b => rw [hd] at e; cases e; rw [r.bl hd]; exact .base (.bl b)
  | int b => rw [hd] at e; cases e; rw [r.int hd]; exact .base (.int b)
  | str b => rw [hd] at e; cases e; rw [(r.str hd).1]; exact .base (.str b)
  | lst b => rw [hd] at e; cases e; obtain ⟨a, vs, rfl, ea, _⟩ := r.lst ok hd; exact .base (.lst ea)
  | tup b => rw [hd] at e; cases e; obtain ⟨a, vs, rfl, ea, _⟩ := r.tup ok hd; rcases ea with ea | ⟨o, ea⟩; exact .base (.tup ea); exact .fTuple ea
  | dic b => rw [hd] at e; cases e; obtain ⟨a, vs, rfl, ea, _⟩ := r.dic ok hd; exact .base (.dK ea)
  | dit b => rw [hd] at e; cases e; obtain ⟨a, vs, rfl, ea, _⟩ := r.dit ok hd; exact .base (.dT ea)
  | ins _ _ | exn _ _ | fn _ _ => rw [hd] at e; cases e
  | opq => rw [hd] at e; cases e
theorem isT_kit (d : D) (T : Ty) (n : String) (e : d.kind = some n) : kitB n T.nm = some (d.isT T) := by
  cases d <;> first
    | (cases e; done)
    | (cases e; cases T <;> (simp only [D.isT, Ty.nm]; decide +kernel))
@[simp] def gIsi (T : Ty) (g : GE) : GE := fun S Q => g S fun sv => sv.d.kind.isSome = true ∧ Q (.tr (.bl (sv.d.isT T)))
theorem ve_isi (T : Ty) {e : Expr} {g : GE} {x : Str} {p p2 pos : Pos} (he : VE X EX e g) (gI : Gl X "isinstance") (mI : X.mg "isinstance" = none) (gT : Gl X x) (mT : X.mg x = none) (hT : bootBuiltins x = some (.type T.nm)) (hn : x ≠ "__name__" := by decide) (hd : (x == ("__debug__" : Str)) = false := by decide)
    (h1 : starEach [e, .Name x p2] X.env = (false, eval e X.env) :: starEach [.Name x p2] X.env := by rfl) (h2 : starEach [.Name x p2] X.env = (false, eval (.Name x p2) X.env) :: starEach [] X.env := by rfl)
    (hpl : (backTo pos (starEach [.Name x p2] X.env)).any (·.1) = false := by rfl) : VE X EX (.Call (.Name "isinstance" p) [e, .Name x p2] [] pos) (gIsi T g) := by
  refine ⟨fun G0 H0 tk => peMono (pe_callB call_isi gI mI (by decide +kernel) (pa_cons (he.pe G0 H0 tk) (pa_cons (pe_bltn (v := .ty T.nm) gT mT hT rfl hn hd) pa_nil h2) h1) (by decide) (by decide) h1 hpl) fun σ H Q ⟨G, S, Qs, R, q, k⟩ => ?_⟩
  refine ⟨G, S, _, R, q, fun v H1 G1 sv E1 r1 q1 => ?_⟩
  obtain ⟨hk, q1⟩ := q1
  obtain ⟨n, hn⟩ := Option.isSome_iff_exists.mp hk
  exact ⟨v, .ty T.nm, .type n, .type T.nm, _, rfl, .ty _, r1.ty E1.ok hn, kit_ty (isT_kit _ T n hn), kq_tr (d := .bl _) (kq_back E1 k) E1.ok rfl q1⟩
/-! ### truth -/
def D.tru : D → Option Bool
  | .non => some false
  | .bl b => some b
  | .int i => some (i != 0)
  | .str x => some (x.length != 0)
  | .lst xs => some (!xs.isEmpty)
  | .tup xs => some (!xs.isEmpty)
  | .dic kvs => some (!kvs.isEmpty)
  | _ => none
@[simp] def gTru (g : GE) : GT := fun S Q => g S fun sv => ∃ k, sv.d.tru = some k ∧ Q k
theorem isEmpty_len {α β : Type} {xs : List α} {ys : List β} (h : xs.length = ys.length) : xs.isEmpty = ys.isEmpty := by
  cases xs <;> cases ys <;> simp_all
theorem repk_len {F : Hp} : ∀ {ds : List (Key × D)} {vs : List (Key × V)}, repk F ds vs → vs.length = ds.length
  | [], _, r => by rw [show _ = [] from r]; rfl
  | (_, _) :: _, _, ⟨v, r, e, _, z⟩ => by rw [e, List.length_cons, List.length_cons, repk_len z]
theorem vc_tru {e : Expr} {g : GE} (h : VE X EX e g) (he : ∀ whole, isTrue e X.env whole = (do let v ← whole; standAt e.pos; holding [v] (truthy v)) := by intro _; rfl) : VC X EX e (gTru g) := by
  refine ⟨fun G0 H0 tk => ptMono (pt_truth (h.pe G0 H0 tk) he) fun σ H Q ⟨G, S, Qs, R, q, k⟩ => ?_⟩
  refine ⟨G, S, _, R, q, fun v H1 G1 sv E1 r1 q1 => ?_⟩
  obtain ⟨b, hb, q1⟩ := q1
  refine ⟨b, ?_, k b H1 G1 E1 q1⟩
  cases hd : sv.d with
  | non => rw [hd] at hb; cases hb; rw [r1.non hd]; rfl
  | bl b => rw [hd] at hb; cases hb; rw [r1.bl hd]; rfl
  | int b => rw [hd] at hb; cases hb; rw [r1.int hd]; rfl
  | str x =>
    rw [hd] at hb
    cases hb
    rw [(r1.str hd).1]
    refine ⟨(r1.str hd).2.2, ?_⟩
    show (x.length != 0) = ((x.length : Int) != 0)
    cases x.length <;> rfl
  | lst xs =>
    rw [hd] at hb
    cases hb
    obtain ⟨a, vs, rfl, ea, r⟩ := r1.lst E1.ok hd
    exact .inl ⟨vs, .of ea, by rw [isEmpty_len r.length]⟩
  | tup xs =>
    rw [hd] at hb
    cases hb
    obtain ⟨a, vs, rfl, ea, r⟩ := r1.tup E1.ok hd
    exact .inr (.inl ⟨vs, .inl ea, by rw [isEmpty_len r.length]⟩)
  | dic xs =>
    rw [hd] at hb
    cases hb
    obtain ⟨a, vs, rfl, ea, r⟩ := r1.dic E1.ok hd
    exact .inr (.inr ⟨vs, ea, by rw [isEmpty_len (repk_len r)]⟩)
  | dit _ => rw [hd] at hb; cases hb
  | ins _ _ | exn _ _ | fn _ _ => rw [hd] at hb; cases hb
  | opq => rw [hd] at hb; cases hb
/-! ### subscripts -/
def gIxD (x y : D) (Q : SV → Prop) : Prop := match x, y with
  | .lst xs, .int i => ∃ d, atI xs i = some d ∧ Q (.tr d)
  | .tup xs, .int i => ∃ d, atI xs i = some d ∧ Q (.tr d)
  | .str z, .int i => ∃ c, atI z.cps.toList i = some c ∧ Q (.tr (.str ⟨#[c]⟩))
  | _, _ => False
theorem reps_at {F : Hp} {ds : List D} {vs : List V} {i : Int} {d : D} (r : reps F ds vs) (h : atI ds i = some d) : ∃ v, atI vs i = some v ∧ rep F d v := by
  unfold atI at h ⊢
  rw [r.length]
  cases e : ixN ds.length i with
  | none => rw [e] at h; cases h
  | some j =>
    rw [e] at h
    exact r.get h
theorem okS_one {z : Str} {c : Nat} {i : Int} (h : okS z) (k : atI z.cps.toList i = some c) : okS ⟨#[c]⟩ := by
  obtain ⟨h1, h2⟩ := h
  refine ⟨?_, by show 1 ≤ sizeLine; decide⟩
  have hm : c ∈ z.cps.toList := by
    unfold atI at k
    cases e : ixN z.cps.toList.length i with
    | none => rw [e] at k; cases k
    | some j => rw [e] at k; exact List.mem_of_getElem? k
  have hc : c < 0x110000 := by
    have h1 : z.cps.all (· < 0x110000) = true := h1
    rw [Array.all_eq_true_iff_forall_mem] at h1
    have := h1 c (by simpa using hm)
    simpa using this
  show (#[c] : Array Nat).all (· < 0x110000) = true
  simp [hc]
theorem ixr_any : IxR X (fun x y H Q => ∃ r, IxR X r ∧ r x y H Q) := fun a b pins s σ H x y v u Q I rx ry ⟨_, h, q⟩ hs => h a b pins s σ H x y v u Q I rx ry q hs
/-- g tells what x[y] is -/
def IxW (X : Cx) (g : D → D → (SV → Prop) → Prop) : Prop :=
  ∀ (H0 Ha Hb : Hp) (G : Gh) (H : Hp) (x y : V) (sx sy : SV) (Qs : SV → Prop) (Q : VK), OkG G H → RepV H0 Ha G H x sx → RepV H0 Hb G H y sy → g sx.d sy.d Qs → KQ H0 G H Qs Q → ∃ r, IxR X r ∧ r x y H Q
theorem iw_seq : IxW X gIxD := by
  intro H0 Ha Hb G H x y sx sy Qs Q ok r1 r2 q2 kk
  unfold gIxD at q2
  split at q2
  · rename_i xs i hx hy
    obtain ⟨d, hd, q2⟩ := q2
    obtain ⟨a, vs, rfl, ea, r⟩ := r1.lst ok hx
    obtain ⟨w, hw, rw_⟩ := reps_at r hd
    exact ⟨_, ix_list, a, vs, i, w, rfl, r2.int hy, .of ea, hw, kq_tr kk ok rw_ q2⟩
  · rename_i xs i hx hy
    obtain ⟨d, hd, q2⟩ := q2
    obtain ⟨a, vs, rfl, ea, r⟩ := r1.tup ok hx
    obtain ⟨w, hw, rw_⟩ := reps_at r hd
    exact ⟨_, ix_tup, a, vs, i, w, rfl, r2.int hy, .inl ea, hw, kq_tr kk ok rw_ q2⟩
  · rename_i z i hx hy
    obtain ⟨c, hc, q2⟩ := q2
    obtain ⟨rfl, hz⟩ := r1.str hx
    exact ⟨_, ix_str, z, i, c, rfl, r2.int hy, hz.2, hc, kq_tr (d := .str _) kk ok ⟨rfl, okS_one hz hc⟩ q2⟩
  · exact q2.elim
theorem ve_ixW {g : D → D → (SV → Prop) → Prop} (hw : IxW X g) {a b : Expr} {ga gb : GE} {pos : Pos} (ha : VE X EX a ga) (hb : VE X EX b gb) (hs : PlainIx b := by exact fun _ _ => rfl) : VE X EX (.Subscript a b pos) (gOp g ga gb) := by
  refine ⟨fun G0 H0 tk => peMono (pe_ix ixr_any (ha.pe G0 H0 tk) (hb.pe G0 H0 tk) hs) fun σ H Q ⟨G, S, Qs, R, q, k⟩ => ?_⟩
  refine ⟨G, S, _, R, q, fun x H1 G1 sx E1 r1 q1 => ?_⟩
  refine ⟨G1, S, _, R.go E1, q1, fun y H2 G2 sy E2 r2 q2 => ?_⟩
  exact hw H0 _ _ G2 H2 x y sx sy Qs Q E2.ok (r1.ext E2) r2 q2 (kq_back (E1.trans E2) k)
theorem ve_ix {a b : Expr} {ga gb : GE} {pos : Pos} (ha : VE X EX a ga) (hb : VE X EX b gb) (hs : PlainIx b := by exact fun _ _ => rfl) : VE X EX (.Subscript a b pos) (gOp gIxD ga gb) := ve_ixW iw_seq ha hb hs
/-! ### slices -/
abbrev GO := S → (Option Int → Prop) → Prop
def TOV (G0 : Gh) (H0 : Hp) (g : GO) : TO := fun σ H Q => ∃ G S Qs, Rel G0 H0 G H σ S ∧ g S Qs ∧ ∀ b H' G', Ext G H G' H' → Qs b → Q b H'
structure VO (X : Cx) (EX : EXT) (e : Option Expr) (g : GO) : Prop where
  po : ∀ G0 H0, Lk X EX G0 H0 → PO X e (TOV G0 H0 g)
@[simp] def goNone : GO := fun _ Q => Q none
@[simp] def goSome (g : GE) : GO := fun S Q => g S fun sv => ∃ i, sv.d = .int i ∧ Q (some i)
theorem vo_none : VO X EX none goNone := ⟨fun G0 H0 tk => ⟨fun pins s σ H Q I ⟨G, S, Qs, R, q, k⟩ => po_none.run pins s σ H Q I (k none H G (.refl R.ok) q)⟩⟩
theorem vo_some {e : Expr} {g : GE} (h : VE X EX e g) : VO X EX (some e) (goSome g) := ⟨fun G0 H0 tk => ⟨fun pins s σ H Q I ⟨G, S, Qs, R, q, k⟩ => (po_some (h.pe G0 H0 tk)).run pins s σ H Q I
  ⟨G, S, _, R, q, fun v H1 G1 sv E1 r1 ⟨i, hi, q1⟩ => ⟨i, r1.int hi, k _ _ _ E1 q1⟩⟩⟩⟩
/-- the items of xs[lo:hi] -/
def cutD {α : Type} (xs : List α) (lo hi : Option Int) : List α := (xs.drop (HT.sIx xs.length 0 lo)).take (HT.sIx xs.length xs.length hi - HT.sIx xs.length 0 lo)
theorem reps_cut {F : Hp} {ds : List D} {vs : List V} (r : reps F ds vs) (lo hi : Option Int) : reps F (cutD ds lo hi) (cutV vs lo hi) := by
  unfold cutD cutV
  rw [r.length]
  exact (r.drop _).take _
def gSlD (x : D) (lo hi : Option Int) (Q : SV → Prop) : Prop := match x with
  | .lst xs => Q (.own (.lst (cutD xs lo hi)))
  | .tup xs => Q (.tr (.tup (cutD xs lo hi)))
  | .str z => Q (.tr (.str (cutS z lo hi)))
  | _ => False
@[simp] def gSl (g : GE) (gl gh : GO) : GE := fun S Q => g S fun x => gl S fun lo => gh S fun hi => gSlD x.d lo hi Q
theorem okS_cut {z : Str} (h : okS z) (lo hi : Option Int) : okS (cutS z lo hi) := by
  obtain ⟨h1, h2⟩ := h
  refine ⟨?_, Nat.le_trans (cutS_length z lo hi) h2⟩
  have h1 : z.cps.all (· < 0x110000) = true := h1
  show (cutS z lo hi).cps.all (· < 0x110000) = true
  rw [Array.all_eq_true_iff_forall_mem] at h1 ⊢
  intro c hc
  refine h1 c ?_
  have hc : c ∈ ((z.cps.toList.drop (HT.sIx z.length 0 lo)).take (HT.sIx z.length z.length hi - HT.sIx z.length 0 lo)).toArray := hc
  rw [List.mem_toArray] at hc
  simpa using List.mem_of_mem_drop (List.mem_of_mem_take hc)
theorem slr_any : SlR X (fun x lo hi H Q => ∃ r, SlR X r ∧ r x lo hi H Q) := fun pins s σ H x v vl vu lo hi sl Q I rx hs pl pu ⟨_, h, q⟩ => h pins s σ H x v vl vu lo hi sl Q I rx hs pl pu q
theorem map_cut {α β : Type} (f : α → β) (xs : List α) (lo hi : Option Int) : (cutD xs lo hi).map f = cutD (xs.map f) lo hi := by
  unfold cutD
  rw [List.map_take, List.map_drop, List.length_map]
theorem cut_eq (xs : List V) (lo hi : Option Int) : cutV xs lo hi = cutD xs lo hi := rfl
theorem sIx_whole {n : Nat} {lo hi : Option Int} {α : Type} {xs : List α} (hn : xs.length = n) (h : HT.sIx n 0 lo = 0 ∧ HT.sIx n n hi = n) : cutD xs lo hi = xs := by
  unfold cutD
  rw [hn, h.1, h.2, List.drop_zero, Nat.sub_zero, List.take_of_length_le (by omega)]
theorem ve_slice {e : Expr} {g : GE} {lo hi : Option Expr} {gl gh : GO} {pos p2 : Pos} (he : VE X EX e g) (hl : VO X EX lo gl) (hh : VO X EX hi gh) : VE X EX (.Subscript e (.Slice lo hi none p2) pos) (gSl g gl gh) := by
  refine ⟨fun G0 H0 tk => peMono (pe_slice slr_any (he.pe G0 H0 tk) (hl.po G0 H0 tk) (hh.po G0 H0 tk)) fun σ H Q ⟨G, S, Qs, R, q, k⟩ => ?_⟩
  refine ⟨G, S, _, R, q, fun v H1 G1 sx E1 r1 q1 => ?_⟩
  refine ⟨G1, S, _, R.go E1, q1, fun l H2 G2 E2 q2 => ?_⟩
  refine ⟨G2, S, _, (R.go E1).go E2, q2, fun u H3 G3 E3 q3 => ?_⟩
  have kk := kq_back ((E1.trans E2).trans E3) k
  have r1 := (r1.ext E2).ext E3
  have ok := E3.ok
  unfold gSlD at q3
  split at q3
  · rename_i xs hx
    obtain ⟨a, vs, rfl, ea, r⟩ := r1.lst ok hx
    exact ⟨_, sl_list, a, vs, rfl, .of ea, fun p hp => kq_lst kk ok hp (reps_cut r l u) q3⟩
  · rename_i xs hx
    have t := r1.tree hx (fun _ _ _ z => z) (fun z => nomatch z)
    obtain ⟨a, vs, rfl, ea, r⟩ := r1.tup ok hx
    refine ⟨_, sl_tupA, a, vs, rfl, .inl ea, fun w => ?_, fun _ p hp => kq_tup kk ok hp (reps_cut r l u) q3⟩
    rw [r.length] at w
    rw [sIx_whole rfl w] at q3
    exact kq_tr kk ok t q3
  · rename_i z hx
    obtain ⟨rfl, hz⟩ := r1.str hx
    exact ⟨_, sl_str, z, rfl, hz.2, kq_tr (d := .str _) kk ok ⟨rfl, okS_cut hz l u⟩ q3⟩
  · exact q3.elim
end
end VT

namespace VT
open PySem PySem.Spec PyProof.Rows L2

/-! ### times -/
/-- a text as often -/
def gMul : D → D → (SV → Prop) → Prop
  | .int i, .int j, Q => CMulW i j ∧ Q (.tr (.int (i * j)))
  | .lst xs, .int k, Q => (0 ≤ k ∧ k < 2 ^ 40 ∧ xs.length * k.toNat ≤ sizeLine) ∧ Q (.own (.lst (List.replicate k.toNat xs).flatten))
  | .str x, .int k, Q => (0 ≤ k ∧ k ≤ 1000 ∧ x.length ≤ 1000) ∧ Q (.tr (.str (Txt.mul x k)))
  | _, _, _ => False
theorem reps_rep {F : Hp} {ds : List D} {vs : List V} (r : reps F ds vs) : ∀ n : Nat, reps F (List.replicate n ds).flatten (List.replicate n vs).flatten
  | 0 => rfl
  | n + 1 => by
    rw [List.replicate_succ, List.replicate_succ, List.flatten_cons, List.flatten_cons]
    exact r.append (reps_rep r n)
theorem arr_rep_all (p : Nat → Bool) (a : Array Nat) (h : a.all p = true) : ∀ (n : Nat) (b : Array Nat), b.all p = true → ((List.replicate n a).foldl (· ++ ·) b).all p = true
  | 0, b, k => k
  | n + 1, b, k => by
    rw [List.replicate_succ, List.foldl_cons]
    exact arr_rep_all p a h n (b ++ a) (by rw [Array.all_append, k, h]; rfl)
theorem arr_rep_size (a : Array Nat) : ∀ (n : Nat) (b : Array Nat), ((List.replicate n a).foldl (· ++ ·) b).size = b.size + n * a.size
  | 0, b => by simp
  | n + 1, b => by
    rw [List.replicate_succ, List.foldl_cons, arr_rep_size a n, Array.size_append, Nat.succ_mul]
    omega
theorem okS_mul {x : Str} {k : Int} (h : okS x) (h0 : 0 ≤ k) (h1 : k ≤ 1000) (h2 : x.length ≤ 1000) : okS (Txt.mul x k) := by
  unfold Txt.mul
  split
  · exact ⟨by decide +kernel, by decide +kernel⟩
  · split
    · exact h
    · refine ⟨arr_rep_all _ _ h.1 _ _ (by simp), ?_⟩
      show ((List.replicate k.toNat x.cps).foldl (· ++ ·) #[]).size ≤ sizeLine
      rw [arr_rep_size]
      have h2 : x.cps.size ≤ 1000 := h2
      have h3 : k.toNat ≤ 1000 := by omega
      have h4 := Nat.mul_le_mul h3 h2
      have h5 := sizeLine_eq
      show (#[] : Array Nat).size + _ ≤ _
      simp only [List.size_toArray, List.length_nil]
      omega
theorem mulOk {x : Str} {k : Int} (h0 : 0 ≤ k) (h1 : k ≤ 1000) (h2 : x.length ≤ 1000) : PySem.MulOk x k := by
  refine ⟨?_, fun hk _ => ?_, fun hk _ => ?_⟩
  · rw [decide_eq_false (by omega), decide_eq_false (by omega)]
    rfl
  · have e : (9223372036854775 : Int) ≤ (2 ^ 63 - 1) / k := by
      refine Int.le_ediv_of_mul_le (by omega) ?_
      omega
    omega
  · have h3 : k.toNat ≤ 1000 := by omega
    have h4 := Nat.mul_le_mul h2 h3
    have h5 := sizeLine_eq
    exact decide_eq_false (by omega)
section
variable {X : Cx} {EX : EXT}
theorem op_mulS : OpR X (binaryOp .Mult) (fun x y H Q => ∃ z k, x = .str z ∧ y = .int k ∧ PySem.MulOk z k ∧ Q (.str (Txt.mul z k)) H) := by
  intro pins s σ H x y v u Q I rx ry h
  obtain ⟨z, k, rfl, rfl, hk, q⟩ := h
  obtain ⟨t, rfl⟩ := rx
  obtain ⟨t', rfl⟩ := ry
  exact PySem.SB.mul hk fun t'' tk => ⟨.str _, H, I.tok tk, ⟨t'', rfl⟩, q⟩
theorem ow_mul : OpW X (binaryOp .Mult) gMul := by
  intro H0 Ha Hb G H x y sx sy Qs Q ok rx ry q k
  unfold gMul at q
  split at q
  · rename_i i j hx hy
    cases rx.int hx
    cases ry.int hy
    exact ⟨_, op_mulW, i, j, rfl, rfl, q.1, kq_tr (d := .int _) k ok rfl q.2⟩
  · rename_i xs j hx hy
    obtain ⟨a, vs, rfl, ea, r⟩ := rx.lst ok hx
    cases ry.int hy
    exact ⟨_, op_rep, a, j, vs, rfl, rfl, ea, by omega, by have := q.1.2.1; omega, by rw [r.length]; exact q.1.2.2, fun p hp => kq_lst k ok hp (reps_rep r _) q.2⟩
  · rename_i z j hx hy
    obtain ⟨rfl, hz⟩ := rx.str hx
    cases ry.int hy
    exact ⟨_, op_mulS, z, j, rfl, rfl, mulOk q.1.1 q.1.2.1 q.1.2.2, kq_tr (d := .str _) k ok ⟨rfl, okS_mul hz q.1.1 q.1.2.1 q.1.2.2⟩ q.2⟩
  · exact q.elim
/-! ### methods of texts -/
def MtW (X : Cx) (id : String) (g : D → List D → (SV → Prop) → Prop) : Prop :=
  ∀ (H0 Ha Hs : Hp) (G : Gh) (H : Hp) (x : V) (sx : SV) (vs : List V) (svs : List SV) (Qs : SV → Prop) (Q : VK), OkG G H → RepV H0 Ha G H x sx → RepL H0 Hs G H vs svs → g sx.d (svs.map SV.d) Qs → KQ H0 G H Qs Q → ∃ r, MtR X id r ∧ r x vs H Q
def tyD (T : String) : D → Prop
  | .str _ => T = "str"
  | .lst _ => T = "list"
  | _ => False
theorem RepV.tyV {H0 Hs H : Hp} {G : Gh} {v : V} {sv : SV} {K : PySem.W.Frag} {T : String} (r : RepV H0 Hs G H v sv) (ok : OkG G H) (e : tyD T sv.d) : L2.tyV K T v H := by
  cases hd : sv.d <;> rw [hd] at e <;> first | exact e.elim | skip
  · rw [(r.str hd).1]; exact e
  · obtain ⟨a, vs, rfl, ea, _⟩ := r.lst ok hd; exact .inl ⟨e, vs, .of ea⟩
theorem mtr_any {id : String} : MtR X id (fun x vs H Q => ∃ r, MtR X id r ∧ r x vs H Q) := fun pins s σ H x xs v us Q I rx rs ⟨_, h, q⟩ => h pins s σ H x xs v us Q I rx rs q
@[simp] def gBM (T : String) (g : D → List D → (SV → Prop) → Prop) (go : GE) (ga : GA) : GE := fun S Q => go S fun sx => tyD T sx.d ∧ ga S fun svs => g sx.d (svs.map SV.d) Q
variable {o e : Expr} {es : List Expr} {go : GE} {ga : GA} {name : Str} {apos cpos : Pos} {T id : String} {g : D → List D → (SV → Prop) → Prop}
theorem ve_bm (pa : PlainAttrs T) (slot : Slot T name id) (hty : typeOf (.builtin id) = pure (.type "method_descriptor")) (hm : MtW X id g) (ho : VE X EX o go) (ha : VA X EX (e :: es) ga)
    (hbase : attributeBase o name X.env (eval o X.env) = eval o X.env := by rfl)
    (hfew : ((backTo cpos (starEach (e :: es) X.env)).all (fun x => !x.1) && (backToKw cpos (keywordEach [] X.env)).all (fun x => x.1.isSome)
      && decide ((e :: es).length + ([] : List Keyword).length + (if ([] : List Keyword).isEmpty then 0 else 1) < 30)) = true := by rfl)
    (hline : (apos.endLine == cpos.line) = true := by rfl) (hs : starEach (e :: es) X.env = (false, eval e X.env) :: starEach es X.env := by rfl) (hplain : (backTo cpos (starEach es X.env)).any (·.1) = false := by rfl) :
    VE X EX (.Call (.Attribute o name apos) (e :: es) [] cpos) (gBM T g go ga) := by
  refine ⟨fun G0 H0 tk => peMono (pe_bm pa slot hty mtr_any (ho.pe G0 H0 tk) (ha.pa G0 H0 tk) hbase hfew hline hs hplain) fun σ H Q ⟨G, S, Qs, R, q, k⟩ => ?_⟩
  refine ⟨G, S, _, R, q, fun v H1 G1 sx E1 r1 q1 => ⟨r1.tyV E1.ok q1.1, ?_⟩⟩
  refine ⟨G1, S, _, R.go E1, q1.2, fun vs H2 G2 svs E2 r2 q2 => ?_⟩
  exact hm H0 _ _ G2 H2 v sx vs svs Qs Q E2.ok (r1.ext E2) r2 q2 (kq_back (E1.trans E2) k)
theorem ve_bm0 (pa : PlainAttrs T) (slot : Slot T name id) (hty : typeOf (.builtin id) = pure (.type "method_descriptor")) (hm : MtW X id g) (ho : VE X EX o go)
    (hbase : attributeBase o name X.env (eval o X.env) = eval o X.env := by rfl) (hline : (apos.endLine == cpos.line) = true := by rfl) : VE X EX (.Call (.Attribute o name apos) [] [] cpos) (gBM T g go gaNil) := by
  refine ⟨fun G0 H0 tk => peMono (pe_bm0 pa slot hty mtr_any (ho.pe G0 H0 tk) hbase hline) fun σ H Q ⟨G, S, Qs, R, q, k⟩ => ?_⟩
  refine ⟨G, S, _, R, q, fun v H1 G1 sx E1 r1 q1 => ⟨r1.tyV E1.ok q1.1, ?_⟩⟩
  exact hm H0 _ H _ _ v sx [] [] Qs Q E1.ok r1 .nil q1.2 (kq_back E1 k)
/-- sep.join(xs) -/
def gJoin : D → List D → (SV → Prop) → Prop
  | .str z, [.lst xs], Q => ∃ ys, strsD xs = some ys ∧ (ys.map (·.length)).sum + ys.length * z.length ≤ 16777216 ∧ okS (Txt.join z ys) ∧ Q (.tr (.str (Txt.join z ys)))
  | .str z, [.tup xs], Q => ∃ ys, strsD xs = some ys ∧ (ys.map (·.length)).sum + ys.length * z.length ≤ 16777216 ∧ okS (Txt.join z ys) ∧ Q (.tr (.str (Txt.join z ys)))
  | _, _, _ => False
theorem mw_join : MtW X "str.join" gJoin := by
  intro H0 Ha Hs G H x sx vs svs Qs Q ok rx r q k
  unfold gJoin at q
  split at q
  · rename_i z xs hx h
    obtain ⟨ys, e1, hz, ho, q⟩ := q
    obtain ⟨v, sv, rfl, rfl, e, rv⟩ := repl1 r h
    obtain ⟨rfl, _⟩ := rx.str hx
    obtain ⟨a, ws, rfl, ea, rw_⟩ := rv.lst ok e
    rw [strsD_eq e1] at rw_
    rw [rw_.map_str.1] at ea
    exact ⟨_, mt_join, z, a, ys, rfl, rfl, .inl (.of ea), hz, kq_tr (d := .str _) k ok ⟨rfl, ho⟩ q⟩
  · rename_i z xs hx h
    obtain ⟨ys, e1, hz, ho, q⟩ := q
    obtain ⟨v, sv, rfl, rfl, e, rv⟩ := repl1 r h
    obtain ⟨rfl, _⟩ := rx.str hx
    obtain ⟨a, ws, rfl, ea, rw_⟩ := rv.tup ok e
    rw [strsD_eq e1] at rw_
    rw [rw_.map_str.1] at ea
    exact ⟨_, mt_join, z, a, ys, rfl, rfl, .inr (.inl ea), hz, kq_tr (d := .str _) k ok ⟨rfl, ho⟩ q⟩
  · exact q.elim
end
end VT

namespace VT
open PySem PySem.Spec PyProof.Rows L2

/-! ### slots set -/
theorem set_slot {α : Type} {l : List α} {i j : Nat} {a b : α} (h : (l.set i a)[j]? = some b) : (i = j ∧ b = a ∧ i < l.length) ∨ (i ≠ j ∧ l[j]? = some b) := by
  by_cases e : i = j
  · subst e
    by_cases hl : i < l.length
    · rw [List.getElem?_set_self hl] at h
      exact .inl ⟨rfl, (Option.some.inj h).symm, hl⟩
    · rw [List.getElem?_eq_none (by simpa using hl)] at h
      cases h
  · rw [List.getElem?_set_ne e] at h
    exact .inr ⟨e, h⟩
/-- a value goes to a slot: it is new, or no object of the frame's own -/
theorem Rel.set {G0 G : Gh} {H0 H Hs : Hp} {σ : L2.St} {S : S} {v : V} {sv : SV} (R : Rel G0 H0 G H σ S) (i : Nat) (r : RepV H0 Hs G H v sv) (hok : sv.ok)
    (h0 : ∀ b, Hs b = none → H0 b = none) (hd : ∀ (j : Nat) (sw : SV) (w : V) (b : Addr), j ≠ i → S[j]? = some (some sw) → σ[j]? = some (some w) → Owns H v sv b → ¬ Owns H w sw b) :
    Rel G0 H0 G H (σ.set i (some v)) (S.set i (some sv)) where
  ext := R.ext
  len := by rw [List.length_set, List.length_set, R.len]
  slot := fun j w e => by
    rcases set_slot e with ⟨rfl, e, hl⟩ | ⟨hne, e⟩
    · cases e
      exact ⟨v, by rw [List.getElem?_set_self (by rw [← R.len]; exact hl)], r.back h0⟩
    · obtain ⟨u, e1, r1⟩ := R.slot j w e
      exact ⟨u, by rw [List.getElem?_set_ne hne]; exact e1, r1⟩
  sep := fun j l sj sl u w b hjl e1 e2 e3 e4 o1 o2 => by
    rcases set_slot e1 with ⟨rfl, e1, hl⟩ | ⟨hne, e1⟩
    · rcases set_slot e2 with ⟨rfl, e2, _⟩ | ⟨hne2, e2⟩
      · exact hjl rfl
      · rw [List.getElem?_set_self (by rw [← R.len]; exact hl)] at e3
        rw [List.getElem?_set_ne hne2] at e4
        cases e1
        cases e3
        exact hd l sl w b (Ne.symm hne2) e2 e4 o1 o2
    · rw [List.getElem?_set_ne hne] at e3
      rcases set_slot e2 with ⟨rfl, e2, hl⟩ | ⟨hne2, e2⟩
      · rw [List.getElem?_set_self (by rw [← R.len]; exact hl)] at e4
        cases e2
        cases e4
        exact hd j sj u b (Ne.symm hne) e1 e3 o2 o1
      · rw [List.getElem?_set_ne hne2] at e4
        exact R.sep j l sj sl u w b hjl e1 e2 e3 e4 o1 o2
  nopk := fun j w e => by
    rcases set_slot e with ⟨rfl, e, hl⟩ | ⟨hne, e⟩
    · cases e; exact hok
    · exact R.nopk j w e
/-- .. behind an expression that began at H -/
theorem Rel.setE {G0 G G' : Gh} {H0 H H' : Hp} {σ : L2.St} {S : S} {v : V} {sv : SV} (R : Rel G0 H0 G H σ S) (E : Ext G H G' H') (i : Nat) (r : RepV H0 H G' H' v sv) (hok : sv.ok) : Rel G0 H0 G' H' (σ.set i (some v)) (S.set i (some sv)) := by
  refine (R.go E).set i r hok (fun b z => R.ext.dom z) fun j sw w b _ e1 e2 o1 o2 => ?_
  obtain ⟨w', e3, r3⟩ := R.slot j sw e1
  rw [e2] at e3
  cases e3
  have o3 : Owns H w sw b := o2.at r3 fun b o => (E.mine (r3.owns o).1 (r3.owns o).2).2
  exact (r3.owns o3).2.ne (r.owns o1).1.1
/-- a slot is forgotten -/
theorem Rel.forget {G0 G : Gh} {H0 H : Hp} {σ : L2.St} {S : S} (R : Rel G0 H0 G H σ S) (i : Nat) : Rel G0 H0 G H (σ.set i none) (S.set i none) where
  ext := R.ext
  len := by rw [List.length_set, List.length_set, R.len]
  slot := fun j w e => by
    rcases set_slot e with ⟨rfl, e, hl⟩ | ⟨hne, e⟩
    · cases e
    · obtain ⟨u, e1, r1⟩ := R.slot j w e
      exact ⟨u, by rw [List.getElem?_set_ne hne]; exact e1, r1⟩
  sep := fun j l sj sl u w b hjl e1 e2 e3 e4 o1 o2 => by
    rcases set_slot e1 with ⟨rfl, e1, hl⟩ | ⟨hne, e1⟩
    · cases e1
    · rcases set_slot e2 with ⟨rfl, e2, hl⟩ | ⟨hne2, e2⟩
      · cases e2
      · rw [List.getElem?_set_ne hne] at e3
        rw [List.getElem?_set_ne hne2] at e4
        exact R.sep j l sj sl u w b hjl e1 e2 e3 e4 o1 o2
  nopk := fun j d e => by
    rcases set_slot e with ⟨rfl, e, hl⟩ | ⟨hne, e⟩
    · cases e
    · exact R.nopk j d e
@[simp] def wipeS (S : S) : List Nat → VT.S
  | [] => S
  | v :: vs => (wipeS S vs).set v none
theorem Rel.wipe {G0 G : Gh} {H0 H : Hp} {σ : L2.St} {S : S} (R : Rel G0 H0 G H σ S) : ∀ vs : List Nat, Rel G0 H0 G H (wipe σ vs) (wipeS S vs)
  | [] => R
  | v :: vs => (R.wipe vs).forget v

/-! ### targets of trees -/
/-- the slots at is alone were set -/
def Off (is : List Nat) (σ σ' : L2.St) : Prop := σ'.length = σ.length ∧ ∀ j, j ∉ is → σ'[j]? = σ[j]?
theorem Off.refl {is : List Nat} {σ : L2.St} : Off is σ σ := ⟨rfl, fun _ _ => rfl⟩
theorem Off.trans {is : List Nat} {σ σ1 σ2 : L2.St} (a : Off is σ σ1) (b : Off is σ1 σ2) : Off is σ σ2 := ⟨b.1.trans a.1, fun j h => (b.2 j h).trans (a.2 j h)⟩
theorem Off.mono {is js : List Nat} {σ σ1 : L2.St} (a : Off is σ σ1) (h : ∀ i ∈ is, i ∈ js) : Off js σ σ1 := ⟨a.1, fun j hj => a.2 j fun z => hj (h j z)⟩
theorem Off.set {i : Nat} {x : Option V} {σ : L2.St} : Off [i] σ (σ.set i x) := ⟨List.length_set, fun j h => List.getElem?_set_ne (fun e => h (by simp [e]))⟩
theorem wipe_get : ∀ (vs : List Nat) (σ : L2.St) (j : Nat), (wipe σ vs)[j]? = if j ∈ vs ∧ j < σ.length then some none else σ[j]?
  | [], σ, j => by simp [wipe]
  | v :: vs, σ, j => by
    rw [wipe]
    by_cases e : v = j
    · subst e
      by_cases hl : v < σ.length
      · rw [List.getElem?_set_self (by rw [wipe_length]; exact hl), if_pos ⟨by simp, hl⟩]
      · rw [List.getElem?_eq_none (by rw [List.length_set, wipe_length]; omega), if_neg (fun z => hl z.2), List.getElem?_eq_none (by omega)]
    · rw [List.getElem?_set_ne e, wipe_get vs σ j]
      have h1 : (j ∈ v :: vs ∧ j < σ.length) ↔ (j ∈ vs ∧ j < σ.length) := by
        rw [List.mem_cons]
        constructor
        · rintro ⟨z | z, k⟩
          · exact (e z.symm).elim
          · exact ⟨z, k⟩
        · exact fun z => ⟨.inr z.1, z.2⟩
      simp only [h1]
theorem Off.wiped {vs : List Nat} {σ σ' : L2.St} (o : Off vs (L2.wipe σ vs) σ') : L2.wipe σ' vs = L2.wipe σ vs := by
  refine List.ext_getElem? fun j => ?_
  have hl : σ'.length = σ.length := o.1.trans (wipe_length σ vs)
  rw [wipe_get, wipe_get, hl]
  by_cases h : j ∈ vs ∧ j < σ.length
  · rw [if_pos h, if_pos h]
  · rw [if_neg h, if_neg h]
    by_cases hj : j ∈ vs
    · have h2 : σ.length ≤ j := by
        have : ¬ j < σ.length := fun z => h ⟨hj, z⟩
        omega
      rw [List.getElem?_eq_none (by omega), List.getElem?_eq_none h2]
    · rw [o.2 j hj, wipe_get, if_neg (fun z => hj z.1)]
abbrev GG := D → S → (S → Prop) → Prop
def TGV (G0 : Gh) (H0 : Hp) (is : List Nat) (g : GG) : TG := fun v σ H Q => ∃ G S d Qs, Rel G0 H0 G H σ S ∧ rep G.F d v ∧ g d S Qs ∧ ∀ σ' S', Rel G0 H0 G H σ' S' → Off is σ σ' → Qs S' → Q σ' H
structure VG (X : Cx) (tg : Expr) (is : List Nat) (g : GG) : Prop where
  pg : ∀ G0 H0, PG X tg (TGV G0 H0 is g)
theorem pgMono {X : Cx} {tg : Expr} {t t' : TG} (h : PG X tg t) (k : ∀ v σ H Q, t' v σ H Q → t v σ H Q) : PG X tg t' := ⟨fun pins s σ H v u Q I r q => h.run pins s σ H v u Q I r (k v σ H Q q)⟩
@[simp] def ggName (i : Nat) : GG := fun d S Q => Q (S.set i (some (.tr d)))
/-- a row of names -/
@[simp] def ggAll : List Nat → List D → S → S
  | i :: is, d :: ds, S => ggAll is ds (S.set i (some (.tr d)))
  | _, _, S => S
@[simp] def ggTup (is : List Nat) : GG := fun d S Q => ∃ ds, d = .tup ds ∧ ds.length = is.length ∧ Q (ggAll is ds S)
section
variable {X : Cx} {EX : EXT} {pos : Pos}
theorem vg_name {i : Nat} {x : Str} (hN : X.N.Nodup) (hi : X.N[i]? = some x) (hx : Loc X.env.scope x) (hf : X.fn x = true ∨ X.env.scope.names.lookup x = some .local := by first | exact .inl rfl | exact .inr rfl | assumption) : VG X (.Name x pos) [i] (ggName i) :=
  ⟨fun G0 H0 => pgMono (pg_name hN hi hx hf) fun v σ H Q ⟨G, S, d, Qs, R, r, q, k⟩ => k _ _ (R.set (Hs := H0) i (sv := .tr d) r trivial (fun _ z => z) fun _ _ _ _ _ _ _ o => o.elim) Off.set q⟩
/-- several names -/
structure VGs (X : Cx) (ts : List Expr) (is : List Nat) : Prop where
  pgs : ∀ G0 H0, PGs X ts (fun vs σ H Q => ∃ G S ds, Rel G0 H0 G H σ S ∧ reps G.F ds vs ∧ ds.length = is.length ∧ ∀ σ' S', Rel G0 H0 G H σ' S' → Off is σ σ' → S' = ggAll is ds S → Q σ' H)
theorem pgsMono {ts : List Expr} {t t' : TGs} (h : PGs X ts t) (k : ∀ v σ H Q, t' v σ H Q → t v σ H Q) : PGs X ts t' := ⟨fun pins s σ H v u Q I r q => h.run pins s σ H v u Q I r (k v σ H Q q)⟩
theorem vgs_nil : VGs X [] [] := ⟨fun G0 H0 => pgsMono pgs_nil fun vs σ H Q ⟨G, S, ds, R, r, hl, k⟩ => by
  have e : ds = [] := List.eq_nil_of_length_eq_zero hl
  subst e
  exact ⟨r, k σ S R Off.refl rfl⟩⟩
theorem vgs_cons {i : Nat} {is : List Nat} {x : Str} {es : List Expr} {p : Pos} (hN : X.N.Nodup) (hi : X.N[i]? = some x) (hx : Loc X.env.scope x) (h2 : VGs X es is) (hf : X.fn x = true ∨ X.env.scope.names.lookup x = some .local := by first | exact .inl rfl | exact .inr rfl | assumption)
    (hs : (assignEach (.Name x p :: es) X.env).map (·.2) = assign (.Name x p) X.env :: (assignEach es X.env).map (·.2) := by rfl) : VGs X (.Name x p :: es) (i :: is) :=
  ⟨fun G0 H0 => pgsMono (pgs_cons (pg_name hN hi hx hf) (h2.pgs G0 H0) hs) fun vs σ H Q ⟨G, S, ds, R, r, hl, k⟩ => by
    cases ds with
    | nil => cases hl
    | cons d ds =>
      obtain ⟨v, t, rfl, rv, rt⟩ := r
      refine ⟨v, t, rfl, G, _, ds, R.set (Hs := H0) i (sv := .tr d) rv trivial (fun _ z => z) (fun _ _ _ _ _ _ _ o => o.elim), rt, by simpa using hl, fun σ' S' R' o e => k σ' S' R' ?_ e⟩
      exact (Off.set.mono (by simp)).trans (o.mono (by simp; exact fun _ h => .inr h))⟩
theorem vg_tup {es : List Expr} {kk : Nat} {is : List Nat} (hc : X.calm = true) (h : VGs X es is) (hn : (assignEach es X.env).length = is.length := by rfl) (hst : (assignEach es X.env).findIdx? (·.1) = none := by rfl) : VG X (.Tuple es kk pos) is (ggTup is) :=
  ⟨fun G0 H0 => pgMono (pg_tup hc (h.pgs G0 H0) hn hst) fun v σ H Q ⟨G, S, d, Qs, R, r, ⟨ds, e, hl, q⟩, k⟩ => by
    subst e
    obtain ⟨a, vs, rfl, ea, rs⟩ := r
    exact ⟨a, vs, rfl, .inl (rdUp R.ok.sub ea), by rw [rs.length, hl], G, S, ds, R, rs, hl, fun σ' S' R' o e => k σ' S' R' o (by rw [e]; exact q)⟩⟩
end

/-! ### what is walked -/
abbrev GI := S → (List D → Prop) → Prop
/-- all is as it was: by a comprehension; by a loop's body -/
def Later (c : Bool) (G0 : Gh) (H0 : Hp) (G : Gh) (H : Hp) (G2 : Gh) (H2 : Hp) : Prop := if c = true then Ext G H G2 H2 else Ext G0 H0 G2 H2 ∧ ∀ b o, G.F b = some o → G2.F b = some o
theorem Later.ok {c : Bool} {G0 G G2 : Gh} {H0 H H2 : Hp} (l : Later c G0 H0 G H G2 H2) : OkG G2 H2 := by
  cases c with
  | true => exact Ext.ok l
  | false => exact l.1.ok
theorem Later.frz {c : Bool} {G0 G G2 : Gh} {H0 H H2 : Hp} (l : Later c G0 H0 G H G2 H2) : ∀ b o, G.F b = some o → G2.F b = some o := by
  cases c with
  | true => exact Ext.frz l
  | false => exact l.2
/-- the iterator J yields ds -/
def Yields (c : Bool) (G0 : Gh) (H0 : Hp) (G : Gh) (H : Hp) (J : It) (ds : List D) : Prop := ∀ G2 H2, Later c G0 H0 G H G2 H2 → (∀ i, ds.length ≤ i → J.stop i H2) ∧
  ∀ i d, ds[i]? = some d → J.go i H2 ∧ ∀ x H3, J.yld i H2 x H3 → ∃ G3, Ext G2 H2 G3 H3 ∧ rep G3.F d x
def TIV (c : Bool) (G0 : Gh) (H0 : Hp) (gi : GI) : TI := fun σ H R => ∃ G S Qs, Rel G0 H0 G H σ S ∧ gi S Qs ∧ ∀ J H' G' ds, Ext G H G' H' → Yields c G0 H0 G' H' J ds → Qs ds → R J H'
structure VI (c : Bool) (X : Cx) (EX : EXT) (tg iter : Expr) (gi : GI) : Prop where
  pi : ∀ G0 H0, Lk X EX G0 H0 → PI X tg iter (TIV c G0 H0 gi)
theorem piMono {X : Cx} {tg it : Expr} {t t' : TI} (h : PI X tg it t) (k : ∀ σ H Q, t' σ H Q → t σ H Q) : PI X tg it t' := ⟨fun pins s σ H R I q => h.run pins s σ H R I (k σ H R q)⟩
theorem piOf {X : Cx} {tg it : Expr} {t : TI} (h : ∀ σ H Q, t σ H Q → ∃ t', PI X tg it t' ∧ t' σ H Q) : PI X tg it t := ⟨fun pins s σ H R I q => let ⟨_, p, z⟩ := h σ H R q; p.run pins s σ H R I z⟩
/-- a held list stays through what comes later -/
def SV.stays (c : Bool) : SV → Prop
  | .tr _ => True
  | .brw _ => True
  | .pk _ => c = true
  | .own _ => c = true
  | .tz _ => True
  | _ => False
theorem RepV.later {c : Bool} {G0 G G2 : Gh} {H0 Hs H H2 : Hp} {v : V} {sv : SV} {ds : List D} (E0 : Ext G0 H0 G H) (r : RepV H0 Hs G H v sv) (hs : sv.stays c) (e : sv.d = .lst ds) (l : Later c G0 H0 G H G2 H2) :
    ∃ a vs, v = .ref a ∧ H2 a = some (.lst vs) ∧ reps G2.F ds vs ∧ H a = some (.lst vs) := by
  cases sv with
  | tr d =>
    cases e
    obtain ⟨a, vs, rfl, ea, r⟩ := r
    exact ⟨a, vs, rfl, l.ok.sub _ _ (l.frz _ _ ea), reps.mono l.frz _ _ r, E0.ok.sub _ _ ea⟩
  | own d =>
    cases e
    have hc : c = true := hs
    subst hc
    obtain ⟨a, rfl, _, _, nb, vs, ea, r⟩ := r
    exact ⟨a, vs, rfl, Ext.same l _ _ ea nb nofun, reps.mono l.frz _ _ r, ea⟩
  | pk d =>
    cases e
    have hc : c = true := hs
    subst hc
    obtain ⟨a, rfl, nb, vs, ea, r⟩ := r
    exact ⟨a, vs, rfl, Ext.same l _ _ ea nb nofun, reps.mono l.frz _ _ r, ea⟩
  | brw d =>
    cases e
    obtain ⟨a, rfl, h0, nb, vs, ea, r⟩ := r
    cases c with
    | true => exact ⟨a, vs, rfl, Ext.same l _ _ ea nb nofun, reps.mono l.frz _ _ r, ea⟩
    | false =>
      have nb0 : G0.pb ≠ some a := fun z => nb (E0.pb a z)
      obtain ⟨o, ho⟩ := Option.ne_none_iff_exists'.mp h0
      have nt : ∀ ps, o ≠ .tbl ps := fun ps z => by
        obtain ⟨ps', q⟩ := E0.tbl a ps (by rw [← z]; exact ho)
        rw [ea] at q
        cases q
      have e1 := E0.same a o ho nb0 nt
      rw [ea] at e1
      cases e1
      exact ⟨a, vs, rfl, l.1.same _ _ ho nb0 nofun, reps.mono l.frz _ _ r, ea⟩
  | bag | obj _ _ _ | pob _ _ | bob _ _ | exc _ _ _ _ | fn _ => exact hs.elim
  | tz _ => cases e
/-- the items of a list, a tuple, a text -/
def D.items : D → Option (List D)
  | .lst ds => some ds
  | .tup ds => some ds
  | .str z => some (z.cps.toList.map fun c => .str ⟨#[c]⟩)
  | _ => none
@[simp] def giSeq (c : Bool) (g : GE) : GI := fun S Q => g S fun sv => ((∃ ds, sv.d = .lst ds) → sv.stays c) ∧ ∃ ds, sv.d.items = some ds ∧ Q ds
/-- range(n), range(a, b) -/
def rngD (lo : Int) (n : Nat) : List D := (List.range n).map fun i => D.int (lo + (i : Nat))
@[simp] def giR1 (ga : GA) : GI := fun S Q => ga S fun svs => ∃ n : Int, svs.map SV.d = [.int n] ∧ (-(2 ^ 62) ≤ n ∧ n < 2 ^ 62) ∧ Q (rngD 0 n.toNat)
@[simp] def giR2 (ga : GA) : GI := fun S Q => ga S fun svs => ∃ m n : Int, svs.map SV.d = [.int m, .int n] ∧ (-(2 ^ 62) ≤ m ∧ m < 2 ^ 62 ∧ -(2 ^ 62) ≤ n ∧ n < 2 ^ 62) ∧ Q (rngD m (n - m).toNat)
/-- enumerate(xs), zip(xs, ys) -/
def enumD (ds : List D) : List D := (List.range ds.length).map fun i => .tup [.int (i : Nat), ds.getD i .non]
def zipD : List D → List D → List D
  | d :: ds, e :: es => .tup [d, e] :: zipD ds es
  | _, _ => []
def giEnum (c : Bool) (ga : GA) : GI := fun S Q => ga S fun svs => ∃ sv ds, svs = [sv] ∧ sv.stays c ∧ sv.d = .lst ds ∧ Q (enumD ds)
def giZip (c : Bool) (ga : GA) : GI := fun S Q => ga S fun svs => ∃ sx sy, svs = [sx, sy] ∧ ((∃ ds es, sx.stays c ∧ sy.stays c ∧ sx.d = .lst ds ∧ sy.d = .lst es ∧ Q (zipD ds es)) ∨ (∃ ds es, sx.d = .tup ds ∧ sy.d = .tup es ∧ Q (zipD ds es)))
theorem zipD_get : ∀ {ds es : List D} {i : Nat} {d : D}, (zipD ds es)[i]? = some d → ∃ x y, d = .tup [x, y] ∧ ds[i]? = some x ∧ es[i]? = some y
  | d :: ds, e :: es, 0, _, h => by cases h; exact ⟨d, e, rfl, rfl, rfl⟩
  | d :: ds, e :: es, i + 1, _, h => by
    rw [zipD, List.getElem?_cons_succ] at h
    exact zipD_get (i := i) h
  | [], _, _, _, h => by simp [zipD] at h
  | _ :: _, [], _, _, h => by simp [zipD] at h
theorem zipD_len : ∀ (ds es : List D), (zipD ds es).length = min ds.length es.length
  | d :: ds, e :: es => by rw [zipD, List.length_cons, List.length_cons, List.length_cons, zipD_len ds es]; omega
  | [], _ => by simp [zipD]
  | _ :: _, [] => by simp [zipD]
section
variable {c : Bool} {X : Cx} {EX : EXT} {tg e : Expr} {g : GE} {ga : GA} {p pos tpos : Pos} {elts : List Expr} {kk : Nat}
theorem yields_pair {c : Bool} {G2 : Gh} {H2 H3 : Hp} {T : Addr} {x y : D} {v w : V} (ok : OkG G2 H2) (hT : H2 T = none) (rv : rep G2.F x v) (rw_ : rep G2.F y w) (e : H3 = upd H2 T (.tup [v, w])) : ∃ G3, Ext G2 H2 G3 H3 ∧ rep G3.F (.tup [x, y]) (.ref T) := by
  subst e
  refine ⟨_, ext_frz ok hT _, T, [v, w], rfl, .inl upd_same, ?_⟩
  exact ⟨v, [w], rfl, rep.mono (upd_mono (ok.nF hT)) _ _ rv, w, [], rfl, rep.mono (upd_mono (ok.nF hT)) _ _ rw_, rfl⟩
theorem vi_seq (he : VE X EX e g) : VI c X EX tg e (giSeq c g) := by
  refine ⟨fun G0 H0 tk => piOf fun σ H Q ⟨G, S, Qs, R, q, k⟩ => ?_⟩
  -- which kind it is: the reading tells it
  refine ⟨fun σ H R' => TV G0 H0 g σ H fun v H1 => (∃ a, v = .ref a ∧ (∃ xs, SqL X.K H1 a xs) ∧ R' (Itl X.K a) H1) ∨ (∃ a, v = .ref a ∧ (∃ xs, SqT X.K H1 a xs) ∧ R' (Itt X.K a) H1) ∨ ∃ x, v = .str x ∧ R' (Its x) H1, ?_, ?_⟩
  · refine ⟨fun pins s σ H R I h => ?_⟩
    refine thn ((he.pe G0 H0 tk).run pins s σ H _ I h) fun v s1 ⟨x, H1, I1, r1, q1⟩ => ?_
    rcases q1 with ⟨a, rfl, hx, q1⟩ | ⟨a, rfl, hx, q1⟩ | ⟨z, rfl, q1⟩
    · obtain ⟨xs, hq⟩ := hx
      obtain ⟨its, rv, pl, hz⟩ := I1.list hq
      cases r1
      refine wpAny_pyIter_list pl.isList ?_
      refine ⟨s1.heap.objs.size, [s1.heap.objs.size], _, _, H1, rfl, I1.kept (t' := s1.toks) fun b o e => Heap.get?_push_of_some _ e, turn_list a _, ⟨_, Heap.get?_push_size _ rfl, rfl, rfl⟩, fun b hb => ?_, q1⟩
      have e : b = s1.heap.objs.size := by simpa using hb
      subst e
      exact I1.fpOk (Nat.le_refl _) (I1.hok.fresh (Nat.le_refl _))
    · obtain ⟨xs, hq⟩ := hx
      obtain ⟨its, rv, pl, hz⟩ := I1.tuple hq
      cases r1
      refine wpAny_pyIter_tuple (show s1.heap.IsTuple a its.toArray from pl) ?_
      refine ⟨s1.heap.objs.size, [s1.heap.objs.size], _, _, H1, rfl, I1.kept (t' := s1.toks) fun b o e => Heap.get?_push_of_some _ e, turn_tuple a _, ⟨_, Heap.get?_push_size _ rfl, rfl, rfl⟩, fun b hb => ?_, q1⟩
      have e : b = s1.heap.objs.size := by simpa using hb
      subst e
      exact I1.fpOk (Nat.le_refl _) (I1.hok.fresh (Nat.le_refl _))
    · obtain ⟨t, rfl⟩ := r1
      cases ha : z.cps.all (· < 128)
      · exact wpAny_pyIter_wide ha (pi_one (tk := s1.toks) I1 _ (turn_str _ z t "str_iterator" (.inr rfl)) ⟨_, Heap.get?_push_size _ rfl, rfl, rfl⟩ q1)
      · exact wpAny_pyIter_ascii ha (pi_one (tk := s1.toks) I1 _ (turn_str _ z t "str_ascii_iterator" (.inl rfl)) ⟨_, Heap.get?_push_size _ rfl, rfl, rfl⟩ q1)
  · refine ⟨G, S, _, R, q, fun v H1 G1 sv E1 r1 q1 => ?_⟩
    obtain ⟨hst, ds, hds, q1⟩ := q1
    have E0 := R.ext.trans E1
    cases hd : sv.d with
    | lst xs =>
      rw [hd] at hds
      cases hds
      have st := hst ⟨_, hd⟩
      obtain ⟨a, vs, rfl, ea, ra⟩ := r1.lst E1.ok hd
      refine .inl ⟨a, rfl, ⟨vs, .of ea⟩, k _ _ _ _ E1 (fun G2 H2 l => ?_) q1⟩
      obtain ⟨a', ws, e', e2, r2, _⟩ := r1.later E0 st hd l
      cases e'
      refine ⟨fun i hi => ⟨ws, .of e2, by rw [r2.length]; exact hi⟩, fun i d hi => ?_⟩
      obtain ⟨w, hw, rw_⟩ := r2.get hi
      refine ⟨⟨ws, w, .of e2, hw⟩, fun x H3 y => ?_⟩
      obtain ⟨rfl, y⟩ := y
      have hx : x = w := Option.some.inj ((y ws (.of e2)).symm.trans hw)
      subst hx
      exact ⟨G2, .refl l.ok, rw_⟩
    | tup xs =>
      rw [hd] at hds
      cases hds
      have t := r1.tree hd (fun _ _ _ z => z) (fun z => nomatch z)
      obtain ⟨a, vs, rfl, ea, ra⟩ := t
      refine .inr (.inl ⟨a, rfl, ⟨vs, .inl (rdUp E1.ok.sub ea)⟩, k _ _ _ _ E1 (fun G2 H2 l => ?_) q1⟩)
      have e2 := rdUp l.ok.sub (rdUp l.frz ea)
      have r2 := reps.mono l.frz _ _ ra
      refine ⟨fun i hi => ⟨vs, .inl e2, by rw [r2.length]; exact hi⟩, fun i d hi => ?_⟩
      obtain ⟨w, hw, rw_⟩ := r2.get hi
      refine ⟨⟨vs, w, .inl e2, hw⟩, fun x H3 y => ?_⟩
      obtain ⟨rfl, y⟩ := y
      have hx : x = w := Option.some.inj ((y vs (.inl e2)).symm.trans hw)
      subst hx
      exact ⟨G2, .refl l.ok, rw_⟩
    | str z =>
      rw [hd] at hds
      cases hds
      obtain ⟨rfl, hz⟩ := r1.str hd
      refine .inr (.inr ⟨z, rfl, k _ _ _ _ E1 (fun G2 H2 l => ?_) q1⟩)
      refine ⟨fun i hi => ?_, fun i d hi => ?_⟩
      · rw [List.length_map, Array.length_toList] at hi
        exact hi
      · rw [List.getElem?_map] at hi
        cases hc : z.cps.toList[i]? with
        | none => rw [hc] at hi; cases hi
        | some cc =>
          rw [hc] at hi
          cases hi
          have hc' : z.cps[i]? = some cc := by rw [← Array.getElem?_toList]; exact hc
          have hlt : i < z.cps.size := (Array.getElem?_eq_some_iff.mp hc').1
          refine ⟨hlt, fun x H3 y => ?_⟩
          obtain ⟨rfl, c2, h2, rfl⟩ := y
          have hcc : c2 = cc := Option.some.inj (h2.symm.trans hc')
          subst hcc
          refine ⟨G2, .refl l.ok, rfl, ?_⟩
          refine okS_one (z := z) (i := (i : Nat)) hz ?_
          unfold atI ixN
          rw [if_pos (by omega), if_pos (by rw [Array.length_toList]; omega)]
          simpa using hc
    | non => rw [hd] at hds; cases hds
    | bl _ => rw [hd] at hds; cases hds
    | int _ => rw [hd] at hds; cases hds
    | dic _ => rw [hd] at hds; cases hds
    | dit _ => rw [hd] at hds; cases hds
    | ins _ _ | exn _ _ | fn _ _ => rw [hd] at hds; cases hds
    | opq => rw [hd] at hds; cases hds
theorem yields_rng {G0 G : Gh} {H0 H : Hp} (lo : Int) (n : Nat) : Yields c G0 H0 G H (Itr lo n) (rngD lo n) := fun G2 H2 l => by
  refine ⟨fun i hi => ?_, fun i d hi => ?_⟩
  · rw [rngD, List.length_map, List.length_range] at hi
    exact hi
  · rw [rngD, List.getElem?_map] at hi
    by_cases h : i < n
    · rw [List.getElem?_range h] at hi
      cases hi
      refine ⟨h, fun x H3 y => ?_⟩
      obtain ⟨rfl, rfl⟩ := y
      exact ⟨G2, .refl l.ok, rfl⟩
    · rw [List.getElem?_eq_none (by simpa using h)] at hi
      cases hi
theorem vi_r1 {a : Expr} (hg : Gl X "range") (hm : X.mg "range" = none) (ha : VA X EX [a] ga) (hs : starEach [a] X.env = [(false, eval a X.env)] := by rfl) : VI c X EX tg (.Call (.Name "range" p) [a] [] pos) (giR1 ga) := by
  refine ⟨fun G0 H0 tk => piMono (pi_range1 hg hm (ha.pa G0 H0 tk) hs) fun σ H Q ⟨G, S, Qs, R, q, k⟩ => ?_⟩
  refine ⟨G, S, _, R, q, fun vs H1 G1 svs E1 r1 q1 => ?_⟩
  obtain ⟨n, hn, hb, q1⟩ := q1
  obtain ⟨v, sv, rfl, rfl, e, rv⟩ := repl1 r1 hn
  exact ⟨n, by rw [rv.int e], hb.1, hb.2, k _ _ _ _ E1 (yields_rng 0 _) q1⟩
theorem vi_r2 {a b : Expr} (hg : Gl X "range") (hm : X.mg "range" = none) (ha : VA X EX [a, b] ga) (hs : starEach [a, b] X.env = [(false, eval a X.env), (false, eval b X.env)] := by rfl) (hs2 : starEach [b] X.env = [(false, eval b X.env)] := by rfl) : VI c X EX tg (.Call (.Name "range" p) [a, b] [] pos) (giR2 ga) := by
  refine ⟨fun G0 H0 tk => piMono (pi_range2 hg hm (ha.pa G0 H0 tk) hs hs2) fun σ H Q ⟨G, S, Qs, R, q, k⟩ => ?_⟩
  refine ⟨G, S, _, R, q, fun vs H1 G1 svs E1 r1 q1 => ?_⟩
  obtain ⟨m, n, hn, hb, q1⟩ := q1
  obtain ⟨v, sv, w, sw, rfl, rfl, e, e2, rv, rw_⟩ := repl2 r1 hn
  exact ⟨m, n, by rw [rv.int e, rw_.int e2], hb, k _ _ _ _ E1 (yields_rng m _) q1⟩
theorem vi_enum (hg : Gl X "enumerate") (hm : X.mg "enumerate" = none) (ha : VA X EX [e] ga) (hs : starEach [e] X.env = [(false, eval e X.env)] := by rfl) : VI c X EX (.Tuple elts kk tpos) (.Call (.Name "enumerate" p) [e] [] pos) (giEnum c ga) := by
  refine ⟨fun G0 H0 tk => piMono (pi_enum hg hm (ha.pa G0 H0 tk) hs) fun σ H Q ⟨G, S, Qs, R, q, k⟩ => ?_⟩
  refine ⟨G, S, _, R, q, fun vs H1 G1 svs E1 r1 q1 => ?_⟩
  obtain ⟨sv, ds, rfl, st, hd, q1⟩ := q1
  cases r1 with
  | cons rv rr _ =>
    cases rr
    obtain ⟨a, vs, rfl, ea, ra⟩ := rv.lst E1.ok hd
    refine ⟨a, vs, rfl, .of ea, k _ _ _ _ E1 (fun G2 H2 l => ?_) q1⟩
    obtain ⟨a', ws, e', e2, r2, _⟩ := rv.later (R.ext.trans E1) st hd l
    cases e'
    refine ⟨fun i hi => ⟨ws, .of e2, ?_⟩, fun i d hi => ?_⟩
    · rw [enumD, List.length_map, List.length_range] at hi
      rw [r2.length]; exact hi
    · rw [enumD, List.getElem?_map] at hi
      by_cases h : i < ds.length
      · rw [List.getElem?_range h] at hi
        cases hi
        obtain ⟨w, hw, rw_⟩ := r2.get (List.getElem?_eq_getElem h)
        refine ⟨⟨ws, w, .of e2, hw⟩, fun x H3 y => ?_⟩
        obtain ⟨T, x', rfl, hT, eT, y⟩ := y
        have hx : x' = w := Option.some.inj ((y ws (.of e2)).symm.trans hw)
        subst hx
        refine yields_pair (c := true) l.ok hT (x := .int (i : Nat)) (show V.int _ = V.int _ from rfl) ?_ eT
        rw [show ds.getD i D.non = ds[i] by simp [h]]
        exact rw_
      · rw [List.getElem?_eq_none (by simpa using h)] at hi
        cases hi
theorem vi_zip {e2 : Expr} (hg : Gl X "zip") (hm : X.mg "zip" = none) (ha : VA X EX [e, e2] ga)
    (hs : starEach [e, e2] X.env = (false, eval e X.env) :: starEach [e2] X.env := by rfl) (hpl : (backTo pos (starEach [e2] X.env)).any (·.1) = false := by rfl) :
    VI c X EX (.Tuple elts kk tpos) (.Call (.Name "zip" p) [e, e2] [] pos) (giZip c ga) := by
  refine ⟨fun G0 H0 tk => piMono (RZ.pi_zipA hg hm (ha.pa G0 H0 tk) hs hpl) fun σ H Q ⟨G, S, Qs, R, q, k⟩ => ?_⟩
  refine ⟨G, S, _, R, q, fun vs H1 G1 svs E1 r1 q1 => ?_⟩
  obtain ⟨sx, sy, rfl, q1⟩ := q1
  cases r1 with
  | cons rx rr _ =>
    cases rr with
    | cons ry rr _ =>
      cases rr
      rcases q1 with ⟨ds, es, s1, s2, hx, hy, q1⟩ | ⟨ds, es, hx, hy, q1⟩
      · obtain ⟨a, vs, rfl, ea, ra⟩ := rx.lst E1.ok hx
        obtain ⟨b, ws, rfl, eb, rb⟩ := ry.lst E1.ok hy
        refine ⟨a, b, vs, ws, rfl, .inl ⟨.of ea, .of eb, k _ _ _ _ E1 (fun G2 H2 l => ?_) q1⟩⟩
        obtain ⟨a', vs', e', ea2, ra2, _⟩ := rx.later (R.ext.trans E1) s1 hx l
        cases e'
        obtain ⟨b', ws', e', eb2, rb2, _⟩ := ry.later (R.ext.trans E1) s2 hy l
        cases e'
        refine ⟨fun i hi => ⟨vs', ws', .of ea2, .of eb2, ?_⟩, fun i d hi => ?_⟩
        · rw [zipD_len] at hi
          rw [ra2.length, rb2.length]
          omega
        · obtain ⟨x, y, rfl, hxi, hyi⟩ := zipD_get hi
          obtain ⟨v, hv, rv⟩ := ra2.get hxi
          obtain ⟨w, hw, rw_⟩ := rb2.get hyi
          refine ⟨⟨vs', ws', v, w, .of ea2, .of eb2, hv, hw⟩, fun z H3 yl => ?_⟩
          obtain ⟨T, x', y', rfl, hT, eT, y1, y2⟩ := yl
          have h1 : x' = v := Option.some.inj ((y1 vs' (.of ea2)).symm.trans hv)
          have h2 : y' = w := Option.some.inj ((y2 ws' (.of eb2)).symm.trans hw)
          subst h1 h2
          exact yields_pair (c := true) l.ok hT rv rw_ eT
      · obtain ⟨a, vs, rfl, ea, ra⟩ := rx.tree hx (fun _ _ _ z => z) (fun z => nomatch z)
        obtain ⟨b, ws, rfl, eb, rb⟩ := ry.tree hy (fun _ _ _ z => z) (fun z => nomatch z)
        refine ⟨a, b, vs, ws, rfl, .inr ⟨.inl (rdUp E1.ok.sub ea), .inl (rdUp E1.ok.sub eb), k _ _ _ _ E1 (fun G2 H2 l => ?_) q1⟩⟩
        have ea2 := rdUp l.ok.sub (rdUp l.frz ea)
        have eb2 := rdUp l.ok.sub (rdUp l.frz eb)
        have ra2 := reps.mono l.frz _ _ ra
        have rb2 := reps.mono l.frz _ _ rb
        refine ⟨fun i hi => ⟨vs, ws, .inl ea2, .inl eb2, ?_⟩, fun i d hi => ?_⟩
        · rw [zipD_len] at hi
          rw [ra2.length, rb2.length]
          omega
        · obtain ⟨x, y, rfl, hxi, hyi⟩ := zipD_get hi
          obtain ⟨v, hv, rv⟩ := ra2.get hxi
          obtain ⟨w, hw, rw_⟩ := rb2.get hyi
          refine ⟨⟨vs, ws, v, w, .inl ea2, .inl eb2, hv, hw⟩, fun z H3 yl => ?_⟩
          obtain ⟨T, x', y', rfl, hT, eT, y1, y2⟩ := yl
          have h1 : x' = v := Option.some.inj ((y1 vs (.inl ea2)).symm.trans hv)
          have h2 : y' = w := Option.some.inj ((y2 ws (.inl eb2)).symm.trans hw)
          subst h1 h2
          exact yields_pair (c := true) l.ok hT rv rw_ eT
end
end VT

namespace VT
open PySem PySem.Spec PyProof.Rows L2

/-! ### an object newer than the beginning is changed -/
/-- something plain stands there -/
def Plain (H : Hp) (a : Addr) : Prop := ∃ u, H a = some u ∧ (∀ ps, u ≠ .tbl ps) ∧ ∀ φ, u ≠ .ext φ
theorem Plain.lst {H : Hp} {a : Addr} {xs : List V} (h : H a = some (.lst xs)) : Plain H a := ⟨_, h, nofun, nofun⟩
theorem Plain.dK {H : Hp} {a : Addr} {xs : List (Key × V)} (h : H a = some (.dK xs)) : Plain H a := ⟨_, h, nofun, nofun⟩
theorem Plain.ins {H : Hp} {a C dx : Addr} {fs : List (Str × V)} (h : H a = some (.ins C dx fs)) : Plain H a := ⟨_, h, nofun, nofun⟩
theorem cont.plain {F H : Hp} {a : Addr} {d : D} (h : cont F H a d) : Plain H a := by
  cases d with
  | lst ds => obtain ⟨vs, e, r⟩ := h; exact ⟨_, e, nofun, nofun⟩
  | dic kvs => obtain ⟨vs, e, r⟩ := h; exact ⟨_, e, nofun, nofun⟩
  | dit kvs => obtain ⟨vs, e, r⟩ := h; exact ⟨_, e, nofun, nofun⟩
  | _ => exact h.elim
theorem Plain.tabs {T : TBL} {F H : Hp} {a : Addr} (p : Plain H a) (o : HO) (h : TabsF T F H) : TabsF T F (upd H a o) := by
  obtain ⟨u, e, n1, n2⟩ := p
  exact tabs_put h e n1
theorem ext_write {G G' : Gh} {H H' : Hp} {a : Addr} (E : Ext G H G' H') (hn : H a = none) (hF : G'.F a = none) (hb : G'.pb ≠ some a) (o : HO) (hp : Plain H' a) : Ext G H G' (upd H' a o) where
  ok := ⟨fun b u e => by
      rw [upd_ne (fun z => by rw [z, hF] at e; cases e)]
      exact E.ok.sub b u e, fun q e => ⟨(E.ok.bag q e).1.go (fun u h => by rw [upd_ne (fun z => hb (by rw [← z]; exact e))]; exact h) fun _ _ z => z, (E.ok.bag q e).2⟩, hp.tabs o E.ok.tabs⟩
  same := fun b u e q n => by rw [upd_ne (ne_of_none e hn)]; exact E.same b u e q n
  tbl := fun b ps e => by
    obtain ⟨ps', z⟩ := E.tbl b ps e
    exact ⟨ps', by rw [upd_ne (ne_of_none e hn)]; exact z⟩
  tt := E.tt
  pb := E.pb
  pnew := E.pnew
  frz := E.frz
  new := E.new

/-! ### comprehensions -/
/-- the tests of a clause -/
structure VCs (X : Cx) (EX : EXT) (ifs : List Expr) (g : GT) : Prop where
  pts : ∀ G0 H0, Lk X EX G0 H0 → PTs X ifs (TTV G0 H0 g)
@[simp] def gYes : GT := fun _ Q => Q true
section
variable {X : Cx} {EX : EXT}
theorem vcs_nil : VCs X EX [] gYes := ⟨fun G0 H0 tk => ⟨fun pins s σ H Q I ⟨G, S, Qs, R, q, k⟩ => pts_nil.run pins s σ H Q I (k true H G (.refl R.ok) q)⟩⟩
theorem vcs_one {c : Expr} {g : GT} (h : VC X EX c g) : VCs X EX [c] g := ⟨fun G0 H0 tk => pts_one (h.pt G0 H0 tk)⟩
/-- [e for tg in it if t]: W of what is left and what is made -/
def gLc (gi : GI) (gg : GG) (gt : GT) (ge : GE) (vs : List Nat) : GE := fun S Q => gi S fun ds => ∃ W : List D → List D → Prop, W ds [] ∧ (∀ acc, W [] acc → Q (.own (.lst acc))) ∧
  ∀ d r acc, W (d :: r) acc → gg d (wipeS S vs) fun S2 => gt S2 fun b => if b = true then ge S2 fun sv => ∃ y, sv = .tr y ∧ acc.length < sizeLine ∧ W r (acc ++ [y]) else W r acc
theorem gLc_t {c : Bool} {gi : GI} {gg : GG} {gt : GT} {ge : GE} {vs : List Nat} {K : PySem.W.Frag} {G0 : Gh} {H0 : Hp} {σ : L2.St} {H : Hp} {Q : VK} (hc : c = true) (h : TV G0 H0 (gLc gi gg gt ge vs) σ H Q) : tLc (TIV c G0 H0 gi) (TGV G0 H0 vs gg) (TTV G0 H0 gt) (TV G0 H0 ge) vs σ H Q := by
  subst hc
  obtain ⟨G, S, Qs, R, q, k⟩ := h
  refine ⟨G, S, _, R, q, fun J H1 G1 ds E1 Y q1 => ?_⟩
  obtain ⟨W, w0, wd, ws⟩ := q1
  intro D hD
  have R1 := R.go E1
  refine ⟨fun i m H2 => ∃ G2 acc vsD, Ext G1 H1 G2 H2 ∧ H2 D = some (.lst vsD) ∧ G2.F D = none ∧ G2.pb ≠ some D ∧ reps G2.F acc vsD ∧ W (ds.drop i) acc ∧ m = ds.length - i ∧ i ≤ ds.length, ⟨ds.length, G1, [], [], ext_new E1.ok hD _, upd_same, E1.ok.nF hD, E1.ok.npb hD, rfl, w0, by simp, Nat.zero_le _⟩, ?_⟩
  rintro i m H2 ⟨G2, acc, vsD, E2, e2, f2, b2, ra, w, rfl, hi⟩
  by_cases hlt : i < ds.length
  · obtain ⟨y1, y2⟩ := Y G2 H2 E2
    have hd : ds[i]? = some ds[i] := List.getElem?_eq_getElem hlt
    obtain ⟨go, yl⟩ := y2 i _ hd
    rw [List.drop_eq_getElem_cons hlt] at w
    refine .inr ⟨go, fun H' => ∃ m', m' < ds.length - i ∧ ∃ G2 acc vsD, Ext G1 H1 G2 H' ∧ H' D = some (.lst vsD) ∧ G2.F D = none ∧ G2.pb ≠ some D ∧ reps G2.F acc vsD ∧ W (ds.drop (i + 1)) acc ∧ m' = ds.length - (i + 1) ∧ i + 1 ≤ ds.length, fun H' z => z, fun x H3 yx => ?_⟩
    obtain ⟨G3, E3, rx⟩ := yl x H3 yx
    refine ⟨G3, wipeS S vs, ds[i], _, ((R1.go E2).go E3).wipe vs, rx, ws _ _ _ w, fun σ2 S2 R2 off q2 => ⟨off.wiped, ?_⟩⟩
    refine ⟨G3, S2, _, R2, q2, fun b H4 G4 E4 q4 => ?_⟩
    have ne2 : H2 D ≠ none := by rw [e2]; simp
    have E24 := E3.trans E4
    have e4 : H4 D = some (.lst vsD) := E24.same _ _ e2 b2 nofun
    cases b with
    | false =>
      rw [if_neg Bool.false_ne_true] at q4
      refine iteF ?_
      exact ⟨_, by omega, G4, acc, vsD, E2.trans E24, e4, E24.nF f2 ne2, E24.npb b2 ne2, reps.mono E24.frz _ _ ra, q4, rfl, by omega⟩
    | true =>
      rw [if_pos rfl] at q4
      refine iteT ?_
      refine ⟨G4, S2, _, R2.go E4, q4, fun v H5 G5 sv E5 r5 q5 => ?_⟩
      obtain ⟨y, rfl, hz, q5⟩ := q5
      have E25 := E24.trans E5
      have e5 : H5 D = some (.lst vsD) := E25.same _ _ e2 b2 nofun
      have rz := reps.mono E25.frz _ _ ra
      refine ⟨vsD, e5, by rw [rz.length]; exact hz, _, by omega, G5, acc ++ [y], vsD ++ [v], ext_write (E2.trans E25) hD (E25.nF f2 ne2) (E25.npb b2 ne2) _ (.lst e5), upd_same, E25.nF f2 ne2, E25.npb b2 ne2, rz.append ⟨v, [], rfl, r5, rfl⟩, q5, rfl, by omega⟩
  · have e : i = ds.length := by omega
    subst e
    rw [List.drop_length] at w
    obtain ⟨y1, _⟩ := Y G2 H2 E2
    exact .inl ⟨y1 _ (Nat.le_refl _), k _ _ G2 (.own (.lst acc)) (E1.trans E2) ⟨D, rfl, E1.dom hD, f2, b2, vsD, e2, ra⟩ (wd _ w)⟩
theorem ve_lc {elt tg iter : Expr} {ifs : List Expr} {scope : Scope} {own : List (Str × Nat)} {pos : Pos} {gi : GI} {gg : GG} {gt : GT} {ge : GE} (hc : X.calm = true) (hN : X.N.Nodup) (hi : VI true X EX tg iter gi) (ok : BlkOk X.N X.env.scope scope own)
    (hg : ∀ (s : Shared) (H : Hp) (C : Addr) (cl : List (Str × Addr)) (fp : List Addr), VG (X.blk s H scope (compEnvC scope cl C X.env) fp) tg (own.map (·.2)) gg) (ht : ∀ (s : Shared) (H : Hp) (C : Addr) (cl : List (Str × Addr)) (fp : List Addr), VCs (X.blk s H scope (compEnvC scope cl C X.env) fp) EX.off ifs gt)
    (he : ∀ (s : Shared) (H : Hp) (C : Addr) (cl : List (Str × Addr)) (fp : List Addr), VE (X.blk s H scope (compEnvC scope cl C X.env) fp) EX.off elt ge) (hs : ∀ x, foldedSetIterable iter X.env x = pure x := by intro _; rfl) :
    VE X EX (.ListComp elt [⟨tg, iter, ifs, 0⟩] scope pos) (gLc gi gg gt ge (own.map (·.2))) :=
  ⟨fun G0 H0 tk => peMono (pe_lc hc hN (hi.pi G0 H0 tk) ok (fun s H C cl fp => (hg s H C cl fp).pg G0 H0) (fun s H C cl fp => (ht s H C cl fp).pts G0 H0 (tk.blk rfl)) (fun s H C cl fp => (he s H C cl fp).pe G0 H0 (tk.blk rfl)) hs) fun σ H Q h => gLc_t (K := X.K) rfl h⟩
end

/-! ### statements -/
structure VEnds where
  nx : S → Prop
  rt : SV → Prop
  bk : S → Prop := fun _ => False
  ct : S → Prop := fun _ => False
abbrev GS := VEnds → S → Prop
/-- what was frozen is frozen -/
abbrev Mono (G G' : Gh) : Prop := ∀ b o, G.F b = some o → G'.F b = some o
/-- behind a statement that began at Gs -/
structure KD (G0 : Gh) (H0 : Hp) (Gs : Gh) (DV : VEnds) (D : Ends) : Prop where
  nx : ∀ σ H G S, Rel G0 H0 G H σ S → Mono Gs G → DV.nx S → D.nx σ H
  rt : ∀ v H G sv, Ext G0 H0 G H → RepV H0 H0 G H v sv → sv.isRet → DV.rt sv → D.rt v H
  bk : ∀ σ H G S, Rel G0 H0 G H σ S → Mono Gs G → DV.bk S → D.bk σ H
  ct : ∀ σ H G S, Rel G0 H0 G H σ S → Mono Gs G → DV.ct S → D.ct σ H
theorem KD.go {G0 Gs G : Gh} {H0 : Hp} {DV : VEnds} {D : Ends} (k : KD G0 H0 Gs DV D) (m : Mono Gs G) : KD G0 H0 G DV D :=
  ⟨fun σ H G' S R m' q => k.nx σ H G' S R (fun b o h => m' b o (m b o h)) q, k.rt, fun σ H G' S R m' q => k.bk σ H G' S R (fun b o h => m' b o (m b o h)) q, fun σ H G' S R m' q => k.ct σ H G' S R (fun b o h => m' b o (m b o h)) q⟩
def TSV (G0 : Gh) (H0 : Hp) (g : GS) : TS := fun D σ H => ∃ G S DV, Rel G0 H0 G H σ S ∧ g DV S ∧ KD G0 H0 G DV D
structure VS (X : Cx) (EX : EXT) (st : Stmt) (g : GS) : Prop where
  ps : ∀ G0 H0, Lk X EX G0 H0 → PS X st (TSV G0 H0 g)
structure VSs (X : Cx) (EX : EXT) (st : List Stmt) (g : GS) : Prop where
  pss : ∀ G0 H0, Lk X EX G0 H0 → PSs X st (TSV G0 H0 g)
section
variable {X : Cx} {EX : EXT} {st : Stmt} {sts : List Stmt} {e : Expr} {ge : GE} {g g' : GS} {pos : Pos}
theorem psMono {t t' : TS} (h : PS X st t) (k : ∀ D σ H, t' D σ H → t D σ H) : PS X st t' := ⟨fun pins s σ H D I q => h.run pins s σ H D I (k D σ H q)⟩
theorem pssMono {t t' : TS} (h : PSs X sts t) (k : ∀ D σ H, t' D σ H → t D σ H) : PSs X sts t' := ⟨fun pins s σ H D I q => h.run pins s σ H D I (k D σ H q)⟩
@[simp] def gNext : GS := fun D S => D.nx S
def gSeq (g g' : GS) : GS := fun D S => g { D with nx := g' D } S
theorem vss_nil : VSs X EX [] gNext := ⟨fun G0 H0 tk => pssMono pss_nil fun D σ H ⟨G, S, DV, R, q, k⟩ => k.nx σ H G S R (fun _ _ h => h) q⟩
theorem vss_cons (h1 : VS X EX st g) (h2 : VSs X EX sts g') : VSs X EX (st :: sts) (gSeq g g') :=
  ⟨fun G0 H0 tk => pssMono (pss_cons (h1.ps G0 H0 tk) (h2.pss G0 H0 tk)) fun D σ H ⟨G, S, DV, R, q, k⟩ => ⟨G, S, _, R, q, fun σ' H' G' S' R' m q' => ⟨G', S', DV, R', q', k.go m⟩, k.rt, k.bk, k.ct⟩⟩
theorem vss_one (h1 : VS X EX st g) : VSs X EX [st] g := ⟨fun G0 H0 tk => pss_one (h1.ps G0 H0 tk)⟩
@[simp] def gBreak : GS := fun D S => D.bk S
@[simp] def gCont : GS := fun D S => D.ct S
theorem vs_pass : VS X EX (.Pass pos) gNext := ⟨fun G0 H0 tk => psMono ps_pass fun D σ H ⟨G, S, DV, R, q, k⟩ => k.nx σ H G S R (fun _ _ h => h) q⟩
theorem vs_break : VS X EX (.Break pos) gBreak := ⟨fun G0 H0 tk => psMono ps_break fun D σ H ⟨G, S, DV, R, q, k⟩ => k.bk σ H G S R (fun _ _ h => h) q⟩
theorem vs_cont : VS X EX (.Continue pos) gCont := ⟨fun G0 H0 tk => psMono ps_continue fun D σ H ⟨G, S, DV, R, q, k⟩ => k.ct σ H G S R (fun _ _ h => h) q⟩
@[simp] def gDrop (ge : GE) : GS := fun D S => ge S fun _ => D.nx S
theorem vs_expr (he : VE X EX e ge) (hs : swapsWith e none pos.line X.env = pure false := by rfl) : VS X EX (.Expr e pos) (gDrop ge) :=
  ⟨fun G0 H0 tk => psMono (ps_expr (he.pe G0 H0 tk) hs) fun D σ H ⟨G, S, DV, R, q, k⟩ => ⟨G, S, _, R, q, fun v H1 G1 sv E1 r1 q1 => k.nx σ H1 G1 S (R.go E1) E1.frz q1⟩⟩
@[simp] def gRet (ge : GE) : GS := fun D S => ge S fun sv => sv.isRet ∧ D.rt sv
theorem vs_ret (he : VE X EX e ge) : VS X EX (.Return (some e) pos) (gRet ge) :=
  ⟨fun G0 H0 tk => psMono (ps_ret (he.pe G0 H0 tk)) fun D σ H ⟨G, S, DV, R, q, k⟩ => ⟨G, S, _, R, q, fun v H1 G1 sv E1 r1 q1 => k.rt v H1 G1 sv (R.ext.trans E1) (r1.back fun _ z => R.ext.dom z) q1.1 q1.2⟩⟩
/-- return x, x's own object goes out -/
@[simp] def gRetName (i : Nat) : GS := fun D S => ∃ sv, S[i]? = some (some sv) ∧ sv.isRet ∧ D.rt sv
theorem vs_retName (i : Nat) {x : Str} {p : Pos} (hN : X.N[i]? = some x := by rfl) (hv : Vis X.env.scope x := by first | exact Or.inl rfl | exact Or.inr (Or.inl rfl) | exact Or.inr (Or.inr rfl)) (hd : (x == ("__debug__" : Str)) = false := by decide)
    (hcd : (x == ("__classdict__" : Str)) = false := by decide) : VS X EX (.Return (some (.Name x p)) pos) (gRetName i) :=
  ⟨fun G0 H0 tk => psMono (ps_ret (pe_var hN hv hd hcd)) fun D σ H ⟨G, S, DV, R, q, k⟩ => by
    obtain ⟨sv, e, ir, q⟩ := q
    obtain ⟨v, e1, r⟩ := R.slot i sv e
    exact ⟨v, e1, k.rt v H G sv R.ext r ir q⟩⟩
@[simp] def gRetN : GS := fun D _ => D.rt (.tr .non)
theorem vs_retN : VS X EX (.Return none pos) gRetN := ⟨fun G0 H0 tk => psMono ps_retN fun D σ H ⟨G, S, DV, R, q, k⟩ => k.rt .non H G (.tr .non) R.ext rfl trivial q⟩
@[simp] def gIfS (gc : GT) (g g' : GS) : GS := fun D S => gc S fun b => if b = true then g D S else g' D S
theorem vs_if {c : Expr} {a b : List Stmt} {gc : GT} (hc : VC X EX c gc) (ha : VSs X EX a g) (hb : VSs X EX b g') : VS X EX (.If c a b pos) (gIfS gc g g') :=
  ⟨fun G0 H0 tk => psMono (ps_if (hc.pt G0 H0 tk) (ha.pss G0 H0 tk) (hb.pss G0 H0 tk)) fun D σ H ⟨G, S, DV, R, q, k⟩ => ⟨G, S, _, R, q, fun b H1 G1 E1 q1 => by
    cases b with
    | true =>
      rw [if_pos rfl] at q1 ⊢
      exact ⟨G1, S, DV, R.go E1, q1, k.go E1.frz⟩
    | false =>
      rw [if_neg Bool.false_ne_true] at q1 ⊢
      exact ⟨G1, S, DV, R.go E1, q1, k.go E1.frz⟩⟩⟩
/-- x = e -/
@[simp] def gSet (i : Nat) (ge : GE) : GS := fun D S => ge S fun sv => sv.ok ∧ D.nx (S.set i (some sv))
theorem vs_set {i : Nat} {x : Str} {pos' : Pos} (hN : X.N.Nodup) (hi : X.N[i]? = some x) (hx : Loc X.env.scope x) (he : VE X EX e ge) (hs : swapsWith e (some (.Name x pos')) pos.line X.env = pure false := by rfl) (hf : X.fn x = true ∨ X.env.scope.names.lookup x = some .local := by first | exact .inl rfl | exact .inr rfl | assumption) :
    VS X EX (.Assign [.Name x pos'] e pos) (gSet i ge) :=
  ⟨fun G0 H0 tk => psMono (ps_set hN hi hx (he.pe G0 H0 tk) hs hf) fun D σ H ⟨G, S, DV, R, q, k⟩ => ⟨G, S, _, R, q, fun v H1 G1 sv E1 r1 q1 => k.nx _ _ _ _ (R.setE E1 i r1 q1.1) E1.frz q1.2⟩⟩
/-- x = [e for ..], x a local -/
theorem vs_setLc {i : Nat} {y : Str} {py : Pos} {elt tg iter : Expr} {ifs : List Expr} {scope : Scope} {own : List (Str × Nat)} {cpos spos : Pos} {gi : GI} {gg : GG} {gt : GT} {ge : GE} (hc : X.calm = true) (hN : X.N.Nodup) (hy : X.N[i]? = some y) (hyl : X.env.scope.names.lookup y = some .local)
    (hsw : swapsWith (.ListComp elt [⟨tg, iter, ifs, 0⟩] scope cpos) (some (.Name y py)) spos.line X.env = pure true) (hi : VI true X EX tg iter gi) (ok : BlkOk X.N X.env.scope scope own)
    (hg : ∀ (s : Shared) (H : Hp) (C : Addr) (cl : List (Str × Addr)) (fp : List Addr), VG (X.blk s H scope (compEnvC scope cl C X.env) fp) tg (own.map (·.2)) gg) (ht : ∀ (s : Shared) (H : Hp) (C : Addr) (cl : List (Str × Addr)) (fp : List Addr), VCs (X.blk s H scope (compEnvC scope cl C X.env) fp) EX.off ifs gt)
    (he : ∀ (s : Shared) (H : Hp) (C : Addr) (cl : List (Str × Addr)) (fp : List Addr), VE (X.blk s H scope (compEnvC scope cl C X.env) fp) EX.off elt ge) (hs : ∀ x, foldedSetIterable iter X.env x = pure x := by intro _; rfl) :
    VS X EX (.Assign [.Name y py] (.ListComp elt [⟨tg, iter, ifs, 0⟩] scope cpos) spos) (gSet i (gLc gi gg gt ge (own.map (·.2)))) :=
  ⟨fun G0 H0 tk => psMono (ps_setLc hc hN hy hyl hsw (hi.pi G0 H0 tk) ok (fun s H C cl fp => (hg s H C cl fp).pg G0 H0) (fun s H C cl fp => (ht s H C cl fp).pts G0 H0 (tk.blk rfl)) (fun s H C cl fp => (he s H C cl fp).pe G0 H0 (tk.blk rfl)) hs) fun D σ H ⟨G, S, DV, R, q, k⟩ =>
    gLc_t (K := X.K) rfl ⟨G, S, fun sv => sv.ok ∧ DV.nx (S.set i (some sv)), R, q, fun v H1 G1 sv E1 r1 q1 => k.nx _ _ _ _ (R.setE E1 i r1 q1.1) E1.frz q1.2⟩⟩
/-- a target of a tree -/
@[simp] def gAsg (gg : GG) (ge : GE) : GS := fun D S => ge S fun sv => ∃ d, sv = .tr d ∧ gg d S D.nx
theorem vs_asg {tg : Expr} {is : List Nat} {gg : GG} (he : VE X EX e ge) (hg : VG X tg is gg) (hs : swapsWithSole [tg] e pos.line X.env = pure false := by rfl) (hw : swappedStores [tg] e X.env = pure none := by rfl)
    (h1 : (assignEach [tg] X.env).map (·.2) = [assign tg X.env] := by rfl) : VS X EX (.Assign [tg] e pos) (gAsg gg ge) :=
  ⟨fun G0 H0 tk => psMono (ps_asg (he.pe G0 H0 tk) (hg.pg G0 H0) hs hw h1) fun D σ H ⟨G, S, DV, R, q, k⟩ => ⟨G, S, _, R, q, fun v H1 G1 sv E1 r1 q1 => by
    obtain ⟨d, rfl, q1⟩ := q1
    exact ⟨G1, S, d, _, R.go E1, r1, q1, fun σ' S' R' _ q' => k.nx _ _ _ _ R' E1.frz q'⟩⟩⟩
/-- x += e -/
@[simp] def gAug (i : Nat) (gop : D → D → (SV → Prop) → Prop) (ge : GE) : GS := fun D S => ∃ dx, S[i]? = some (some (.tr dx)) ∧ ge S fun sv => gop dx sv.d fun z => z.ok ∧ D.nx (S.set i (some z))
@[simp] def gAugI (f : Int → Int → Int) (i : Nat) (ge : GE) : GS := fun D S => ∃ a, S[i]? = some (some (.tr (.int a))) ∧ ge S fun sv => ∃ b, sv.d = .int b ∧ D.nx (S.set i (some (.tr (.int (f a b)))))
theorem vs_augI {f : Int → Int → Int} {op : Operator} {i : Nat} {x : Str} {pos' : Pos} (ho : PIp X op (ipI f)) (hN : X.N.Nodup) (hi : X.N[i]? = some x) (hx : Loc X.env.scope x) (he : VE X EX e ge) (hf : X.fn x = true ∨ X.env.scope.names.lookup x = some .local := by first | exact .inl rfl | exact .inr rfl | assumption) :
    VS X EX (.AugAssign (.Name x pos') op e pos) (gAugI f i ge) :=
  ⟨fun G0 H0 tk => psMono (ps_aug hN hi hx (he.pe G0 H0 tk) ho hf) fun D σ H ⟨G, S, DV, R, q, k⟩ => by
    obtain ⟨a, ea, q⟩ := q
    obtain ⟨v, e1, r⟩ := R.slot i _ ea
    refine ⟨v, e1, G, S, _, R, q, fun w H1 G1 sv E1 r1 q1 => ?_⟩
    obtain ⟨b, hb, q1⟩ := q1
    have e2 : v = .int a := r
    have e3 : w = .int b := r1.int hb
    subst e2 e3
    exact ⟨a, b, rfl, rfl, k.nx _ H1 G1 _ ((R.go E1).set (Hs := H0) i (show RepV H0 H0 G1 H1 (V.int (f a b)) (.tr (.int (f a b))) from rfl) trivial (fun _ z => z) (fun _ _ _ _ _ _ _ o => o.elim)) E1.frz q1⟩⟩
end
end VT

namespace VT
open PySem PySem.Spec PyProof.Rows L2

/-! ### loops -/
/-- W of what is left -/
def gFor (gi : GI) (gg : GG) (gb : GS) : GS := fun D S => gi S fun ds => ∃ W : List VT.D → VT.S → Prop, W ds S ∧ (∀ S', W [] S' → D.nx S') ∧
  ∀ d r S1, W (d :: r) S1 → gg d S1 fun S2 => gb { nx := W r, rt := D.rt, bk := D.nx, ct := W r } S2
def gWhile (gc : GT) (gb : GS) : GS := fun D S => ∃ W : Nat → VT.S → Prop, (∃ m, W m S) ∧ ∀ m S, W m S → gc S fun b =>
  if b = true then gb { nx := fun S' => ∃ m', m' < m ∧ W m' S', rt := D.rt, bk := D.nx, ct := fun S' => ∃ m', m' < m ∧ W m' S' } S else D.nx S
section
variable {X : Cx} {EX : EXT} {pos : Pos} {gb : GS}
theorem vs_for {tg iter : Expr} {body : List Stmt} {gi : GI} {is : List Nat} {gg : GG} (hp : PassesOwn (model X.prog X.w) X.A X.env X.xe) (hc : X.calm = true) (hi : VI false X EX tg iter gi) (hg : VG X tg is gg) (hb : VSs X EX body gb)
    (hs : ∀ x, foldedSetIterable iter X.env x = pure x := by intro _; rfl) : VS X EX (.For tg iter body [] pos) (gFor gi gg gb) := by
  refine ⟨fun G0 H0 tk => psMono (ps_for hp hc (hi.pi G0 H0 tk) (hg.pg G0 H0) (hb.pss G0 H0 tk) hs) fun D σ H ⟨G, S, DV, R, q, k⟩ => ?_⟩
  refine ⟨G, S, _, R, q, fun J H1 G1 ds E1 Y q1 => ?_⟩
  obtain ⟨W, w0, wd, ws⟩ := q1
  refine ⟨fun i m σ H => ∃ G' S', Rel G0 H0 G' H σ S' ∧ Mono G1 G' ∧ W (ds.drop i) S' ∧ m = ds.length - i ∧ i ≤ ds.length, ⟨ds.length, G1, S, R.go E1, fun _ _ h => h, w0, by simp, Nat.zero_le _⟩, ?_⟩
  rintro i m σ2 H2 ⟨G2, S2, R2, M2, w, rfl, hi⟩
  obtain ⟨y1, y2⟩ := Y G2 H2 ⟨R2.ext, M2⟩
  have MG : Mono G G2 := fun b o h => M2 b o (E1.frz b o h)
  by_cases hlt : i < ds.length
  · have hd : ds[i]? = some ds[i] := List.getElem?_eq_getElem hlt
    obtain ⟨go, yl⟩ := y2 i _ hd
    rw [List.drop_eq_getElem_cons hlt] at w
    refine .inr ⟨go, fun σ' H' => ∃ m', m' < ds.length - i ∧ ∃ G' S', Rel G0 H0 G' H' σ' S' ∧ Mono G1 G' ∧ W (ds.drop (i + 1)) S' ∧ m' = ds.length - (i + 1) ∧ i + 1 ≤ ds.length, fun _ _ z => z, fun x H3 yx => ?_⟩
    obtain ⟨G3, E3, rx⟩ := yl x H3 yx
    have M3 : Mono G1 G3 := fun b o h => E3.frz b o (M2 b o h)
    refine ⟨G3, S2, ds[i], _, R2.go E3, rx, ws _ _ _ w, fun σ4 S4 R4 off q4 => ?_⟩
    refine ⟨G3, S4, _, R4, q4, fun σ' H' G' S' R' m' q' => ?_, k.rt, fun σ' H' G' S' R' m' q' => ?_, fun σ' H' G' S' R' m' q' => ?_⟩
    · exact ⟨_, by omega, G', S', R', fun b o h => m' b o (M3 b o h), q', rfl, by omega⟩
    · exact k.nx _ _ _ _ R' (fun b o h => m' b o (E3.frz b o (MG b o h))) q'
    · exact ⟨_, by omega, G', S', R', fun b o h => m' b o (M3 b o h), q', rfl, by omega⟩
  · have e : i = ds.length := by omega
    subst e
    rw [List.drop_length] at w
    exact .inl ⟨y1 _ (Nat.le_refl _), k.nx _ _ _ _ R2 MG (wd _ w)⟩
theorem vs_while {c : Expr} {body : List Stmt} {gc : GT} (hp : PassesOwn (model X.prog X.w) X.A X.env X.xe) (hc : VC X EX c gc) (hb : VSs X EX body gb) : VS X EX (.While c body [] pos) (gWhile gc gb) := by
  refine ⟨fun G0 H0 tk => psMono (ps_while hp (hc.pt G0 H0 tk) (hb.pss G0 H0 tk)) fun D σ H ⟨G, S, DV, R, q, k⟩ => ?_⟩
  obtain ⟨W, ⟨m0, w0⟩, ws⟩ := q
  refine ⟨fun m σ H => ∃ G' S', Rel G0 H0 G' H σ S' ∧ Mono G G' ∧ W m S', ⟨m0, G, S, R, fun _ _ h => h, w0⟩, ?_⟩
  rintro m σ2 H2 ⟨G2, S2, R2, M2, w⟩
  refine ⟨G2, S2, _, R2, ws m S2 w, fun b H3 G3 E3 q3 => ?_⟩
  have M3 : Mono G G3 := fun b o h => E3.frz b o (M2 b o h)
  cases b with
  | true =>
    rw [if_pos rfl] at q3
    refine iteT ⟨fun σ' H' => ∃ m', m' < m ∧ ∃ G' S', Rel G0 H0 G' H' σ' S' ∧ Mono G G' ∧ W m' S', fun _ _ z => z, ?_⟩
    refine ⟨G3, S2, _, R2.go E3, q3, fun σ' H' G' S' R' m' q' => ?_, k.rt, fun σ' H' G' S' R' m' q' => ?_, fun σ' H' G' S' R' m' q' => ?_⟩
    · obtain ⟨n, hn, wn⟩ := q'
      exact ⟨n, hn, G', S', R', fun b o h => m' b o (M3 b o h), wn⟩
    · exact k.nx _ _ _ _ R' (fun b o h => m' b o (M3 b o h)) q'
    · obtain ⟨n, hn, wn⟩ := q'
      exact ⟨n, hn, G', S', R', fun b o h => m' b o (M3 b o h), wn⟩
  | false =>
    rw [if_neg Bool.false_ne_true] at q3
    exact iteF (k.nx _ _ _ _ (R2.go E3) M3 q3)
end

/-! ### an object of the frame's own: let go, changed -/
theorem cont.mono {F F' H : Hp} {a : Addr} {d : D} (m : ∀ b o, F b = some o → F' b = some o) (h : cont F H a d) : cont F' H a d := by
  cases d with
  | lst ds => obtain ⟨vs, e, r⟩ := h; exact ⟨vs, e, reps.mono m _ _ r⟩
  | dic ds => obtain ⟨vs, e, r⟩ := h; exact ⟨vs, e, repk.mono m _ _ r⟩
  | dit ds => obtain ⟨vs, e, r⟩ := h; exact ⟨vs, e, rept.mono m _ _ r⟩
  | _ => exact h.elim
/-- what is told of a heap stays where nothing but a is written -/
theorem cont.off {F H H' : Hp} {a b : Addr} {d : D} (h : cont F H b d) (k : ∀ o, H b = some o → H' b = some o) : cont F H' b d := by
  cases d with
  | lst ds => obtain ⟨vs, e, r⟩ := h; exact ⟨vs, k _ e, r⟩
  | dic ds => obtain ⟨vs, e, r⟩ := h; exact ⟨vs, k _ e, r⟩
  | dit ds => obtain ⟨vs, e, r⟩ := h; exact ⟨vs, k _ e, r⟩
  | _ => exact h.elim
theorem cont.obj {F H : Hp} {a : Addr} {d : D} (hF : F a = none) (h : cont F H a d) : ∃ o, H a = some o ∧ (∀ ps, o ≠ .tbl ps) ∧ rep (upd F a o) d (.ref a) := by
  cases d with
  | lst ds => obtain ⟨vs, e, r⟩ := h; exact ⟨_, e, nofun, a, vs, rfl, upd_same, reps.mono (upd_mono hF) _ _ r⟩
  | dic ds => obtain ⟨vs, e, r⟩ := h; exact ⟨_, e, nofun, a, vs, rfl, upd_same, repk.mono (upd_mono hF) _ _ r⟩
  | dit ds => obtain ⟨vs, e, r⟩ := h; exact ⟨_, e, nofun, a, vs, rfl, upd_same, rept.mono (upd_mono hF) _ _ r⟩
  | _ => exact h.elim
theorem Rel.freeze {G0 G : Gh} {H0 H : Hp} {σ : L2.St} {S : S} {i : Nat} {d : D} (R : Rel G0 H0 G H σ S) (e : S[i]? = some (some (.own d))) : ∃ G', Rel G0 H0 G' H σ (S.set i (some (.tr d))) ∧ Mono G G' := by
  obtain ⟨v, e1, r⟩ := R.slot i _ e
  obtain ⟨a, rfl, hn, hF, hb, c⟩ := r
  obtain ⟨o, ho, no, rd⟩ := c.obj hF
  have m : Mono G ⟨upd G.F a o, G.pb, G.T⟩ := upd_mono hF
  have hne : ∀ (j : Nat) (sv : SV) (u : V) (b : Addr), i ≠ j → S[j]? = some (some sv) → σ[j]? = some (some u) → Owns H u sv b → b ≠ a := fun j sv u b hij ej eu ob z => R.sep i j _ sv _ u b hij e ej e1 eu (show V.ref a = .ref b by rw [z]) ob
  refine ⟨⟨upd G.F a o, G.pb, G.T⟩, ⟨ext_freeze R.ext hn ho hF hb no, by rw [List.length_set]; exact R.len, fun j sv ej => ?_, fun j l sj sl u w b hjl e2 e3 e4 e5 o1 o2 => ?_, fun j d ej => ?_⟩, m⟩
  · rcases set_slot ej with ⟨rfl, ej, _⟩ | ⟨hij, ej⟩
    · cases ej
      exact ⟨_, e1, rd⟩
    · obtain ⟨u, e6, r6⟩ := R.slot j sv ej
      refine ⟨u, e6, ?_⟩
      have keep : ∀ b, Owns H u sv b → Mine H0 ⟨upd G.F a o, G.pb, G.T⟩ b ∧ H b = H b := fun b ob => by
        obtain ⟨⟨q1, q2, q3⟩, _⟩ := r6.owns ob
        exact ⟨⟨q1, by show upd G.F a o b = none; rw [upd_ne (hne j sv u b hij ej e6 ob)]; exact q2, q3⟩, rfl⟩
      have okj := R.nopk j sv ej
      cases sv with
      | tr d' => exact rep.mono m _ _ r6
      | exc a' C d fs => obtain ⟨e, ws, h1, h2⟩ := r6; exact ⟨e, ws, m _ _ h1, repf.mono m _ _ h2⟩
      | tz ds => obtain ⟨b, o', vs, e, h0, h1, h2⟩ := r6; exact ⟨b, o', vs, e, h0, m _ _ h1, reps.mono m _ _ h2⟩
      | fn f => exact r6
      | own d' => exact r6.at (fun _ => nofun) (fun _ => nofun) nofun (fun _ _ => nofun) (fun _ _ => nofun) m keep
      | obj q C fs => exact r6.at (fun _ => nofun) (fun _ => nofun) nofun (fun _ _ => nofun) (fun _ _ => nofun) m keep
      | brw d' => obtain ⟨b, rfl, q1, q2, q3⟩ := r6; exact ⟨b, rfl, q1, q2, q3.mono m⟩
      | pk d' => exact okj.elim
      | bag => exact r6
      | pob C fs => exact okj.elim
      | bob C fs =>
        obtain ⟨b, dx, ws, q1, q2, q3, q4, q5⟩ := r6
        exact ⟨b, dx, ws, q1, q2, q3, q4, q5.mono m⟩
  · rcases set_slot e2 with ⟨rfl, e2, _⟩ | ⟨hne, e2⟩
    · cases e2
      exact o1.elim
    · rcases set_slot e3 with ⟨rfl, e3, _⟩ | ⟨hne', e3⟩
      · cases e3
        exact o2.elim
      · exact R.sep j l sj sl u w b hjl e2 e3 e4 e5 o1 o2
  · rcases set_slot ej with ⟨rfl, ej, _⟩ | ⟨hne, ej⟩
    · cases ej
      exact trivial
    · exact R.nopk j d ej
/-- the object of slot i is changed -/
theorem Rel.write {G0 G : Gh} {H0 H : Hp} {σ : L2.St} {S : S} {i : Nat} {d d' : D} {a : Addr} {o : HO} (R : Rel G0 H0 G H σ S) (e : S[i]? = some (some (.own d))) (ea : σ[i]? = some (some (.ref a))) (hc : cont G.F (upd H a o) a d') :
    Rel G0 H0 G (upd H a o) σ (S.set i (some (.own d'))) := by
  obtain ⟨v, e1, r⟩ := R.slot i _ e
  rw [ea] at e1
  cases e1
  obtain ⟨a', e2, hn, hF, hb, c⟩ := r
  cases e2
  have hne : ∀ (j : Nat) (sv : SV) (u : V) (b : Addr), i ≠ j → S[j]? = some (some sv) → σ[j]? = some (some u) → Owns H u sv b → b ≠ a := fun j sv u b hij ej eu ob z => R.sep i j _ sv _ u b hij e ej ea eu (show V.ref a = .ref b by rw [z]) ob
  have off : ∀ b, b ≠ a → ∀ u, H b = some u → upd H a o b = some u := fun b hba u h => by rw [upd_ne hba]; exact h
  refine ⟨ext_write R.ext hn hF hb o c.plain, by rw [List.length_set]; exact R.len, fun j sv ej => ?_, fun j l sj sl u w b hjl e2 e3 e4 e5 o1 o2 => ?_, fun j d ej => ?_⟩
  · rcases set_slot ej with ⟨rfl, ej, _⟩ | ⟨hij, ej⟩
    · cases ej
      exact ⟨_, ea, a, rfl, hn, hF, hb, hc⟩
    · obtain ⟨u, e6, r6⟩ := R.slot j sv ej
      refine ⟨u, e6, ?_⟩
      have keep : ∀ b, Owns H u sv b → Mine H0 G b ∧ upd H a o b = H b := fun b ob => ⟨(r6.owns ob).1, upd_ne (hne j sv u b hij ej e6 ob)⟩
      have okj := R.nopk j sv ej
      cases sv with
      | tr d' => exact r6
      | exc a' C d fs => exact r6
      | tz ds => exact r6
      | fn f => exact r6
      | own d' => exact r6.at (fun _ => nofun) (fun _ => nofun) nofun (fun _ _ => nofun) (fun _ _ => nofun) (fun _ _ z => z) keep
      | obj q C fs => exact r6.at (fun _ => nofun) (fun _ => nofun) nofun (fun _ _ => nofun) (fun _ _ => nofun) (fun _ _ z => z) keep
      | brw d' => obtain ⟨b, rfl, q1, q2, q3⟩ := r6; exact ⟨b, rfl, q1, q2, q3.off (a := a) (off b fun z => q1 (by rw [z]; exact hn))⟩
      | pk d' => exact okj.elim
      | bag => exact r6
      | pob C fs => exact okj.elim
      | bob C fs =>
        obtain ⟨b, dx, ws, q1, q2, q3, q4, q5⟩ := r6
        exact ⟨b, dx, ws, q1, q2, off b (fun z => q2 (by rw [z]; exact hn)) _ q3, q4, q5.off fun b h => off b fun z => h (by rw [z]; exact hn)⟩
  · have back : ∀ (j : Nat) (sj : SV) (u : V) (b : Addr), (S.set i (some (.own d')))[j]? = some (some sj) → σ[j]? = some (some u) → Owns (upd H a o) u sj b → ∃ sj', S[j]? = some (some sj') ∧ Owns H u sj' b := fun j sj u b ej eu ob => by
      rcases set_slot ej with ⟨rfl, ej, _⟩ | ⟨hij, ej⟩
      · cases ej
        exact ⟨_, e, ob⟩
      · obtain ⟨u', e6, r6⟩ := R.slot j sj ej
        rw [eu] at e6
        cases e6
        exact ⟨sj, ej, ob.at r6 fun b ob => upd_ne (hne j sj u b hij ej eu ob)⟩
    obtain ⟨s1, e2, o1⟩ := back j sj u b e2 e4 o1
    obtain ⟨s2, e3, o2⟩ := back l sl w b e3 e5 o2
    exact R.sep j l s1 s2 u w b hjl e2 e3 e4 e5 o1 o2
  · rcases set_slot ej with ⟨rfl, ej, _⟩ | ⟨hne, ej⟩
    · cases ej
      exact trivial
    · exact R.nopk j d ej
section
variable {X : Cx} {EX : EXT} {st : Stmt} {g : GS} {ge : GE} {pos : Pos}
/-- ahead of a statement slot i's object is let go of -/
@[simp] def gFzS (i : Nat) (g : GS) : GS := fun D S => ∃ d, S[i]? = some (some (.own d)) ∧ g D (S.set i (some (.tr d)))
theorem vs_fz (i : Nat) (h : VS X EX st g) : VS X EX st (gFzS i g) :=
  ⟨fun G0 H0 tk => psMono (h.ps G0 H0 tk) fun D σ H ⟨G, S, DV, R, ⟨d, e, q⟩, k⟩ => let ⟨G', R', m⟩ := R.freeze e; ⟨G', _, DV, R', q, k.go m⟩⟩
/-- x.append(e), x.insert(k, e), x.extend(e): slot i -/
@[simp] def gMutL (i : Nat) (ga : GA) (f : List VT.D → List SV → (List VT.D → Prop) → Prop) : GS := fun D S => ∃ ds0, S[i]? = some (some (.own (.lst ds0))) ∧ ga S fun svs => ∃ ds, S[i]? = some (some (.own (.lst ds))) ∧ f ds svs fun es => D.nx (S.set i (some (.own (.lst es))))
theorem mutL {name : Str} {id : String} {e : Expr} {es : List Expr} {ga : GA} {f : List VT.D → List SV → (List VT.D → Prop) → Prop} {apos cpos p : Pos} {x : Str} (i : Nat) (hN : X.N[i]? = some x) (hv : Vis X.env.scope x) (hd : (x == ("__debug__" : Str)) = false) (hcd : (x == ("__classdict__" : Str)) = false)
    (slot : Slot "list" name id) (hty : typeOf (.builtin id) = pure (.type "method_descriptor"))
    (hm : ∀ (G : Gh) (H H0 Hs : Hp) (a : Addr) (ds : List VT.D) (vs ws : List V) (svs : List SV) (Q : Hp → Prop) (F : List VT.D → Prop), OkG G H → H a = some (.lst vs) → reps G.F ds vs → RepL H0 Hs G H ws svs → f ds svs F → (∀ es us, F es → reps G.F es us → Q (upd H a (.lst us))) → ∃ r, MtR X id r ∧ r (.ref a) ws H (fun _ H' => Q H'))
    (ha : VA X EX (e :: es) ga) (hbase : attributeBase (.Name x p) name X.env (eval (.Name x p) X.env) = eval (.Name x p) X.env := by rfl)
    (hfew : ((backTo cpos (starEach (e :: es) X.env)).all (fun x => !x.1) && (backToKw cpos (keywordEach [] X.env)).all (fun x => x.1.isSome)
      && decide ((e :: es).length + ([] : List Keyword).length + (if ([] : List Keyword).isEmpty then 0 else 1) < 30)) = true := by rfl)
    (hline : (apos.endLine == cpos.line) = true := by rfl) (hs : starEach (e :: es) X.env = (false, eval e X.env) :: starEach es X.env := by rfl) (hplain : (backTo cpos (starEach es X.env)).any (·.1) = false := by rfl) (hsw : swapsWith (.Call (.Attribute (.Name x p) name apos) (e :: es) [] cpos) none pos.line X.env = pure false := by rfl) :
    VS X EX (.Expr (.Call (.Attribute (.Name x p) name apos) (e :: es) [] cpos) pos) (gMutL i ga f) := by
  refine ⟨fun G0 H0 tk => psMono (ps_expr (pe_bm PySem.F.plainAttrs_list slot hty mtr_any (pe_var hN hv hd hcd) (ha.pa G0 H0 tk) hbase hfew hline hs hplain) hsw) fun D σ H ⟨G, S, DV, R, ⟨ds0, e0, q⟩, k⟩ => ?_⟩
  obtain ⟨v, e1, r⟩ := R.slot i _ e0
  obtain ⟨a, rfl, hn, hF, hb, vs0, ea0, _⟩ := r
  refine ⟨.ref a, e1, .inl ⟨rfl, vs0, .of ea0⟩, G, S, _, R, q, fun ws H1 G1 svs E1 r1 q1 => ?_⟩
  obtain ⟨ds, e2, q1⟩ := q1
  have R1 := R.go E1
  obtain ⟨v', e3, r3⟩ := R1.slot i _ e2
  rw [e1] at e3
  cases e3
  obtain ⟨a', ea', hn1, hF1, hb1, vs, ea, rv⟩ := r3
  cases ea'
  refine hm G1 H1 H0 H a ds vs ws svs (fun H' => D.nx σ H') _ E1.ok ea rv r1 q1 fun es us q2 ru => ?_
  exact k.nx _ _ G1 _ (R1.write (a := a) (d' := .lst es) e2 e1 ⟨us, upd_same, ru⟩) E1.frz q2
@[simp] def fAppend (ds : List VT.D) (svs : List SV) (F : List VT.D → Prop) : Prop := ∃ y, svs = [.tr y] ∧ ds.length < sizeLine ∧ F (ds ++ [y])
@[simp] def fInsert (ds : List VT.D) (svs : List SV) (F : List VT.D → Prop) : Prop := ∃ i y, svs = [.tr (.int i), .tr y] ∧ (0 ≤ i ∧ i < 2 ^ 63 ∧ ds.length < sizeLine) ∧ F (ds.take i.toNat ++ [y] ++ ds.drop i.toNat)
@[simp] def fExtend (ds : List VT.D) (svs : List SV) (F : List VT.D → Prop) : Prop := ∃ sv ys, svs = [sv] ∧ sv.d = .lst ys ∧ ds.length + ys.length ≤ sizeLine ∧ F (ds ++ ys)
theorem vs_append {e : Expr} {ga : GA} {apos cpos p : Pos} {x : Str} (i : Nat) (ha : VA X EX [e] ga) (hN : X.N[i]? = some x := by rfl) (hv : Vis X.env.scope x := by first | exact Or.inl rfl | exact Or.inr (Or.inl rfl) | exact Or.inr (Or.inr rfl)) (hd : (x == ("__debug__" : Str)) = false := by decide) (hcd : (x == ("__classdict__" : Str)) = false := by decide)
    (hbase : attributeBase (.Name x p) "append" X.env (eval (.Name x p) X.env) = eval (.Name x p) X.env := by rfl)
    (hfew : ((backTo cpos (starEach [e] X.env)).all (fun x => !x.1) && (backToKw cpos (keywordEach [] X.env)).all (fun x => x.1.isSome)
      && decide (([e] : List Expr).length + ([] : List Keyword).length + (if ([] : List Keyword).isEmpty then 0 else 1) < 30)) = true := by rfl)
    (hline : (apos.endLine == cpos.line) = true := by rfl) (hs : starEach [e] X.env = (false, eval e X.env) :: starEach [] X.env := by rfl) (hsw : swapsWith (.Call (.Attribute (.Name x p) "append" apos) [e] [] cpos) none pos.line X.env = pure false := by rfl) :
    VS X EX (.Expr (.Call (.Attribute (.Name x p) "append" apos) [e] [] cpos) pos) (gMutL i ga fAppend) := by
  refine mutL i hN hv hd hcd PySem.F.slot_list_append PySem.F.type_list_append (fun G H H0 Hs a ds vs ws svs Q F ok ea rv r q k => ?_) ha hbase hfew hline hs rfl hsw
  obtain ⟨y, rfl, hz, q⟩ := q
  cases r with
  | cons ry rr _ =>
    cases rr
    exact ⟨_, mt_append, a, vs, _, rfl, rfl, ea, by rw [rv.length]; exact hz, k _ _ q (rv.append (es := [y]) ⟨_, [], rfl, ry, rfl⟩)⟩
theorem vs_insert {e e2 : Expr} {ga : GA} {apos cpos p : Pos} {x : Str} (i : Nat) (ha : VA X EX [e, e2] ga) (hN : X.N[i]? = some x := by rfl) (hv : Vis X.env.scope x := by first | exact Or.inl rfl | exact Or.inr (Or.inl rfl) | exact Or.inr (Or.inr rfl)) (hd : (x == ("__debug__" : Str)) = false := by decide) (hcd : (x == ("__classdict__" : Str)) = false := by decide)
    (hbase : attributeBase (.Name x p) "insert" X.env (eval (.Name x p) X.env) = eval (.Name x p) X.env := by rfl)
    (hfew : ((backTo cpos (starEach [e, e2] X.env)).all (fun x => !x.1) && (backToKw cpos (keywordEach [] X.env)).all (fun x => x.1.isSome)
      && decide (([e, e2] : List Expr).length + ([] : List Keyword).length + (if ([] : List Keyword).isEmpty then 0 else 1) < 30)) = true := by rfl)
    (hline : (apos.endLine == cpos.line) = true := by rfl) (hs : starEach [e, e2] X.env = (false, eval e X.env) :: starEach [e2] X.env := by rfl) (hplain : (backTo cpos (starEach [e2] X.env)).any (·.1) = false := by rfl) (hsw : swapsWith (.Call (.Attribute (.Name x p) "insert" apos) [e, e2] [] cpos) none pos.line X.env = pure false := by rfl) :
    VS X EX (.Expr (.Call (.Attribute (.Name x p) "insert" apos) [e, e2] [] cpos) pos) (gMutL i ga fInsert) := by
  refine mutL i hN hv hd hcd PySem.F.slot_list_insert PySem.F.type_list_insert (fun G H H0 Hs a ds vs ws svs Q F ok ea rv r q k => ?_) ha hbase hfew hline hs hplain hsw
  obtain ⟨j, y, rfl, ⟨h0, h1, hz⟩, q⟩ := q
  cases r with
  | cons rj rr _ =>
    cases rr with
    | cons ry rr _ =>
      cases rr
      have ej : _ = V.int j := rj
      subst ej
      exact ⟨_, mt_insert, a, vs, j, _, rfl, rfl, ea, by rw [rv.length]; exact hz, h0, h1, k _ _ q (((rv.take _).append (es := [y]) ⟨_, [], rfl, ry, rfl⟩).append (rv.drop _))⟩
theorem vs_extend {e : Expr} {ga : GA} {apos cpos p : Pos} {x : Str} (i : Nat) (ha : VA X EX [e] ga) (hN : X.N[i]? = some x := by rfl) (hv : Vis X.env.scope x := by first | exact Or.inl rfl | exact Or.inr (Or.inl rfl) | exact Or.inr (Or.inr rfl)) (hd : (x == ("__debug__" : Str)) = false := by decide) (hcd : (x == ("__classdict__" : Str)) = false := by decide)
    (hbase : attributeBase (.Name x p) "extend" X.env (eval (.Name x p) X.env) = eval (.Name x p) X.env := by rfl)
    (hfew : ((backTo cpos (starEach [e] X.env)).all (fun x => !x.1) && (backToKw cpos (keywordEach [] X.env)).all (fun x => x.1.isSome)
      && decide (([e] : List Expr).length + ([] : List Keyword).length + (if ([] : List Keyword).isEmpty then 0 else 1) < 30)) = true := by rfl)
    (hline : (apos.endLine == cpos.line) = true := by rfl) (hs : starEach [e] X.env = (false, eval e X.env) :: starEach [] X.env := by rfl) (hsw : swapsWith (.Call (.Attribute (.Name x p) "extend" apos) [e] [] cpos) none pos.line X.env = pure false := by rfl) :
    VS X EX (.Expr (.Call (.Attribute (.Name x p) "extend" apos) [e] [] cpos) pos) (gMutL i ga fExtend) := by
  refine mutL i hN hv hd hcd PySem.F.slot_list_extend PySem.F.type_list_extend (fun G H H0 Hs a ds vs ws svs Q F ok ea rv r q k => ?_) ha hbase hfew hline hs rfl hsw
  obtain ⟨sv, ys, rfl, hd, hz, q⟩ := q
  cases r with
  | cons ry rr _ =>
    cases rr
    obtain ⟨b, zs, rfl, eb, rz⟩ := ry.lst ok hd
    exact ⟨_, mt_extend, a, b, vs, zs, rfl, rfl, ea, eb, by rw [rv.length, rz.length]; exact hz, k _ _ q (rv.append rz)⟩
/-- x[k] = e: slot i -/
@[simp] def gPutL (i : Nat) (ge gk : GE) : GS := fun D S => ge S fun sv => ∃ y ds, sv = .tr y ∧ S[i]? = some (some (.own (.lst ds))) ∧ gk S fun sk => ∃ k j, sk.d = .int k ∧ ixN ds.length k = some j ∧ D.nx (S.set i (some (.own (.lst (ds.set j y)))))
theorem vs_putL {e ke : Expr} {gk : GE} {p spos : Pos} {x : Str} (i : Nat) (he : VE X EX e ge) (hk : VE X EX ke gk) (hN : X.N[i]? = some x := by rfl) (hv : Vis X.env.scope x := by first | exact Or.inl rfl | exact Or.inr (Or.inl rfl) | exact Or.inr (Or.inr rfl)) (hd : (x == ("__debug__" : Str)) = false := by decide) (hcd : (x == ("__classdict__" : Str)) = false := by decide)
    (ha : ∀ v, assign (.Subscript (.Name x p) ke spos) X.env v = (do
      let ov ← holding [v] (eval (.Name x p) X.env)
      let iv ← holding [v, ov] (eval ke X.env)
      standAt spos
      holding [v, ov, iv] (setItem ov iv v)
      release [v, ov, iv] []) := by intro _; rfl)
    (hs : swapsWithSole [.Subscript (.Name x p) ke spos] e pos.line X.env = pure false := by rfl) (hw : swappedStores [.Subscript (.Name x p) ke spos] e X.env = pure none := by rfl)
    (h1 : (assignEach [.Subscript (.Name x p) ke spos] X.env).map (·.2) = [assign (.Subscript (.Name x p) ke spos) X.env] := by rfl) :
    VS X EX (.Assign [.Subscript (.Name x p) ke spos] e pos) (gPutL i ge gk) := by
  refine ⟨fun G0 H0 tk => psMono (ps_asg (he.pe G0 H0 tk) (pg_sub (pe_var hN hv hd hcd) (hk.pe G0 H0 tk) set_list ha) hs hw h1) fun D σ H ⟨G, S, DV, R, q, k⟩ => ?_⟩
  refine ⟨G, S, _, R, q, fun v H1 G1 sv E1 r1 q1 => ?_⟩
  obtain ⟨y, ds, rfl, e0, q1⟩ := q1
  obtain ⟨u, e1, r⟩ := R.slot i _ e0
  refine ⟨u, e1, G1, S, _, R.go E1, q1, fun sk H2 G2 ssk E2 r2 q2 => ?_⟩
  obtain ⟨n, j, hn, hj, q2⟩ := q2
  have R2 := (R.go E1).go E2
  obtain ⟨u', e3, r3⟩ := R2.slot i _ e0
  rw [e1] at e3
  cases e3
  obtain ⟨a, rfl, _, _, _, vs, ea, rv⟩ := r3
  refine ⟨a, vs, n, j, rfl, r2.int hn, ea, by rw [rv.length]; exact hj, ?_⟩
  exact k.nx _ _ G2 _ (R2.write (a := a) (d' := .lst (ds.set j y)) e0 e1 ⟨_, upd_same, rv.set j (rep.mono E2.frz _ _ r1)⟩) (fun b o h => E2.frz b o (E1.frz b o h)) q2
end
end VT

namespace VT
open PySem PySem.Spec PyProof.Rows L2

/-! ### a, b, c = x, y, z -/
def setV : List Nat → List V → L2.St → L2.St
  | i :: is, v :: vs, σ => setV is vs (σ.set i (some v))
  | _, _, σ => σ
@[simp] def setS : List Nat → List SV → S → S
  | i :: is, v :: vs, S => setS is vs (S.set i (some v))
  | _, _, S => S
theorem Rel.setAll {G0 G : Gh} {H0 H Hs : Hp} (h0 : ∀ b, Hs b = none → H0 b = none) : ∀ (is : List Nat) {vs : List V} {svs : List SV} {σ : L2.St} {S : S}, RepL H0 Hs G H vs svs → Rel G0 H0 G H σ S → (∀ sv ∈ svs, sv.ok) → is.length = svs.length → is.Nodup →
    (∀ b, OwnsL H vs svs b → ∀ (j : Nat) (sw : SV) (w : V), S[j]? = some (some sw) → σ[j]? = some (some w) → ¬ Owns H w sw b) → Rel G0 H0 G H (setV is vs σ) (setS is svs S)
  | [], _, _, _, _, .nil, R, _, _, _, _ => R
  | i :: is, _, _, σ, S, .cons (v := v) (sv := sv) (vs := vs) (svs := svs) r t n, R, hok, hl, nd, ho => by
    rw [List.nodup_cons] at nd
    refine Rel.setAll h0 is t (R.set i r (hok _ (by simp)) h0 fun j sw w b hj e3 e4 o1 => ho b (.inl o1) j sw w e3 e4) (fun sv h => hok sv (by simp [h])) (by simpa using hl) nd.2 fun b ob j sw w e1 e2 => ?_
    rcases set_slot e1 with ⟨rfl, e1, hl'⟩ | ⟨hne, e1⟩
    · rw [List.getElem?_set_self (by rw [← R.len]; exact hl')] at e2
      cases e1
      cases e2
      exact fun o => n b o ob
    · rw [List.getElem?_set_ne hne] at e2
      exact ho b (.inr ob) j sw w e1 e2
  | _ :: _, _, _, _, _, .nil, _, _, hl, _, _ => by simp at hl
  | [], _, _, _, _, .cons _ _ _, _, _, hl, _, _ => by simp at hl
@[simp] def gPar (is : List Nat) (ga : GA) : GS := fun D S => ga S fun svs => (∀ sv ∈ svs, sv.ok) ∧ is.length = svs.length ∧ D.nx (setS is svs S)
section
variable {X : Cx} {EX : EXT} {pos : Pos} {ga : GA}
theorem parEnd {G0 G G1 : Gh} {H0 H H1 : Hp} {σ : L2.St} {S : S} {is : List Nat} {vs : List V} {svs : List SV} (R : Rel G0 H0 G H σ S) (E1 : Ext G H G1 H1) (r1 : RepL H0 H G1 H1 vs svs) (hok : ∀ sv ∈ svs, sv.ok) (hl : is.length = svs.length) (nd : is.Nodup) :
    Rel G0 H0 G1 H1 (setV is vs σ) (setS is svs S) := by
  refine Rel.setAll (fun b z => R.ext.dom z) is r1 (R.go E1) hok hl nd fun b ob j sw w e1 e2 o => ?_
  obtain ⟨w', e3, r3⟩ := R.slot j sw e1
  rw [e2] at e3
  cases e3
  exact (r3.owns (o.at r3 fun b o => (E1.mine (r3.owns o).1 (r3.owns o).2).2)).2.ne (r1.owns ob).1.1
theorem repl_pair {H0 Hs : Hp} {G : Gh} {H : Hp} {vs : List V} {x y : SV} (r : RepL H0 Hs G H vs [x, y]) : ∃ v w, vs = [v, w] := by
  cases r with
  | cons _ t _ => cases t with
    | cons _ t _ => cases t; exact ⟨_, _, rfl⟩
theorem repl_trip {H0 Hs : Hp} {G : Gh} {H : Hp} {vs : List V} {x y z : SV} (r : RepL H0 Hs G H vs [x, y, z]) : ∃ u v w, vs = [u, v, w] := by
  cases r with
  | cons _ t _ => cases t with
    | cons _ t _ => cases t with
      | cons _ t _ => cases t; exact ⟨_, _, _, rfl⟩
theorem vs_par2 {i j : Nat} {x y : Str} {a b : Expr} {px py pt : Pos} {kt k2 pt2} (hc : X.calm = true) (hN : X.N.Nodup) (hi : X.N[i]? = some x) (hj : X.N[j]? = some y) (hij : i ≠ j)
    (hx : X.env.scope.names.lookup x = some .local) (hy : X.env.scope.names.lookup y = some .local) (ha : VA X EX [a, b] ga)
    (hw : swappedStores [.Tuple [.Name x px, .Name y py] kt pt] (.Tuple [a, b] k2 pt2) X.env = pure (some [x, y]))
    (hs : swapsWithSole [.Tuple [.Name x px, .Name y py] kt pt] (.Tuple [a, b] k2 pt2) pos.line X.env = pure false := by rfl) :
    VS X EX (.Assign [.Tuple [.Name x px, .Name y py] kt pt] (.Tuple [a, b] k2 pt2) pos) (gPar [i, j] ga) := by
  refine ⟨fun G0 H0 tk => psMono (ps_par hc hN hi hj hij hx hy (ha.pa G0 H0 tk) hw hs) fun D σ H ⟨G, S, DV, R, q, k⟩ => ?_⟩
  refine ⟨G, S, _, R, q, fun vs H1 G1 svs E1 r1 q1 => ?_⟩
  obtain ⟨hok, hl, q1⟩ := q1
  match svs, hl with
  | [s1, s2], hl =>
    obtain ⟨v, w, rfl⟩ := repl_pair r1
    exact ⟨v, w, rfl, k.nx _ _ _ _ (parEnd (is := [i, j]) R E1 r1 hok hl (by simp [hij])) E1.frz q1⟩
theorem vs_par3 {i j l : Nat} {x y z : Str} {a b c : Expr} {px py pz pt : Pos} {kt k2 pt2} (hc : X.calm = true) (hN : X.N.Nodup) (hi : X.N[i]? = some x) (hj : X.N[j]? = some y) (hl : X.N[l]? = some z) (hij : i ≠ j) (hil : i ≠ l) (hjl : j ≠ l)
    (hx : X.env.scope.names.lookup x = some .local) (hy : X.env.scope.names.lookup y = some .local) (hz : X.env.scope.names.lookup z = some .local) (ha : VA X EX [a, b, c] ga)
    (hw : swappedStores [.Tuple [.Name x px, .Name y py, .Name z pz] kt pt] (.Tuple [a, b, c] k2 pt2) X.env = pure (some [x, y, z]))
    (hs : swapsWithSole [.Tuple [.Name x px, .Name y py, .Name z pz] kt pt] (.Tuple [a, b, c] k2 pt2) pos.line X.env = pure false := by rfl) :
    VS X EX (.Assign [.Tuple [.Name x px, .Name y py, .Name z pz] kt pt] (.Tuple [a, b, c] k2 pt2) pos) (gPar [i, j, l] ga) := by
  refine ⟨fun G0 H0 tk => psMono (ps_par3 hc hN hi hj hl hij hil hjl hx hy hz (ha.pa G0 H0 tk) hw hs) fun D σ H ⟨G, S, DV, R, q, k⟩ => ?_⟩
  refine ⟨G, S, _, R, q, fun vs H1 G1 svs E1 r1 q1 => ?_⟩
  obtain ⟨hok, hl, q1⟩ := q1
  match svs, hl with
  | [s1, s2, s3], hl =>
    obtain ⟨u, v, w, rfl⟩ := repl_trip r1
    exact ⟨u, v, w, rfl, k.nx _ _ _ _ (parEnd (is := [i, j, l]) R E1 r1 hok hl (by simp [hij, hil, hjl])) E1.frz q1⟩
/-- names, stored from the left out of a tuple -/
structure VNs (X : Cx) (ts : List Expr) (is : List Nat) : Prop where
  pgs : PGs X ts (fun vs σ H Q => vs.length = is.length ∧ Q (setV is vs σ) H)
theorem vns_nil : VNs X [] [] := ⟨⟨fun pins s σ H vs us Q I r ⟨hl, q⟩ => by
  have e : vs = [] := List.eq_nil_of_length_eq_zero hl
  subst e
  exact pgs_nil.run pins s σ H [] us Q I r ⟨rfl, q⟩⟩⟩
theorem vns_cons {i : Nat} {is : List Nat} {x : Str} {es : List Expr} {p : Pos} (hN : X.N.Nodup) (hi : X.N[i]? = some x) (hx : Loc X.env.scope x) (h2 : VNs X es is) (hf : X.fn x = true ∨ X.env.scope.names.lookup x = some .local := by first | exact .inl rfl | exact .inr rfl | assumption)
    (hs : (assignEach (.Name x p :: es) X.env).map (·.2) = assign (.Name x p) X.env :: (assignEach es X.env).map (·.2) := by rfl) : VNs X (.Name x p :: es) (i :: is) :=
  ⟨⟨fun pins s σ H vs us Q I r ⟨hl, q⟩ => by
    cases vs with
    | nil => cases hl
    | cons v vs => exact (pgs_cons (pg_name hN hi hx hf) h2.pgs hs).run pins s σ H (v :: vs) us Q I r ⟨v, vs, rfl, by simpa using hl, q⟩⟩⟩
theorem vs_parT {es ts : List Expr} {is : List Nat} {kt k2 : Nat} {pt pt2 : Pos} (hc : X.calm = true) (nd : is.Nodup) (ha : VA X EX es ga) (hn : VNs X ts is) (hz : is.length ≤ sizeLine := by decide) (h1 : (assignEach ts X.env).length = is.length := by rfl) (h2 : (assignEach ts X.env).findIdx? (·.1) = none := by rfl)
    (hw : swappedStores [.Tuple ts kt pt] (.Tuple es k2 pt2) X.env = pure none := by rfl)
    (hs : swapsWithSole [.Tuple ts kt pt] (.Tuple es k2 pt2) pos.line X.env = pure false := by rfl) (h3 : (assignEach [.Tuple ts kt pt] X.env).map (·.2) = [assign (.Tuple ts kt pt) X.env] := by rfl) :
    VS X EX (.Assign [.Tuple ts kt pt] (.Tuple es k2 pt2) pos) (gPar is ga) := by
  refine ⟨fun G0 H0 tk => psMono (ps_asg (pe_tup (ha.pa G0 H0 tk)) (pg_tup hc hn.pgs h1 h2) hs hw h3) fun D σ H ⟨G, S, DV, R, q, k⟩ => ?_⟩
  refine ⟨G, S, _, R, q, fun vs H1 G1 svs E1 r1 q1 => ?_⟩
  obtain ⟨hok, hl, q1⟩ := q1
  have hlen := r1.length
  refine ⟨by rw [hlen, ← hl]; exact hz, fun p hp => ⟨p, vs, rfl, .of upd_same, by rw [hlen, hl], by rw [hlen, hl], ?_⟩⟩
  have E2 := ext_new E1.ok hp (.tup vs)
  exact k.nx _ _ _ _ (parEnd R (E1.trans E2) (r1.ext E2) hok hl nd) (fun b o h => E2.frz b o (E1.frz b o h)) q1
end

/-! ### defs -/
/-- what a def answers: its arguments as they are held, and what is wanted of its result -/
abbrev FSp := List SV → (SV → Prop) → Prop
def SV.isArg : SV → Prop
  | .tr _ => True
  | .brw _ => True
  | .bag => True
  | .bob _ _ => True
  | .exc _ _ _ _ => True
  | .fn _ => True
  | _ => False
def SV.arg : SV → SV
  | .own d => .brw d
  | .pk d => .brw d
  | .obj _ C fs => .bob C fs
  | .pob C fs => .bob C fs
  | .tz ds => .tr (.tup ds)
  | sv => sv
theorem SV.isArg.none {sv : SV} (h : sv.isArg) {H : Hp} {v : V} {b : Addr} : ¬ Owns H v sv b := by
  cases sv <;> first | exact h.elim | exact fun o => o.elim
/-- what a call gave, held by the caller -/
theorem RepV.call {H0 H Hs G' H' v} {sv : SV} (h : ∀ b, H b = Option.none → Hs b = Option.none) (ir : sv.isRet) (r : RepV H H G' H' v sv) : RepV H0 Hs G' H' v sv := by
  have r2 := r.back h
  cases sv <;> first | exact ir.elim | exact r2
def spV (K : PySem.W.Frag) (F : FSp) : Sp := fun vs H Q _ => ∃ G svs Qs, (OkG G H ∧ G.T = TabsOf K) ∧ RepL H H G H vs svs ∧ (∀ sv ∈ svs, sv.isArg) ∧ F svs Qs ∧ ∀ v H' G' sv, Ext G H G' H' → RepV H H G' H' v sv → sv.isRet → Qs sv → Q v H'
theorem RepV.toArg {H0 Hs : Hp} {G : Gh} {H : Hp} {v : V} {sv : SV} (r : RepV H0 Hs G H v sv) : RepV H H G H v sv.arg ∧ sv.arg.isArg := by
  cases sv with
  | tr d => exact ⟨r, trivial⟩
  | own d => obtain ⟨a, e, _, _, nb, c⟩ := r; exact ⟨⟨a, e, c.there, nb, c⟩, trivial⟩
  | brw d => obtain ⟨a, e, _, nb, c⟩ := r; exact ⟨⟨a, e, c.there, nb, c⟩, trivial⟩
  | pk d => obtain ⟨a, e, nb, c⟩ := r; exact ⟨⟨a, e, c.there, nb, c⟩, trivial⟩
  | bag => exact ⟨r, trivial⟩
  | obj q C fs =>
    obtain ⟨a, dx, ws, e, ea, _, h1, _, _, rf, _⟩ := r
    exact ⟨⟨a, dx, ws, e, by rw [ea]; simp, ea, h1.2.2, rf.peek.imp fun b h _ => h⟩, trivial⟩
  | pob C fs =>
    obtain ⟨a, dx, ws, e, ea, nb, rf⟩ := r
    exact ⟨⟨a, dx, ws, e, by rw [ea]; simp, ea, nb, rf.imp fun b h _ => h⟩, trivial⟩
  | bob C fs =>
    obtain ⟨a, dx, ws, e, h0, ea, nb, rf⟩ := r
    exact ⟨⟨a, dx, ws, e, by rw [ea]; simp, ea, nb, rf.imp fun b h _ => h⟩, trivial⟩
  | exc a C d fs => exact ⟨r, trivial⟩
  | fn f => exact ⟨r, trivial⟩
  | tz ds => exact ⟨(let ⟨a, o, vs, e1, _, e2, r⟩ := r; ⟨a, vs, e1, .inr ⟨o, e2⟩, r⟩), trivial⟩
theorem RepL.toArg {H0 Hs : Hp} {G : Gh} {H : Hp} : ∀ {vs : List V} {svs : List SV}, RepL H0 Hs G H vs svs → RepL H H G H vs (svs.map SV.arg) ∧ ∀ sv ∈ svs.map SV.arg, sv.isArg
  | _, _, .nil => ⟨.nil, fun _ h => nomatch h⟩
  | _, _, .cons (sv := sv) r t n => by
    obtain ⟨h1, h2⟩ := RepL.toArg t
    obtain ⟨h3, h4⟩ := r.toArg
    refine ⟨.cons h3 h1 fun b o => (h4.none o).elim, fun s h => ?_⟩
    · rcases List.mem_cons.mp h with rfl | h
      · exact h4
      · exact h2 s h
theorem RepL.append {H0 Hs : Hp} {G : Gh} {H : Hp} {vs ws : List V} {svs sws : List SV} (h : RepL H0 Hs G H vs svs) (k : RepL H0 Hs G H ws sws) (ha : ∀ sv ∈ svs, sv.isArg) : RepL H0 Hs G H (vs ++ ws) (svs ++ sws) := by
  induction h with
  | nil => exact k
  | @cons v sv vs svs r t n ih =>
    exact .cons r (ih fun s h => ha s (List.mem_cons_of_mem _ h)) fun b o => ((ha sv List.mem_cons_self).none o).elim
/-- values that are written: a def's defaults -/
def wrt : D → V → Prop
  | .non, v => v = .non
  | .bl b, v => v = .bl b
  | .int i, v => v = .int i
  | .str x, v => v = .str x ∧ okS x
  | _, _ => False
inductive Wrts : List D → List V → Prop
  | nil : Wrts [] []
  | cons {d : D} {v : V} {ds : List D} {vs : List V} : wrt d v → Wrts ds vs → Wrts (d :: ds) (v :: vs)
theorem wrt.rep {d : D} {v : V} {F : Hp} (h : wrt d v) : rep F d v := by
  cases d <;> first | exact h | exact h.elim
theorem Wrts.repl {G : Gh} {H0 H Hs : Hp} : ∀ {ds : List D} {vs : List V}, Wrts ds vs → RepL H0 Hs G H vs (ds.map SV.tr)
  | _, _, .nil => .nil
  | _, _, .cons h t => .cons h.rep t.repl fun _ o => o.elim
@[simp] def gCall (F : FSp) (dd : List D) (ga : GA) : GE := fun S Q => ga S fun svs => F (svs.map SV.arg ++ dd.map SV.tr) Q
/-- the tables are those of the start -/
theorem Lk.tt {X : Cx} {EX : EXT} {G0 G G1 : Gh} {H0 H H1 : Hp} {σ : L2.St} {S : S} (l : Lk X EX G0 H0) (R : Rel G0 H0 G H σ S) (E : Ext G H G1 H1) : G1.T = TabsOf X.K := E.tt.trans (R.ext.tt.trans l.tabs)
section
variable {X : Cx} {EX : EXT} {k : Nat} {f : Addr} {fd : FuncData} {ps : List Str} {F : FSp} {dd : List D} {dvs : List V} {ds : List Value} {x : Str} {p pos : Pos} {e : Expr} {es : List Expr} {ga : GA}
theorem call_end {G0 G G1 : Gh} {H0 H H1 : Hp} {Qs : SV → Prop} {Q : VK} {vs : List V} {svs : List SV} (hd : Wrts dd dvs) (hT : G1.T = TabsOf X.K) (E1 : Ext G H G1 H1) (r1 : RepL H0 H G1 H1 vs svs) (q1 : F (svs.map SV.arg ++ dd.map SV.tr) Qs) (kq : KQ H0 G H Qs Q) (E : XK) : spV X.K F (vs ++ dvs) H1 Q E := by
  obtain ⟨a1, a2⟩ := r1.toArg
  refine ⟨G1, _, _, ⟨E1.ok, hT⟩, a1.append hd.repl a2, fun sv h => ?_, q1, fun v H' G' sv E' r' ir q' => ?_⟩
  · rcases List.mem_append.mp h with h | h
    · exact a2 sv h
    · obtain ⟨d, _, rfl⟩ := List.mem_map.mp h
      trivial
  · refine kq v H' G' sv (E1.trans E') ?_ q'
    exact RepV.call (fun b z => E1.dom z) ir r'
theorem ve_call (Fn : FnOk X.prog X.w X.K X.mg X.base CX0 k f fd ps (spV X.K F)) (hr : Room k X.A) (hg : Gl X x) (hm : X.mg x = some (.ref f)) (hk : PySem.W.keepIn X.K (.ref f) = true) (hb : Binds X.K fd ps ds) (hd : Vals dvs ds) (hw : Wrts dd dvs)
    (ha : VA X EX (e :: es) ga) (hdb : (x == ("__debug__" : Str)) = false := by decide) (he : starEach (e :: es) X.env = (false, eval e X.env) :: starEach es X.env := by rfl) (hpl : (backTo pos (starEach es X.env)).any (·.1) = false := by rfl) :
    VE X EX (.Call (.Name x p) (e :: es) [] pos) (gCall F dd ga) :=
  ⟨fun G0 H0 tk => peMono (pe_call Fn hr hg hm hk hb hd pass0 (ha.pa G0 H0 tk) hdb he hpl) fun σ H Q ⟨G, S, Qs, R, q, kq⟩ => ⟨G, S, _, R, q, fun vs H1 G1 svs E1 r1 q1 => call_end (G0 := G0) hw (tk.tt R E1) E1 r1 q1 kq E0⟩⟩
theorem ve_call0 (Fn : FnOk X.prog X.w X.K X.mg X.base CX0 k f fd ps (spV X.K F)) (hr : Room k X.A) (hg : Gl X x) (hm : X.mg x = some (.ref f)) (hk : PySem.W.keepIn X.K (.ref f) = true) (hb : Binds X.K fd ps ds) (hd : Vals dvs ds) (hw : Wrts dd dvs)
    (hdb : (x == ("__debug__" : Str)) = false := by decide) : VE X EX (.Call (.Name x p) [] [] pos) (gCall F dd gaNil) :=
  ⟨fun G0 H0 tk => peMono (pe_call0 Fn hr hg hm hk hb hd pass0 hdb) fun σ H Q ⟨G, S, Qs, R, q, kq⟩ => call_end (vs := []) (G0 := G0) hw (tk.tt R (.refl R.ok)) (.refl R.ok) .nil q kq E0⟩
theorem RepL.get {H0 Hs : Hp} {G : Gh} {H : Hp} : ∀ {vs : List V} {svs : List SV} {i : Nat} {sv : SV}, RepL H0 Hs G H vs svs → svs[i]? = some sv → ∃ v, vs[i]? = some v ∧ RepV H0 Hs G H v sv
  | _, _, 0, _, .cons r t _, e => by cases e; exact ⟨_, rfl, r⟩
  | _, _, i + 1, _, .cons r t _, e => RepL.get (i := i) t e
  | _, _, _, _, .nil, e => by simp at e
/-! ### calls with keywords -/
/-- picked by places -/
@[simp] def arr {α : Type} (ix : List Nat) (l : List α) : List α := ix.filterMap fun i => l[i]?
theorem repl_of {H0 Hs : Hp} {G : Gh} {H : Hp} : ∀ {vs : List V} {svs : List SV}, vs.length = svs.length → (∀ sv ∈ svs, sv.isArg) → (∀ (i : Nat) (v : V) (sv : SV), vs[i]? = some v → svs[i]? = some sv → RepV H0 Hs G H v sv) → RepL H0 Hs G H vs svs
  | [], [], _, _, _ => .nil
  | v :: vs, sv :: svs, hl, ha, h => .cons (h 0 v sv rfl rfl) (repl_of (by simpa using hl) (fun s hs => ha s (List.mem_cons_of_mem _ hs)) fun i v sv e1 e2 => h (i + 1) v sv e1 e2) fun b o => ((ha sv List.mem_cons_self).none o).elim
  | [], _ :: _, hl, _, _ => by simp at hl
  | _ :: _, [], hl, _, _ => by simp at hl
theorem RepL.arr {H0 Hs : Hp} {G : Gh} {H : Hp} {vs : List V} {svs : List SV} (r : RepL H0 Hs G H vs svs) (ha : ∀ sv ∈ svs, sv.isArg) : ∀ ix : List Nat, RepL H0 Hs G H (arr ix vs) (arr ix svs) ∧ ∀ sv ∈ arr ix svs, sv.isArg
  | [] => ⟨.nil, fun _ h => nomatch h⟩
  | i :: ix => by
    obtain ⟨h1, h2⟩ := RepL.arr r ha ix
    unfold VT.arr at h1 h2 ⊢
    rw [List.filterMap_cons, List.filterMap_cons]
    by_cases hi : i < svs.length
    · have e2 : svs[i]? = some svs[i] := List.getElem?_eq_getElem hi
      obtain ⟨v, e1, rv⟩ := r.get e2
      rw [e1, e2]
      have hm : svs[i] ∈ svs := List.getElem_mem hi
      refine ⟨.cons rv h1 fun b o => ((ha _ hm).none o).elim, fun s hs => ?_⟩
      · rcases List.mem_cons.mp hs with rfl | hs
        · exact ha _ hm
        · exact h2 s hs
    · rw [List.getElem?_eq_none (by rw [r.length]; omega), List.getElem?_eq_none (by omega)]
      exact ⟨h1, h2⟩
structure VKw (X : Cx) (EX : EXT) (kws : List Keyword) (g : GA) : Prop where
  pk : ∀ G0 H0, Lk X EX G0 H0 → PK X kws (TAV G0 H0 g)
theorem pkMono {kws : List Keyword} {t t' : TA} (h : PK X kws t) (k : ∀ σ H Q, t' σ H Q → t σ H Q) : PK X kws t' := ⟨fun pos pins s σ H Q I q => h.run pos pins s σ H Q I (k σ H Q q)⟩
theorem vk_nil : VKw X EX [] gaNil := ⟨fun G0 H0 tk => pkMono pk_nil fun σ H Q ⟨G, S, Qs, R, q, k⟩ => k [] H G [] (.refl R.ok) .nil q⟩
theorem vk_cons {kws : List Keyword} {nm : Option Str} {kpos : Pos} {g : GE} {gr : GA} (ha : VE X EX e g) (hr : VKw X EX kws gr) : VKw X EX (⟨nm, e, kpos⟩ :: kws) (gaCons g gr) := by
  refine ⟨fun G0 H0 tk => pkMono (pk_cons (ha.pe G0 H0 tk) (hr.pk G0 H0 tk)) fun σ H Q ⟨G, S, Qs, R, q, k⟩ => ?_⟩
  refine ⟨G, S, _, R, q, fun v H1 G1 sv E1 r1 q1 => ?_⟩
  refine ⟨G1, S, _, R.go E1, q1, fun vs H2 G2 svs E2 r2 q2 => ?_⟩
  exact k _ _ _ _ (E1.trans E2) (RepL.cons' (fun _ z => E1.dom z) E2 r1 r2) q2
/-- how a call with keywords binds: n positional values, the keywords ks, the defaults dvs, picked by places -/
structure KBi (K : PySem.W.Frag) (fd : FuncData) (ps : List Str) (n : Nat) (ks : List Str) (ix : List Nat) (dvs : List V) : Prop where
  to : ∃ ds, Vals dvs ds ∧ ∀ (s : Shared) (us ws : List Value), K.In s.heap → us.length = n → ws.length = ks.length → BindsTo s fd ⟨us, ks.zip ws⟩ (ps.zip (arr ix (us ++ ws ++ ds)))
theorem vals_arr : ∀ {xs : List V} {us : List Value} (ix : List Nat), Vals xs us → Vals (arr ix xs) (arr ix us)
  | _, _, [], _ => .nil
  | xs, us, i :: ix, r => by
    have ih := vals_arr ix r
    unfold VT.arr at ih ⊢
    rw [List.filterMap_cons, List.filterMap_cons]
    by_cases hi : i < xs.length
    · have e1 : xs[i]? = some xs[i] := List.getElem?_eq_getElem hi
      obtain ⟨u, e2, ru⟩ := r.get e1
      rw [e1, e2]
      exact .cons ru ih
    · rw [List.getElem?_eq_none (by omega), List.getElem?_eq_none (by rw [← r.length]; omega)]
      exact ih
@[simp] def gCallK (F : FSp) (n m : Nat) (ix : List Nat) (dd : List D) (ga gk : GA) : GE := fun S Q => ga S fun svs => gk S fun kvs => svs.length = n ∧ kvs.length = m ∧ F (arr ix (svs.map SV.arg ++ kvs.map SV.arg ++ dd.map SV.tr)) Q
theorem callK_end {kws : List Keyword} {gk : GA} {n m : Nat} {ix : List Nat} {G0 : Gh} {H0 : Hp} {σ : L2.St} {H : Hp} {Q : VK} (hw : Wrts dd dvs) (tk : Lk X EX G0 H0) (E : XK) (h : TV G0 H0 (gCallK F n m ix dd ga gk) σ H Q) :
    tCallN n m (spV X.K F) (fun vs zs => arr ix (vs ++ zs ++ dvs)) E (TAV G0 H0 ga) (TAV G0 H0 gk) σ H Q := by
  obtain ⟨G, S, Qs, R, q, kq⟩ := h
  refine ⟨G, S, _, R, q, fun vs H1 G1 svs E1 r1 q1 => ?_⟩
  refine ⟨G1, S, _, R.go E1, q1, fun zs H2 G2 szs E2 r2 q2 => ?_⟩
  obtain ⟨l1, l2, q2⟩ := q2
  refine ⟨r1.length.trans l1, r2.length.trans l2, ?_⟩
  obtain ⟨a1, a2⟩ := (r1.ext E2).toArg
  obtain ⟨b1, b2⟩ := r2.toArg
  have dt : ∀ sv ∈ dd.map SV.tr, sv.isArg := fun sv h => by obtain ⟨d, _, rfl⟩ := List.mem_map.mp h; trivial
  have ab : ∀ sv ∈ svs.map SV.arg ++ szs.map SV.arg, sv.isArg := fun sv h => (List.mem_append.mp h).elim (a2 sv) (b2 sv)
  obtain ⟨c1, c2⟩ := (((a1.append b1 a2).append hw.repl ab).arr (fun sv h => (List.mem_append.mp h).elim (ab sv) (dt sv)) ix)
  refine ⟨G2, _, _, ⟨E2.ok, E2.tt.trans (tk.tt R E1)⟩, c1, c2, q2, fun v H' G' sv E' r' ir q' => ?_⟩
  refine kq v H' G' sv ((E1.trans E2).trans E') ?_ q'
  exact RepV.call (fun b z => E1.dom (E2.dom z)) ir r'
theorem ve_callK {kws : List Keyword} {gk : GA} {n : Nat} {ks : List Str} {ix : List Nat} (Fn : FnOk X.prog X.w X.K X.mg X.base CX0 k f fd ps (spV X.K F)) (hr : Room k X.A) (hg : Gl X x) (hm : X.mg x = some (.ref f)) (hk : PySem.W.keepIn X.K (.ref f) = true) (hb : KBi X.K fd ps n ks ix dvs) (hw : Wrts dd dvs)
    (ha : VA X EX (e :: es) ga) (hkw : VKw X EX kws gk) (hall : (backToKw pos (keywordEach kws X.env)).all (·.1.isSome) = true := by rfl) (hks : (backToKw pos (keywordEach kws X.env)).filterMap (·.1) = ks := by rfl)
    (hdb : (x == ("__debug__" : Str)) = false := by decide) (he : starEach (e :: es) X.env = (false, eval e X.env) :: starEach es X.env := by rfl)
    (hpl : ((backTo pos (starEach (e :: es) X.env)).any (·.1) || (backToKw pos (keywordEach kws X.env)).any (·.1.isNone)) = false := by rfl) :
    VE X EX (.Call (.Name x p) (e :: es) kws pos) (gCallK F n ks.length ix dd ga gk) := by
  obtain ⟨ds, rd, hto⟩ := hb.to
  exact ⟨fun G0 H0 tk => peMono (pe_callN Fn hr hg hm hk (g := fun us ws => arr ix (us ++ ws ++ ds)) (gV := fun vs zs => arr ix (vs ++ zs ++ dvs)) ⟨hto, fun r1 r2 => vals_arr ix ((r1.append r2).append rd)⟩ pass0 (ha.pa G0 H0 tk) (hkw.pk G0 H0 tk) hall hks hdb he hpl) fun σ H Q h => callK_end (kws := kws) hw tk E0 h⟩
theorem pe_callN0 {CX : CXT} {kws : List Keyword} {tk : TA} {ks : List Str} {sp : Sp} {E : XK} {g : List Value → List Value → List Value} {gV : List V → List V → List V} (Fn : FnOk X.prog X.w X.K X.mg X.base CX k f fd ps sp) (hr : Room k X.A) (hg : Gl X x) (hm : X.mg x = some (.ref f)) (hk : PySem.W.keepIn X.K (.ref f) = true) (hb : KBn X.K fd ps 0 ks g gV) (hx : Passes CX X E)
    (hkw : PK X kws tk) (hall : (backToKw pos (keywordEach kws X.env)).all (·.1.isSome) = true := by rfl) (hks : (backToKw pos (keywordEach kws X.env)).filterMap (·.1) = ks := by rfl)
    (hdb : (x == ("__debug__" : Str)) = false := by decide)
    (hpl : ((backTo pos (starEach [] X.env)).any (·.1) || (backToKw pos (keywordEach kws X.env)).any (·.1.isNone)) = false := by rfl) :
    PE X (.Call (.Name x p) [] kws pos) (tCallN 0 ks.length sp gV E tNil tk) := by
  refine ⟨fun pins s σ H Q I h => ?_⟩
  refine wpAny_Call_Name_kw (ld_glob I hg hm ?_ hdb)
  refine PySem.W.callWith_KW0 (h₀ := X.base) I.ok.mod.kin hk hall ?_ hpl
  refine thn (hkw.run pos pins s σ H _ I h) fun ws s2 ⟨zs, H2, I2, rz, l1, l2, q2⟩ => ⟨I2.kIn, ?_⟩
  rw [hks]
  exact run_fnN (us := []) (vs := []) Fn hr hb hx I2 .nil rz l1 l2 q2
theorem ve_callK0 {kws : List Keyword} {gk : GA} {ks : List Str} {ix : List Nat} (Fn : FnOk X.prog X.w X.K X.mg X.base CX0 k f fd ps (spV X.K F)) (hr : Room k X.A) (hg : Gl X x) (hm : X.mg x = some (.ref f)) (hk : PySem.W.keepIn X.K (.ref f) = true) (hb : KBi X.K fd ps 0 ks ix dvs) (hw : Wrts dd dvs)
    (hkw : VKw X EX kws gk) (hall : (backToKw pos (keywordEach kws X.env)).all (·.1.isSome) = true := by rfl) (hks : (backToKw pos (keywordEach kws X.env)).filterMap (·.1) = ks := by rfl)
    (hdb : (x == ("__debug__" : Str)) = false := by decide)
    (hpl : ((backTo pos (starEach [] X.env)).any (·.1) || (backToKw pos (keywordEach kws X.env)).any (·.1.isNone)) = false := by rfl) :
    VE X EX (.Call (.Name x p) [] kws pos) (gCallK F 0 ks.length ix dd gaNil gk) := by
  obtain ⟨ds, rd, hto⟩ := hb.to
  refine ⟨fun G0 H0 tk => peMono (pe_callN0 Fn hr hg hm hk (g := fun us ws => arr ix (us ++ ws ++ ds)) (gV := fun vs zs => arr ix (vs ++ zs ++ dvs)) ⟨hto, fun r1 r2 => vals_arr ix ((r1.append r2).append rd)⟩ pass0 (hkw.pk G0 H0 tk) hall hks hdb hpl) fun σ H Q h => ?_⟩
  have z := callK_end (kws := kws) (G0 := G0) (H0 := H0) hw tk E0 h
  obtain ⟨G, S, Qs, R, q, kq⟩ := z
  exact kq [] H G [] (.refl R.ok) .nil q
/-- a constant of the module -/
theorem ve_glob {d : D} {v : V} {u : Value} (hg : Gl X x) (hm : X.mg x = some u) (r : RelV v u) (hw : wrt d v) (hd : (x == ("__debug__" : Str)) = false := by decide) : VE X EX (.Name x pos) (gC d) := ve_c (pe_glob hg hm r hd) fun _ => hw.rep
end

/-! ### a def's body -/
@[simp] def startS (N : List Str) (svs : List SV) : S := svs.map some ++ List.replicate (N.length - svs.length) none
theorem start_get {α β : Type} {N : List α} {svs : List β} {i : Nat} {sv : β} (h : (svs.map some ++ List.replicate (N.length - svs.length) none)[i]? = some (some sv)) : svs[i]? = some sv := by
  by_cases hi : i < svs.length
  · rw [List.getElem?_append_left (by simpa using hi), List.getElem?_map] at h
    cases e : svs[i]? with
    | none => rw [e] at h; cases h
    | some w => rw [e] at h; cases h; rfl
  · rw [List.getElem?_append_right (by simpa using hi), List.getElem?_replicate] at h
    split at h <;> cases h
theorem Rel.start {G : Gh} {H : Hp} {vs : List V} {svs : List SV} {N : List Str} (ok : OkG G H) (r : RepL H H G H vs svs) (ha : ∀ sv ∈ svs, sv.isArg) : Rel G H G H (L2.start N vs) (startS N svs) := by
  have hl := r.length
  refine ⟨.refl ok, by simp [startS, L2.start, hl], fun i sv e => ?_, fun i j sv sw v w b _ e _ _ _ o => ?_, fun i sv e => ?_⟩
  · have e' := start_get e
    obtain ⟨v, hv, rv⟩ := r.get e'
    refine ⟨v, ?_, rv⟩
    unfold L2.start
    have hi : i < vs.length := (List.getElem?_eq_some_iff.mp hv).1
    rw [List.getElem?_append_left (by simpa using hi), List.getElem?_map, hv]
    rfl
  · have e' := start_get e
    exact ((ha _ (List.mem_of_getElem? e')).none o).elim
  · have e' := start_get e
    have := ha _ (List.mem_of_getElem? e')
    cases sv <;> first | exact this.elim | trivial
section
variable {P : Program} {w : World} {K : PySem.W.Frag} {mg : Str → Option Value} {base : Heap} {x qual : Str} {params : Arguments} {body : List Stmt} {scope : Scope} {dvs : List V} {kws : List (Str × V)} {f : Addr} {fd : FuncData} {N ps : List Str} {k : Nat} {g : GS} {Fs : FSp}
theorem fn_ok (F : FunD K x qual params body scope dvs kws f fd) (Sc : FnScope N ps scope)
    (hbody : ∀ (cdv : Value) (A : Around) (outer : List Env) (s : Shared) (H : Hp) (E : XK), Room k (A.deeper (envOfC qual scope s.heap.objs.size f cdv)) → VSs (cxOf CX0 P w K mg base N qual scope f cdv A outer s H E).nox E0T body g)
    (len : ∀ svs Qs, Fs svs Qs → svs.length = ps.length) (spec : ∀ svs Qs, Fs svs Qs → g { nx := fun _ => Qs (.tr .non), rt := Qs } (startS N svs)) : FnOk P w K mg base CX0 (k + 1) f fd ps (spV K Fs) := by
  refine F.ok Sc (fun vs H Q E ⟨G, svs, Qs, ok, r, ha, h, z⟩ => r.length.trans (len _ _ h)) (fun cdv A outer s H vs Q E hr h => ?_)
  refine ⟨TSV (Classical.choose h) H g, ((hbody cdv A outer s H E hr).pss _ _ (Lk.e0 (Classical.choose_spec h).choose_spec.choose_spec.1.2)).nox, ?_⟩
  obtain ⟨svs, Qs, ok, r, ha, h, z⟩ := Classical.choose_spec h
  refine ⟨_, startS N svs, _, Rel.start ok.1 r ha, spec svs Qs h, fun σ' H' G' S' R' _ q => ?_, fun v H' G' sv E' r' ir q => z v H' G' sv E' r' ir q, fun σ' H' G' S' R' _ q => q.elim, fun σ' H' G' S' R' _ q => q.elim⟩
  exact z .non H' G' (.tr .non) R'.ext rfl trivial q
end
end VT

namespace VT
open PySem PySem.Spec PyProof.Rows L2

/-! ### defs by their data -/
/-- the def d stands behind the top, under its name -/
structure DefAt (K : PySem.W.Frag) (mg : Str → Option Value) (d : He.DefD) : Prop where
  fd : ∃ fd, FunD K d.name d.qual d.params d.body d.scope (d.dvs K) (d.kws K) (He.fAd K d.at_) fd
  mg : mg d.name = some (.ref (He.fAd K d.at_))
/-- .. and answers as F says -/
structure FnV (P : Program) (w : World) (K : PySem.W.Frag) (mg : Str → Option Value) (base : Heap) (d : He.DefD) (k : Nat) (ps : List Str) (F : FSp) : Prop where
  ex : ∃ fd, FunD K d.name d.qual d.params d.body d.scope (d.dvs K) (d.kws K) (He.fAd K d.at_) fd ∧ FnOk P w K mg base CX0 k (He.fAd K d.at_) fd ps (spV K F)
  mg : mg d.name = some (.ref (He.fAd K d.at_))
section
variable {P : Program} {w : World} {K : PySem.W.Frag} {mg : Str → Option Value} {base : Heap} {d : He.DefD} {k : Nat} {ps N : List Str} {F : FSp} {g : GS}
theorem fnv_ok (h : DefAt K mg d) (Sc : FnScope N ps d.scope)
    (hbody : ∀ (f : Addr) (cdv : Value) (A : Around) (outer : List Env) (s : Shared) (H : Hp) (E : XK), Room k (A.deeper (envOfC d.qual d.scope s.heap.objs.size f cdv)) → VSs (cxOf CX0 P w K mg base N d.qual d.scope f cdv A outer s H E).nox E0T d.body g)
    (len : ∀ svs Qs, F svs Qs → svs.length = ps.length) (spec : ∀ svs Qs, F svs Qs → g { nx := fun _ => Qs (.tr .non), rt := Qs } (startS N svs)) : FnV P w K mg base d (k + 1) ps F := by
  obtain ⟨⟨fd, hf⟩, hm⟩ := h
  exact ⟨⟨fd, hf, fn_ok hf Sc (fun cdv A outer s H E hr => hbody _ cdv A outer s H E hr) len spec⟩, hm⟩
theorem FnV.mono {j : Nat} (h : FnV P w K mg base d k ps F) (hj : k ≤ j) : FnV P w K mg base d j ps F := by
  obtain ⟨⟨fd, hf, hk⟩, hm⟩ := h
  exact ⟨⟨fd, hf, hk.mono hj⟩, hm⟩
theorem FnV.imp {F' : FSp} (h : FnV P w K mg base d k ps F) (hF : ∀ svs Q, F' svs Q → F svs Q) : FnV P w K mg base d k ps F' := by
  obtain ⟨⟨fd, hf, hk⟩, hm⟩ := h
  exact ⟨⟨fd, hf, hk.imp fun vs H Q E ⟨G, svs, Qs, ok, r, ha, q, z⟩ => ⟨G, svs, Qs, ok, r, ha, hF _ _ q, z⟩⟩, hm⟩
end
section
variable {X : Cx} {EX : EXT} {d : He.DefD} {k : Nat} {ps ks : List Str} {F : FSp} {x : Str} {p pos : Pos} {e : Expr} {es : List Expr} {ga gk : GA} {kws : List Keyword}
/-- f(e, ..), no defaults -/
theorem ve_cv (h : FnV X.prog X.w X.K X.mg X.base d k ps F) (hr : Room k X.A) (hd : d.dfl = []) (hk : d.kwd = []) (hx : x = d.name)
    (hb : ∀ (kV doc pm : Value) (an : Option Addr) (cdv ct : Value) (us : List Value), us.length = ps.length → bindArgs (PySem.W.fnOf d.name d.qual d.params d.body d.scope .none kV doc pm an cdv ct) ⟨us, []⟩ = pure (ps.zip us))
    (hg : Gl X x) (ha : VA X EX (e :: es) ga) (hdb : (x == ("__debug__" : Str)) = false := by decide) (he : starEach (e :: es) X.env = (false, eval e X.env) :: starEach es X.env := by rfl) (hpl : (backTo pos (starEach es X.env)).any (·.1) = false := by rfl) :
    VE X EX (.Call (.Name x p) (e :: es) [] pos) (gCall F [] ga) := by
  obtain ⟨⟨fd, hf, hF⟩, hm⟩ := h
  have e1 : d.dvs X.K = [] := by unfold He.DefD.dvs; rw [hd]; rfl
  have e2 : d.kws X.K = [] := by unfold He.DefD.kws; rw [hk]; rfl
  have kp := hf.kp
  rw [e1] at hf
  have b := hf.bindsN hb
  subst hx
  exact ve_call hF hr hg hm kp b .nil .nil ha hdb he hpl
theorem ve_cv0 (h : FnV X.prog X.w X.K X.mg X.base d k ps F) (hr : Room k X.A) (hd : d.dfl = []) (hk : d.kwd = []) (hx : x = d.name)
    (hb : ∀ (kV doc pm : Value) (an : Option Addr) (cdv ct : Value) (us : List Value), us.length = ps.length → bindArgs (PySem.W.fnOf d.name d.qual d.params d.body d.scope .none kV doc pm an cdv ct) ⟨us, []⟩ = pure (ps.zip us))
    (hg : Gl X x) (hdb : (x == ("__debug__" : Str)) = false := by decide) : VE X EX (.Call (.Name x p) [] [] pos) (gCall F [] gaNil) := by
  obtain ⟨⟨fd, hf, hF⟩, hm⟩ := h
  have e1 : d.dvs X.K = [] := by unfold He.DefD.dvs; rw [hd]; rfl
  have e2 : d.kws X.K = [] := by unfold He.DefD.kws; rw [hk]; rfl
  have kp := hf.kp
  rw [e1] at hf
  have b := hf.bindsN hb
  subst hx
  exact ve_call0 hF hr hg hm kp b .nil .nil hdb
/-- f(e, .., y = e', ..), no defaults -/
theorem kbi_of {K : PySem.W.Frag} {fd : FuncData} {f : Addr} {n : Nat} {ix : List Nat} (hf : FunD K d.name d.qual d.params d.body d.scope [] (d.kws K) f fd)
    (hb : ∀ (kV doc pm : Value) (an : Option Addr) (cdv ct : Value) (us ws : List Value), us.length = n → ws.length = ks.length → bindArgs (PySem.W.fnOf d.name d.qual d.params d.body d.scope .none kV doc pm an cdv ct) ⟨us, ks.zip ws⟩ = pure (ps.zip (arr ix (us ++ ws)))) : KBi K fd ps n ks ix [] := by
  obtain ⟨oc, od, dV, kV, doc, pm, an, cdv, ct, osl, rfl, lk, hcd, hD, hK⟩ := hf.ex
  rcases hD with ⟨_, rfl⟩ | ⟨e, _⟩
  · exact ⟨[], .nil, fun s us ws _ h1 h2 => by rw [List.append_nil]; exact .of_eq (hb kV doc pm an cdv ct us ws h1 h2)⟩
  · exact absurd rfl e
theorem ve_ck {n : Nat} {ix : List Nat} (h : FnV X.prog X.w X.K X.mg X.base d k ps F) (hr : Room k X.A) (hd : d.dfl = []) (hx : x = d.name)
    (hb : ∀ (kV doc pm : Value) (an : Option Addr) (cdv ct : Value) (us ws : List Value), us.length = n → ws.length = ks.length → bindArgs (PySem.W.fnOf d.name d.qual d.params d.body d.scope .none kV doc pm an cdv ct) ⟨us, ks.zip ws⟩ = pure (ps.zip (arr ix (us ++ ws))))
    (hg : Gl X x) (ha : VA X EX (e :: es) ga) (hkw : VKw X EX kws gk) (hall : (backToKw pos (keywordEach kws X.env)).all (·.1.isSome) = true := by rfl) (hks : (backToKw pos (keywordEach kws X.env)).filterMap (·.1) = ks := by rfl)
    (hdb : (x == ("__debug__" : Str)) = false := by decide) (he : starEach (e :: es) X.env = (false, eval e X.env) :: starEach es X.env := by rfl)
    (hpl : ((backTo pos (starEach (e :: es) X.env)).any (·.1) || (backToKw pos (keywordEach kws X.env)).any (·.1.isNone)) = false := by rfl) : VE X EX (.Call (.Name x p) (e :: es) kws pos) (gCallK F n ks.length ix [] ga gk) := by
  obtain ⟨⟨fd, hf, hF⟩, hm⟩ := h
  have e1 : d.dvs X.K = [] := by unfold He.DefD.dvs; rw [hd]; rfl
  have kp := hf.kp
  rw [e1] at hf
  subst hx
  exact ve_callK hF hr hg hm kp (kbi_of hf hb) .nil ha hkw hall hks hdb he hpl
theorem ve_ck0 {ix : List Nat} (h : FnV X.prog X.w X.K X.mg X.base d k ps F) (hr : Room k X.A) (hd : d.dfl = []) (hx : x = d.name)
    (hb : ∀ (kV doc pm : Value) (an : Option Addr) (cdv ct : Value) (us ws : List Value), us.length = 0 → ws.length = ks.length → bindArgs (PySem.W.fnOf d.name d.qual d.params d.body d.scope .none kV doc pm an cdv ct) ⟨us, ks.zip ws⟩ = pure (ps.zip (arr ix (us ++ ws))))
    (hg : Gl X x) (hkw : VKw X EX kws gk) (hall : (backToKw pos (keywordEach kws X.env)).all (·.1.isSome) = true := by rfl) (hks : (backToKw pos (keywordEach kws X.env)).filterMap (·.1) = ks := by rfl)
    (hdb : (x == ("__debug__" : Str)) = false := by decide)
    (hpl : ((backTo pos (starEach [] X.env)).any (·.1) || (backToKw pos (keywordEach kws X.env)).any (·.1.isNone)) = false := by rfl) : VE X EX (.Call (.Name x p) [] kws pos) (gCallK F 0 ks.length ix [] gaNil gk) := by
  obtain ⟨⟨fd, hf, hF⟩, hm⟩ := h
  have e1 : d.dvs X.K = [] := by unfold He.DefD.dvs; rw [hd]; rfl
  have kp := hf.kp
  rw [e1] at hf
  subst hx
  exact ve_callK0 hF hr hg hm kp (kbi_of hf hb) .nil hkw hall hks hdb hpl
end
end VT

namespace VT
open PySem PySem.Spec PyProof.Rows L2
section
variable {X : Cx} {EX : EXT} {x : Str} {pos : Pos}
theorem ve_gint {i : Int} (h : ∃ t, X.mg x = some (.int i t)) (hg : Gl X x) (hd : (x == ("__debug__" : Str)) = false := by decide) : VE X EX (.Name x pos) (gC (.int i)) := by
  obtain ⟨t, h⟩ := h
  exact ve_glob (v := .int i) hg h ⟨t, rfl⟩ rfl hd
theorem ve_gstr {z : Str} (h : ∃ t, X.mg x = some (.str z t)) (hg : Gl X x) (ho : okS z := by decide +kernel) (hd : (x == ("__debug__" : Str)) = false := by decide) : VE X EX (.Name x pos) (gC (.str z)) := by
  obtain ⟨t, h⟩ := h
  exact ve_glob (v := .str z) hg h ⟨t, rfl⟩ ⟨rfl, ho⟩ hd
@[simp] def gNeg (g : GE) : GE := fun S Q => g S fun sv => ∃ i, sv.d = .int i ∧ Q (.tr (.int (-i)))
theorem ve_neg {a : Expr} {g : GE} (ha : VE X EX a g) : VE X EX (.UnaryOp .USub a pos) (gNeg g) :=
  ⟨fun G0 H0 tk => peMono (pe_un un_neg (ha.pe G0 H0 tk)) fun σ H Q ⟨G, S, Qs, R, q, k⟩ => ⟨G, S, _, R, q, fun v H1 G1 sv E1 r1 ⟨i, hi, q1⟩ => ⟨i, r1.int hi, kq_tr (d := .int (-i)) (kq_back E1 k) E1.ok rfl q1⟩⟩⟩
/-- a statement, then the rest, with a word between them -/
def gCut (g g' : GS) : GS := fun D S => ∃ Mid : VT.S → Prop, g { D with nx := Mid } S ∧ ∀ S', Mid S' → g' D S'
theorem vss_cut {st : Stmt} {sts : List Stmt} {g g' : GS} (h1 : VS X EX st g) (h2 : VSs X EX sts g') : VSs X EX (st :: sts) (gCut g g') :=
  ⟨fun G0 H0 tk => pssMono (pss_cons (h1.ps G0 H0 tk) (h2.pss G0 H0 tk)) fun D σ H ⟨G, S, DV, R, ⟨Mid, q, qm⟩, k⟩ => ⟨G, S, _, R, q, fun σ' H' G' S' R' m q' => ⟨G', S', DV, R', qm S' q', k.go m⟩, k.rt, k.bk, k.ct⟩⟩
end
theorem hu65 {A : Around} {k : Nat} (hr : Room k A) : A.units + 65 < cLine := by have := hr.un; omega

/-! ### what readings come to -/
theorem gName_eq (i : Nat) (S : S) (Q : SV → Prop) {sv : SV} (h : S[i]? = some (some sv)) : gName i S Q ↔ Q sv.look :=
  ⟨fun ⟨s, e, q⟩ => by rw [h] at e; cases e; exact q, fun q => ⟨sv, h, q⟩⟩
@[simp] theorem gName0 (a : SV) (r : S) (Q : SV → Prop) : gName 0 (some a :: r) Q ↔ Q a.look := gName_eq 0 _ Q rfl
@[simp] theorem gName1 (x0 : Option SV) (a : SV) (r : S) (Q : SV → Prop) : gName 1 (x0 :: some a :: r) Q ↔ Q a.look := gName_eq 1 _ Q rfl
@[simp] theorem gName2 (x0 x1 : Option SV) (a : SV) (r : S) (Q : SV → Prop) : gName 2 (x0 :: x1 :: some a :: r) Q ↔ Q a.look := gName_eq 2 _ Q rfl
@[simp] theorem gName3 (x0 x1 x2 : Option SV) (a : SV) (r : S) (Q : SV → Prop) : gName 3 (x0 :: x1 :: x2 :: some a :: r) Q ↔ Q a.look := gName_eq 3 _ Q rfl
@[simp] theorem gName4 (x0 x1 x2 x3 : Option SV) (a : SV) (r : S) (Q : SV → Prop) : gName 4 (x0 :: x1 :: x2 :: x3 :: some a :: r) Q ↔ Q a.look := gName_eq 4 _ Q rfl
@[simp] theorem gName5 (x0 x1 x2 x3 x4 : Option SV) (a : SV) (r : S) (Q : SV → Prop) : gName 5 (x0 :: x1 :: x2 :: x3 :: x4 :: some a :: r) Q ↔ Q a.look := gName_eq 5 _ Q rfl
@[simp] theorem gName6 (x0 x1 x2 x3 x4 x5 : Option SV) (a : SV) (r : S) (Q : SV → Prop) : gName 6 (x0 :: x1 :: x2 :: x3 :: x4 :: x5 :: some a :: r) Q ↔ Q a.look := gName_eq 6 _ Q rfl
@[simp] theorem gName7 (x0 x1 x2 x3 x4 x5 x6 : Option SV) (a : SV) (r : S) (Q : SV → Prop) : gName 7 (x0 :: x1 :: x2 :: x3 :: x4 :: x5 :: x6 :: some a :: r) Q ↔ Q a.look := gName_eq 7 _ Q rfl
@[simp] theorem gName8 (x0 x1 x2 x3 x4 x5 x6 x7 : Option SV) (a : SV) (r : S) (Q : SV → Prop) : gName 8 (x0 :: x1 :: x2 :: x3 :: x4 :: x5 :: x6 :: x7 :: some a :: r) Q ↔ Q a.look := gName_eq 8 _ Q rfl
@[simp] theorem gName9 (x0 x1 x2 x3 x4 x5 x6 x7 x8 : Option SV) (a : SV) (r : S) (Q : SV → Prop) : gName 9 (x0 :: x1 :: x2 :: x3 :: x4 :: x5 :: x6 :: x7 :: x8 :: some a :: r) Q ↔ Q a.look := gName_eq 9 _ Q rfl
end VT

namespace VT
open PySem PySem.Spec PyProof.Rows L2

/-! ### the readings of values, as rules -/
@[simp] theorem sd_tr (d : D) : (SV.d (SV.tr d)) = (d) := rfl
@[simp] theorem slook_tr (d : D) : (SV.look (SV.tr d)) = ((SV.tr d)) := rfl
@[simp] theorem slet_tr (d : D) : (SV.let_ (SV.tr d)) = ((SV.tr d)) := rfl
@[simp] theorem sok_tr (d : D) : (SV.ok (SV.tr d)) = (True) := rfl
@[simp] theorem sarg_tr (d : D) : (SV.arg (SV.tr d)) = ((SV.tr d)) := rfl
@[simp] theorem sisarg_tr (d : D) : (SV.isArg (SV.tr d)) = (True) := rfl
@[simp] theorem sisret_tr (d : D) : (SV.isRet (SV.tr d)) = (True) := rfl
@[simp] theorem sstays_tr (c : Bool) (d : D) : (SV.stays c (SV.tr d)) = (True) := rfl
@[simp] theorem sd_own (d : D) : (SV.d (SV.own d)) = (d) := rfl
@[simp] theorem slook_own (d : D) : (SV.look (SV.own d)) = (SV.pk d) := rfl
@[simp] theorem slet_own (d : D) : (SV.let_ (SV.own d)) = (SV.tr d) := rfl
@[simp] theorem sok_own (d : D) : (SV.ok (SV.own d)) = (True) := rfl
@[simp] theorem sarg_own (d : D) : (SV.arg (SV.own d)) = (SV.brw d) := rfl
@[simp] theorem sisarg_own (d : D) : (SV.isArg (SV.own d)) = (False) := rfl
@[simp] theorem sisret_own (d : D) : (SV.isRet (SV.own d)) = (True) := rfl
@[simp] theorem sstays_own (c : Bool) (d : D) : (SV.stays c (SV.own d)) = (c = true) := rfl
@[simp] theorem sd_brw (d : D) : (SV.d (SV.brw d)) = (d) := rfl
@[simp] theorem slook_brw (d : D) : (SV.look (SV.brw d)) = ((SV.brw d)) := rfl
@[simp] theorem slet_brw (d : D) : (SV.let_ (SV.brw d)) = ((SV.brw d)) := rfl
@[simp] theorem sok_brw (d : D) : (SV.ok (SV.brw d)) = (True) := rfl
@[simp] theorem sarg_brw (d : D) : (SV.arg (SV.brw d)) = ((SV.brw d)) := rfl
@[simp] theorem sisarg_brw (d : D) : (SV.isArg (SV.brw d)) = (True) := rfl
@[simp] theorem sisret_brw (d : D) : (SV.isRet (SV.brw d)) = (False) := rfl
@[simp] theorem sstays_brw (c : Bool) (d : D) : (SV.stays c (SV.brw d)) = (True) := rfl
@[simp] theorem sd_pk (d : D) : (SV.d (SV.pk d)) = (d) := rfl
@[simp] theorem slook_pk (d : D) : (SV.look (SV.pk d)) = ((SV.pk d)) := rfl
@[simp] theorem slet_pk (d : D) : (SV.let_ (SV.pk d)) = ((SV.pk d)) := rfl
@[simp] theorem sok_pk (d : D) : (SV.ok (SV.pk d)) = (False) := rfl
@[simp] theorem sarg_pk (d : D) : (SV.arg (SV.pk d)) = (SV.brw d) := rfl
@[simp] theorem sisarg_pk (d : D) : (SV.isArg (SV.pk d)) = (False) := rfl
@[simp] theorem sisret_pk (d : D) : (SV.isRet (SV.pk d)) = (False) := rfl
@[simp] theorem sstays_pk (c : Bool) (d : D) : (SV.stays c (SV.pk d)) = (c = true) := rfl
@[simp] theorem sd_bag (d : D) : (SV.d SV.bag) = (D.opq) := rfl
@[simp] theorem slook_bag  : (SV.look SV.bag) = (SV.bag) := rfl
@[simp] theorem slet_bag  : (SV.let_ SV.bag) = (SV.bag) := rfl
@[simp] theorem sok_bag  : (SV.ok SV.bag) = (True) := rfl
@[simp] theorem sarg_bag  : (SV.arg SV.bag) = (SV.bag) := rfl
@[simp] theorem sisarg_bag  : (SV.isArg SV.bag) = (True) := rfl
@[simp] theorem sisret_bag  : (SV.isRet SV.bag) = (True) := rfl
@[simp] theorem sstays_bag (c : Bool) : (SV.stays c SV.bag) = (False) := rfl
@[simp] theorem isT_non_bool  : (D.isT D.non Ty.bool) = (false) := rfl
@[simp] theorem isT_non_int  : (D.isT D.non Ty.int) = (false) := rfl
@[simp] theorem isT_non_str  : (D.isT D.non Ty.str) = (false) := rfl
@[simp] theorem isT_non_list  : (D.isT D.non Ty.list) = (false) := rfl
@[simp] theorem isT_non_tuple  : (D.isT D.non Ty.tuple) = (false) := rfl
@[simp] theorem isT_non_dict  : (D.isT D.non Ty.dict) = (false) := rfl
@[simp] theorem kind_non  : (D.kind D.non) = (some "NoneType") := rfl
@[simp] theorem isNon_non  : (D.isNon D.non) = (true) := rfl
@[simp] theorem tru_non  : (D.tru D.non) = (some false) := rfl
@[simp] theorem items_non  : (D.items D.non) = (none) := rfl
@[simp] theorem isT_bl_bool (b : Bool) : (D.isT (D.bl b) Ty.bool) = (true) := rfl
@[simp] theorem isT_bl_int (b : Bool) : (D.isT (D.bl b) Ty.int) = (true) := rfl
@[simp] theorem isT_bl_str (b : Bool) : (D.isT (D.bl b) Ty.str) = (false) := rfl
@[simp] theorem isT_bl_list (b : Bool) : (D.isT (D.bl b) Ty.list) = (false) := rfl
@[simp] theorem isT_bl_tuple (b : Bool) : (D.isT (D.bl b) Ty.tuple) = (false) := rfl
@[simp] theorem isT_bl_dict (b : Bool) : (D.isT (D.bl b) Ty.dict) = (false) := rfl
@[simp] theorem kind_bl (b : Bool) : (D.kind (D.bl b)) = (some "bool") := rfl
@[simp] theorem isNon_bl (b : Bool) : (D.isNon (D.bl b)) = (false) := rfl
@[simp] theorem tru_bl (b : Bool) : (D.tru (D.bl b)) = (some b) := rfl
@[simp] theorem items_bl (b : Bool) : (D.items (D.bl b)) = (none) := rfl
@[simp] theorem isT_int_bool (i : Int) : (D.isT (D.int i) Ty.bool) = (false) := rfl
@[simp] theorem isT_int_int (i : Int) : (D.isT (D.int i) Ty.int) = (true) := rfl
@[simp] theorem isT_int_str (i : Int) : (D.isT (D.int i) Ty.str) = (false) := rfl
@[simp] theorem isT_int_list (i : Int) : (D.isT (D.int i) Ty.list) = (false) := rfl
@[simp] theorem isT_int_tuple (i : Int) : (D.isT (D.int i) Ty.tuple) = (false) := rfl
@[simp] theorem isT_int_dict (i : Int) : (D.isT (D.int i) Ty.dict) = (false) := rfl
@[simp] theorem kind_int (i : Int) : (D.kind (D.int i)) = (some "int") := rfl
@[simp] theorem isNon_int (i : Int) : (D.isNon (D.int i)) = (false) := rfl
@[simp] theorem tru_int (i : Int) : (D.tru (D.int i)) = (some (i != 0)) := rfl
@[simp] theorem items_int (i : Int) : (D.items (D.int i)) = (none) := rfl
@[simp] theorem isT_str_bool (x : Str) : (D.isT (D.str x) Ty.bool) = (false) := rfl
@[simp] theorem isT_str_int (x : Str) : (D.isT (D.str x) Ty.int) = (false) := rfl
@[simp] theorem isT_str_str (x : Str) : (D.isT (D.str x) Ty.str) = (true) := rfl
@[simp] theorem isT_str_list (x : Str) : (D.isT (D.str x) Ty.list) = (false) := rfl
@[simp] theorem isT_str_tuple (x : Str) : (D.isT (D.str x) Ty.tuple) = (false) := rfl
@[simp] theorem isT_str_dict (x : Str) : (D.isT (D.str x) Ty.dict) = (false) := rfl
@[simp] theorem kind_str (x : Str) : (D.kind (D.str x)) = (some "str") := rfl
@[simp] theorem isNon_str (x : Str) : (D.isNon (D.str x)) = (false) := rfl
@[simp] theorem tru_str (x : Str) : (D.tru (D.str x)) = (some (x.length != 0)) := rfl
@[simp] theorem items_str (x : Str) : (D.items (D.str x)) = (some (x.cps.toList.map fun c => D.str ⟨#[c]⟩)) := rfl
@[simp] theorem isT_lst_bool (xs : List D) : (D.isT (D.lst xs) Ty.bool) = (false) := rfl
@[simp] theorem isT_lst_int (xs : List D) : (D.isT (D.lst xs) Ty.int) = (false) := rfl
@[simp] theorem isT_lst_str (xs : List D) : (D.isT (D.lst xs) Ty.str) = (false) := rfl
@[simp] theorem isT_lst_list (xs : List D) : (D.isT (D.lst xs) Ty.list) = (true) := rfl
@[simp] theorem isT_lst_tuple (xs : List D) : (D.isT (D.lst xs) Ty.tuple) = (false) := rfl
@[simp] theorem isT_lst_dict (xs : List D) : (D.isT (D.lst xs) Ty.dict) = (false) := rfl
@[simp] theorem kind_lst (xs : List D) : (D.kind (D.lst xs)) = (some "list") := rfl
@[simp] theorem isNon_lst (xs : List D) : (D.isNon (D.lst xs)) = (false) := rfl
@[simp] theorem tru_lst (xs : List D) : (D.tru (D.lst xs)) = (some (!xs.isEmpty)) := rfl
@[simp] theorem items_lst (xs : List D) : (D.items (D.lst xs)) = (some xs) := rfl
@[simp] theorem isT_tup_bool (xs : List D) : (D.isT (D.tup xs) Ty.bool) = (false) := rfl
@[simp] theorem isT_tup_int (xs : List D) : (D.isT (D.tup xs) Ty.int) = (false) := rfl
@[simp] theorem isT_tup_str (xs : List D) : (D.isT (D.tup xs) Ty.str) = (false) := rfl
@[simp] theorem isT_tup_list (xs : List D) : (D.isT (D.tup xs) Ty.list) = (false) := rfl
@[simp] theorem isT_tup_tuple (xs : List D) : (D.isT (D.tup xs) Ty.tuple) = (true) := rfl
@[simp] theorem isT_tup_dict (xs : List D) : (D.isT (D.tup xs) Ty.dict) = (false) := rfl
@[simp] theorem kind_tup (xs : List D) : (D.kind (D.tup xs)) = (some "tuple") := rfl
@[simp] theorem isNon_tup (xs : List D) : (D.isNon (D.tup xs)) = (false) := rfl
@[simp] theorem tru_tup (xs : List D) : (D.tru (D.tup xs)) = (some (!xs.isEmpty)) := rfl
@[simp] theorem items_tup (xs : List D) : (D.items (D.tup xs)) = (some xs) := rfl
@[simp] theorem isT_dic_bool (kvs : List (Key × D)) : (D.isT (D.dic kvs) Ty.bool) = (false) := rfl
@[simp] theorem isT_dic_int (kvs : List (Key × D)) : (D.isT (D.dic kvs) Ty.int) = (false) := rfl
@[simp] theorem isT_dic_str (kvs : List (Key × D)) : (D.isT (D.dic kvs) Ty.str) = (false) := rfl
@[simp] theorem isT_dic_list (kvs : List (Key × D)) : (D.isT (D.dic kvs) Ty.list) = (false) := rfl
@[simp] theorem isT_dic_tuple (kvs : List (Key × D)) : (D.isT (D.dic kvs) Ty.tuple) = (false) := rfl
@[simp] theorem isT_dic_dict (kvs : List (Key × D)) : (D.isT (D.dic kvs) Ty.dict) = (true) := rfl
@[simp] theorem kind_dic (kvs : List (Key × D)) : (D.kind (D.dic kvs)) = (some "dict") := rfl
@[simp] theorem isNon_dic (kvs : List (Key × D)) : (D.isNon (D.dic kvs)) = (false) := rfl
@[simp] theorem tru_dic (kvs : List (Key × D)) : (D.tru (D.dic kvs)) = (some (!kvs.isEmpty)) := rfl
@[simp] theorem items_dic (kvs : List (Key × D)) : (D.items (D.dic kvs)) = (none) := rfl
@[simp] theorem isT_dit_bool (kvt : List (List Key × D)) : (D.isT (D.dit kvt) Ty.bool) = (false) := rfl
@[simp] theorem isT_dit_int (kvt : List (List Key × D)) : (D.isT (D.dit kvt) Ty.int) = (false) := rfl
@[simp] theorem isT_dit_str (kvt : List (List Key × D)) : (D.isT (D.dit kvt) Ty.str) = (false) := rfl
@[simp] theorem isT_dit_list (kvt : List (List Key × D)) : (D.isT (D.dit kvt) Ty.list) = (false) := rfl
@[simp] theorem isT_dit_tuple (kvt : List (List Key × D)) : (D.isT (D.dit kvt) Ty.tuple) = (false) := rfl
@[simp] theorem isT_dit_dict (kvt : List (List Key × D)) : (D.isT (D.dit kvt) Ty.dict) = (true) := rfl
@[simp] theorem kind_dit (kvt : List (List Key × D)) : (D.kind (D.dit kvt)) = (some "dict") := rfl
@[simp] theorem isNon_dit (kvt : List (List Key × D)) : (D.isNon (D.dit kvt)) = (false) := rfl
@[simp] theorem tru_dit (kvt : List (List Key × D)) : (D.tru (D.dit kvt)) = (none) := rfl
@[simp] theorem items_dit (kvt : List (List Key × D)) : (D.items (D.dit kvt)) = (none) := rfl
@[simp] theorem isT_ins_bool (C : Addr) (fs : List (Str × D)) : (D.isT (D.ins C fs) Ty.bool) = (false) := rfl
@[simp] theorem isT_ins_int (C : Addr) (fs : List (Str × D)) : (D.isT (D.ins C fs) Ty.int) = (false) := rfl
@[simp] theorem isT_ins_str (C : Addr) (fs : List (Str × D)) : (D.isT (D.ins C fs) Ty.str) = (false) := rfl
@[simp] theorem isT_ins_list (C : Addr) (fs : List (Str × D)) : (D.isT (D.ins C fs) Ty.list) = (false) := rfl
@[simp] theorem isT_ins_tuple (C : Addr) (fs : List (Str × D)) : (D.isT (D.ins C fs) Ty.tuple) = (false) := rfl
@[simp] theorem isT_ins_dict (C : Addr) (fs : List (Str × D)) : (D.isT (D.ins C fs) Ty.dict) = (false) := rfl
@[simp] theorem kind_ins (C : Addr) (fs : List (Str × D)) : (D.kind (D.ins C fs)) = (none) := rfl
@[simp] theorem isNon_ins (C : Addr) (fs : List (Str × D)) : (D.isNon (D.ins C fs)) = (false) := rfl
@[simp] theorem tru_ins (C : Addr) (fs : List (Str × D)) : (D.tru (D.ins C fs)) = (none) := rfl
@[simp] theorem items_ins (C : Addr) (fs : List (Str × D)) : (D.items (D.ins C fs)) = (none) := rfl
@[simp] theorem isT_opq_bool  : (D.isT D.opq Ty.bool) = (false) := rfl
@[simp] theorem isT_opq_int  : (D.isT D.opq Ty.int) = (false) := rfl
@[simp] theorem isT_opq_str  : (D.isT D.opq Ty.str) = (false) := rfl
@[simp] theorem isT_opq_list  : (D.isT D.opq Ty.list) = (false) := rfl
@[simp] theorem isT_opq_tuple  : (D.isT D.opq Ty.tuple) = (false) := rfl
@[simp] theorem isT_opq_dict  : (D.isT D.opq Ty.dict) = (false) := rfl
@[simp] theorem kind_opq  : (D.kind D.opq) = (none) := rfl
@[simp] theorem isNon_opq  : (D.isNon D.opq) = (false) := rfl
@[simp] theorem tru_opq  : (D.tru D.opq) = (none) := rfl
@[simp] theorem items_opq  : (D.items D.opq) = (none) := rfl
@[simp] theorem rd_0 (i : Int) (j : Int) (Q : SV → Prop) : (gAdd (D.int i) (D.int j) Q) = (Q (.tr (.int (i + j)))) := rfl
@[simp] theorem rd_1 (x : Str) (y : Str) (Q : SV → Prop) : (gAdd (D.str x) (D.str y) Q) = (x.length + y.length ≤ sizeLine ∧ Q (.tr (.str (x ++ y)))) := rfl
@[simp] theorem rd_2 (xs : List D) (ys : List D) (Q : SV → Prop) : (gAdd (D.lst xs) (D.lst ys) Q) = (xs.length + ys.length ≤ sizeLine ∧ Q (.own (.lst (xs ++ ys)))) := rfl
@[simp] theorem rd_3 (xs : List D) (ys : List D) (Q : SV → Prop) : (gAdd (D.tup xs) (D.tup ys) Q) = (xs.length + ys.length ≤ sizeLine ∧ Q (.tr (.tup (xs ++ ys)))) := rfl
@[simp] theorem rd_4 (CC : Int → Int → Prop) (f : Int → Int → D) (i : Int) (j : Int) (Q : SV → Prop) : (gI CC f (D.int i) (D.int j) Q) = (CC i j ∧ Q (.tr (f i j))) := rfl
@[simp] theorem rd_5 (neg : Bool) (a : Bool) (b : Bool) (Q : SV → Prop) : (gIsB neg (D.bl a) (D.bl b) Q) = (Q (.tr (.bl (if neg then !decide (a = b) else decide (a = b))))) := rfl
@[simp] theorem rd_6 (i : Int) (Q : SV → Prop) : (gAbs [(D.int i)] Q) = (Q (.tr (.int (if i < 0 then -i else i)))) := rfl
@[simp] theorem rd_7 (i : Int) (Q : SV → Prop) : (gInt [(D.int i)] Q) = (Q (.tr (.int i))) := rfl
@[simp] theorem rd_8 (b : Bool) (Q : SV → Prop) : (gInt [(D.bl b)] Q) = (Q (.tr (.int (if b then 1 else 0)))) := rfl
@[simp] theorem rd_9 (i : Int) (j : Int) (Q : SV → Prop) : (gMax [(D.int i),(D.int j)] Q) = (Q (.tr (.int (if j > i then j else i)))) := rfl
@[simp] theorem rd_10 (i : Int) (j : Int) (Q : SV → Prop) : (gMin [(D.int i),(D.int j)] Q) = (Q (.tr (.int (if j < i then j else i)))) := rfl
@[simp] theorem rd_11 (xs : List D) (Q : SV → Prop) : (gListOf [(D.lst xs)] Q) = (Q (.own (.lst xs))) := rfl
@[simp] theorem rd_12 (xs : List D) (Q : SV → Prop) : (gListOf [(D.tup xs)] Q) = (Q (.own (.lst xs))) := rfl
@[simp] theorem rd_13 (xs : List D) (Q : SV → Prop) : (gTupOf [(D.lst xs)] Q) = (Q (.tr (.tup xs))) := rfl
@[simp] theorem rd_14 (xs : List D) (Q : SV → Prop) : (gTupOf [(D.tup xs)] Q) = (Q (.tr (.tup xs))) := rfl
@[simp] theorem rd_15 (i : Int) (j : Int) (Q : SV → Prop) : (gMul (D.int i) (D.int j) Q) = (CMulW i j ∧ Q (.tr (.int (i * j)))) := rfl
@[simp] theorem rd_16 (xs : List D) (k : Int) (Q : SV → Prop) : (gMul (D.lst xs) (D.int k) Q) = ((0 ≤ k ∧ k < 2 ^ 40 ∧ xs.length * k.toNat ≤ sizeLine) ∧ Q (.own (.lst (List.replicate k.toNat xs).flatten))) := rfl
@[simp] theorem rd_17 (x : Str) (k : Int) (Q : SV → Prop) : (gMul (D.str x) (D.int k) Q) = ((0 ≤ k ∧ k ≤ 1000 ∧ x.length ≤ 1000) ∧ Q (.tr (.str (Txt.mul x k)))) := rfl
@[simp] theorem rd_18 (z : Str) (xs : List D) (Q : SV → Prop) : (gJoin (D.str z) [(D.lst xs)] Q) = (∃ ys, strsD xs = some ys ∧ (ys.map (·.length)).sum + ys.length * z.length ≤ 16777216 ∧ okS (Txt.join z ys) ∧ Q (.tr (.str (Txt.join z ys)))) := rfl
@[simp] theorem rd_19 (z : Str) (xs : List D) (Q : SV → Prop) : (gJoin (D.str z) [(D.tup xs)] Q) = (∃ ys, strsD xs = some ys ∧ (ys.map (·.length)).sum + ys.length * z.length ≤ 16777216 ∧ okS (Txt.join z ys) ∧ Q (.tr (.str (Txt.join z ys)))) := rfl
@[simp] theorem rd_20 (T : String) (x : Str) : (tyD T (D.str x)) = (T = "str") := rfl
@[simp] theorem rd_21 (T : String) (xs : List D) : (tyD T (D.lst xs)) = (T = "list") := rfl
@[simp] theorem rd_22 (xs : List D) (Q : SV → Prop) : (gLen [(D.lst xs)] Q) = (Q (.tr (.int xs.length))) := rfl
@[simp] theorem rd_23 (xs : List D) (Q : SV → Prop) : (gLen [(D.tup xs)] Q) = (Q (.tr (.int xs.length))) := rfl
@[simp] theorem rd_24 (x : Str) (Q : SV → Prop) : (gLen [(D.str x)] Q) = (Q (.tr (.int x.length))) := rfl
@[simp] theorem rd_25 (xs : List D) (Q : SV → Prop) : (gAll [(D.lst xs)] Q) = (∃ bs, blsD xs = some bs ∧ Q (.tr (.bl (bs.all id)))) := rfl
@[simp] theorem rd_26 (xs : List D) (Q : SV → Prop) : (gAny [(D.lst xs)] Q) = (∃ bs, blsD xs = some bs ∧ Q (.tr (.bl (bs.any id)))) := rfl
@[simp] theorem rd_27 (xs : List D) (Q : SV → Prop) : (gSum [(D.lst xs)] Q) = (∃ bs, intsD xs = some bs ∧ Q (.tr (.int bs.sum))) := rfl
@[simp] theorem rd_28 (neg : Bool) (d : D) (ys : List D) (Q : SV → Prop) : (gIn neg d (D.lst ys) Q) = (d.dat = true ∧ dats ys = true ∧ d.dep ≤ 60 ∧ deps ys ≤ 60 ∧ Q (.tr (.bl (if neg then !ys.any (fun z => deq z d) else ys.any fun z => deq z d)))) := rfl
@[simp] theorem rd_29 (neg : Bool) (d : D) (ys : List D) (Q : SV → Prop) : (gIn neg d (D.tup ys) Q) = (d.flat = true ∧ ys.all D.flat = true ∧ Q (.tr (.bl (if neg then !ys.any (fun z => deq z d) else ys.any fun z => deq z d)))) := rfl
@[simp] theorem rd_30 (xs : List D) (i : Int) (Q : SV → Prop) : (gIxD (D.lst xs) (D.int i) Q) = (∃ d, atI xs i = some d ∧ Q (.tr d)) := rfl
@[simp] theorem rd_31 (xs : List D) (i : Int) (Q : SV → Prop) : (gIxD (D.tup xs) (D.int i) Q) = (∃ d, atI xs i = some d ∧ Q (.tr d)) := rfl
@[simp] theorem rd_32 (z : Str) (i : Int) (Q : SV → Prop) : (gIxD (D.str z) (D.int i) Q) = (∃ c, atI z.cps.toList i = some c ∧ Q (.tr (.str ⟨#[c]⟩))) := rfl
@[simp] theorem rd_33 (xs : List D) (lo : Option Int) (hi : Option Int) (Q : SV → Prop) : (gSlD (D.lst xs) lo hi Q) = (Q (.own (.lst (cutD xs lo hi)))) := rfl
@[simp] theorem rd_34 (xs : List D) (lo : Option Int) (hi : Option Int) (Q : SV → Prop) : (gSlD (D.tup xs) lo hi Q) = (Q (.tr (.tup (cutD xs lo hi)))) := rfl
@[simp] theorem rd_35 (z : Str) (lo : Option Int) (hi : Option Int) (Q : SV → Prop) : (gSlD (D.str z) lo hi Q) = (Q (.tr (.str (cutS z lo hi)))) := rfl
@[simp] theorem gIn_sign (neg : Bool) (z : Str) (c : Nat) (Q : SV → Prop) : (gIn neg (D.str ⟨#[c]⟩) (D.str z) Q) = (Q (.tr (.bl (if neg then !decide (c ∈ z.cps.toList) else decide (c ∈ z.cps.toList))))) := by
  simp [gIn, sign?]
theorem gSeq_go {g g' : GS} {D : VEnds} {S : S} (h : ∀ R, R = g' D → g { D with nx := R } S) : gSeq g g' D S := h _ rfl
/-! ### comprehensions, loops: what their readings come to -/
inductive All2 {α β : Type} (P : α → β → Prop) : List α → List β → Prop where
  | nil : All2 P [] []
  | cons {a b l m} : P a b → All2 P l m → All2 P (a :: l) (b :: m)
theorem All2.length {α β : Type} {P : α → β → Prop} {l : List α} {m : List β} (h : All2 P l m) : l.length = m.length := by
  induction h with
  | nil => rfl
  | cons _ _ ih => rw [List.length_cons, List.length_cons, ih]
theorem All2.snoc {α β : Type} {P : α → β → Prop} {l : List α} {m : List β} {a : α} {b : β} (h : All2 P l m) (k : P a b) : All2 P (l ++ [a]) (m ++ [b]) := by
  induction h with
  | nil => exact .cons k .nil
  | cons x _ ih => exact .cons x ih
theorem All2.all {α β : Type} {P : α → β → Prop} {R : β → Prop} {l : List α} {m : List β} (h : All2 P l m) (k : ∀ a b, P a b → R b) : ∀ b ∈ m, R b := by
  induction h with
  | nil => intro b hb; cases hb
  | cons x _ ih =>
    intro b hb
    cases hb with
    | head => exact k _ _ x
    | tail _ hb => exact ih b hb
def LcW (gg : GG) (gt : GT) (ge : GE) (vs : List Nat) (S : S) (Q : SV → Prop) (ds : List D) : Prop := ∃ W : List D → List D → Prop, W ds [] ∧ (∀ acc, W [] acc → Q (.own (.lst acc))) ∧
  ∀ d r acc, W (d :: r) acc → gg d (wipeS S vs) fun S2 => gt S2 fun b => if b = true then ge S2 fun sv => ∃ y, sv = .tr y ∧ acc.length < sizeLine ∧ W r (acc ++ [y]) else W r acc
@[simp] theorem gLc_eq (gi : GI) (gg : GG) (gt : GT) (ge : GE) (vs : List Nat) (S : S) (Q : SV → Prop) : gLc gi gg gt ge vs S Q = gi S (LcW gg gt ge vs S Q) := rfl
def ForW (gg : GG) (gb : GS) (D : VEnds) (S : S) (ds : List VT.D) : Prop := ∃ W : List VT.D → VT.S → Prop, W ds S ∧ (∀ S', W [] S' → D.nx S') ∧
  ∀ d r S1, W (d :: r) S1 → gg d S1 fun S2 => gb { nx := W r, rt := D.rt, bk := D.nx, ct := W r } S2
@[simp] theorem gFor_eq (gi : GI) (gg : GG) (gb : GS) (D : VEnds) (S : S) : gFor gi gg gb D S = gi S (ForW gg gb D S) := rfl
section
variable {gg : GG} {gt : GT} {ge : GE} {vs : List Nat} {S : S} {Q : SV → Prop} {ds : List D}
/-- [e for tg in it if t] -/
theorem lcW_filter {α : Type} (g : α → D) (keep : α → Bool) (f : α → D) {as : List α} (hds : ds = as.map g) (hl : as.length ≤ sizeLine) (hs : ∀ a ∈ as, ∀ (R : SV → Prop) (R2 : Prop), (keep a = true → R (.tr (f a))) → (keep a = false → R2) → gg (g a) (wipeS S vs) fun S2 => gt S2 fun b => if b = true then ge S2 R else R2)
    (q : Q (.own (.lst ((as.filter keep).map f)))) : LcW gg gt ge vs S Q ds := by
  subst hds
  refine ⟨fun r acc => ∃ l r', as = l ++ r' ∧ r = r'.map g ∧ acc = (l.filter keep).map f, ⟨[], as, rfl, rfl, rfl⟩, fun acc ⟨l, r', e, er, ea⟩ => ?_, fun d r acc ⟨l, r', e, er, ea⟩ => ?_⟩
  · cases r' with
    | cons _ _ => simp at er
    | nil =>
      rw [List.append_nil] at e
      rw [ea, ← e]
      exact q
  · cases r' with
    | nil => simp at er
    | cons a r' =>
      simp at er
      obtain ⟨rfl, rfl⟩ := er
      have hd : a ∈ as := by rw [e]; simp
      have h2 : (l.filter keep).length ≤ l.length := List.length_filter_le _ _
      have hlen : acc.length < sizeLine := by
        rw [ea, List.length_map]
        rw [e] at hl
        simp at hl
        omega
      exact hs a hd _ _ (fun k => ⟨_, rfl, hlen, l ++ [a], r', by rw [e]; simp, rfl, by rw [ea]; simp [k]⟩) fun k => ⟨l ++ [a], r', by rw [e]; simp, rfl, by rw [ea]; simp [k]⟩
/-- [e for tg in it] -/
theorem lcW_map {α : Type} (g : α → D) (f : α → D) {as : List α} (hds : ds = as.map g) (hl : as.length ≤ sizeLine) (hs : ∀ a ∈ as, ∀ R : SV → Prop, R (.tr (f a)) → gg (g a) (wipeS S vs) fun S2 => ge S2 R)
    (q : Q (.own (.lst (as.map f)))) : LcW gg gYes ge vs S Q ds :=
  lcW_filter g (fun _ => true) f hds hl (fun d hd R R2 h1 h2 => by simpa using hs d hd R (h1 rfl)) (by rw [List.filter_eq_self.mpr fun _ _ => rfl]; exact q)
/-- .. of the items themselves -/
theorem lcW_mapD (f : D → D) (hl : ds.length ≤ sizeLine) (hs : ∀ a ∈ ds, ∀ R : SV → Prop, R (.tr (f a)) → gg a (wipeS S vs) fun S2 => ge S2 R)
    (q : Q (.own (.lst (ds.map f)))) : LcW gg gYes ge vs S Q ds := lcW_map (fun d => d) f (List.map_id' ds).symm hl hs q
/-- items of which only P is known -/
theorem lcW_some (P : D → D → Prop) (hl : ds.length ≤ sizeLine) (hs : ∀ d ∈ ds, ∀ R : SV → Prop, (∀ y, P d y → R (.tr y)) → gg d (wipeS S vs) fun S2 => ge S2 R)
    (q : ∀ ys, All2 P ds ys → Q (.own (.lst ys))) : LcW gg gYes ge vs S Q ds := by
  refine ⟨fun r acc => ∃ l, ds = l ++ r ∧ All2 P l acc, ⟨[], rfl, .nil⟩, fun acc ⟨l, e, ea⟩ => ?_, fun d r acc ⟨l, e, ea⟩ => ?_⟩
  · rw [List.append_nil] at e
    subst e
    exact q _ ea
  · have hd : d ∈ ds := by rw [e]; simp
    have hlen : acc.length < sizeLine := by
      have := ea.length
      rw [e] at hl
      simp at hl
      omega
    simpa using hs d hd (fun sv => ∃ y, sv = .tr y ∧ acc.length < sizeLine ∧ ∃ l, ds = l ++ r ∧ All2 P l (acc ++ [y])) fun y hy => ⟨y, rfl, hlen, l ++ [d], by rw [e]; simp, ea.snoc hy⟩
end
@[simp] theorem le_sizeLine (n : Nat) : (n ≤ sizeLine) = (n ≤ 16777216) := rfl
@[simp] theorem lt_sizeLine (n : Nat) : (n < sizeLine) = (n < 16777216) := rfl
theorem atI_lt {α : Type} {xs : List α} {r : Int} (h0 : 0 ≤ r) (h1 : r < xs.length) : ∃ d, d ∈ xs ∧ atI xs r = some d := by
  have hj : r.toNat < xs.length := by omega
  refine ⟨xs[r.toNat], List.getElem_mem hj, ?_⟩
  unfold atI ixN
  rw [if_pos (by omega), if_pos (by omega)]
  simp
theorem log_lt {n : Nat} (h : n ≤ 10 ^ 40) : n.log2 < 9000 := by
  by_cases h0 : n = 0
  · subst h0; decide
  · rw [Nat.log2_lt h0]
    exact Nat.lt_of_le_of_lt h (Nat.lt_of_lt_of_le (by decide : 10 ^ 40 < 2 ^ 200) (Nat.pow_le_pow_right (by decide) (by decide)))
theorem zipD_eq : ∀ xs ys : List D, zipD xs ys = (xs.zip ys).map fun p => .tup [p.1, p.2]
  | x :: xs, y :: ys => by rw [zipD, List.zip_cons_cons, List.map_cons, zipD_eq xs ys]
  | [], _ => by simp [zipD]
  | _ :: _, [] => by simp [zipD]
def zipR (c : Bool) (Q : List D → Prop) : List SV → Prop := fun svs => ∃ sx sy, svs = [sx, sy] ∧ ((∃ ds es, sx.stays c ∧ sy.stays c ∧ sx.d = .lst ds ∧ sy.d = .lst es ∧ Q (zipD ds es)) ∨ (∃ ds es, sx.d = .tup ds ∧ sy.d = .tup es ∧ Q (zipD ds es)))
@[simp] theorem giZip_eq (c : Bool) (ga : GA) (S : S) (Q : List D → Prop) : giZip c ga S Q = ga S (zipR c Q) := rfl
theorem zipR_lst (c : Bool) (Q : List D → Prop) (x y : SV) (xs ys : List D) (hx : x.d = .lst xs) (hy : y.d = .lst ys) (sx : x.stays c) (sy : y.stays c) : zipR c Q [x, y] ↔ Q (zipD xs ys) := by
  constructor
  · rintro ⟨a, b, e, h⟩
    cases e
    rcases h with ⟨_, _, _, _, e1, e2, h⟩ | ⟨_, _, e1, e2, h⟩ <;> rw [hx] at e1 <;> rw [hy] at e2 <;> cases e1 <;> cases e2
    exact h
  · exact fun h => ⟨x, y, rfl, .inl ⟨xs, ys, sx, sy, hx, hy, h⟩⟩
@[simp] theorem zipR_tup (c : Bool) (Q : List D → Prop) (xs ys : List D) : zipR c Q [.tr (.tup xs), .tr (.tup ys)] ↔ Q (zipD xs ys) := by
  constructor
  · rintro ⟨a, b, e, h⟩
    cases e
    rcases h with ⟨_, _, _, _, e1, e2, h⟩ | ⟨_, _, e1, e2, h⟩ <;> cases e1 <;> cases e2
    exact h
  · exact fun h => ⟨_, _, rfl, .inr ⟨xs, ys, rfl, rfl, h⟩⟩
def enumR (c : Bool) (Q : List D → Prop) : List SV → Prop := fun svs => ∃ sv ds, svs = [sv] ∧ sv.stays c ∧ sv.d = .lst ds ∧ Q (enumD ds)
@[simp] theorem giEnum_eq (c : Bool) (ga : GA) (S : S) (Q : List D → Prop) : giEnum c ga S Q = ga S (enumR c Q) := rfl
theorem enumR_lst (c : Bool) (Q : List D → Prop) (x : SV) (xs : List D) (hx : x.d = .lst xs) (sx : x.stays c) : enumR c Q [x] ↔ Q (enumD xs) := by
  constructor
  · rintro ⟨a, ds, e, _, e1, h⟩
    cases e
    rw [hx] at e1
    cases e1
    exact h
  · exact fun h => ⟨x, xs, rfl, sx, hx, h⟩
@[simp] theorem dat_non : D.dat D.non = true := rfl
@[simp] theorem dep_non : D.dep D.non = 0 := rfl
@[simp] theorem flat_non : D.flat D.non = true := rfl
@[simp] theorem dat_bl (b : Bool) : D.dat (D.bl b) = true := rfl
@[simp] theorem dep_bl (b : Bool) : D.dep (D.bl b) = 0 := rfl
@[simp] theorem flat_bl (b : Bool) : D.flat (D.bl b) = true := rfl
@[simp] theorem dat_int (i : Int) : D.dat (D.int i) = true := rfl
@[simp] theorem dep_int (i : Int) : D.dep (D.int i) = 0 := rfl
@[simp] theorem flat_int (i : Int) : D.flat (D.int i) = true := rfl
@[simp] theorem dat_str (x : Str) : D.dat (D.str x) = true := rfl
@[simp] theorem dep_str (x : Str) : D.dep (D.str x) = 0 := rfl
@[simp] theorem flat_str (x : Str) : D.flat (D.str x) = true := rfl
@[simp] theorem dat_lst (xs : List D) : D.dat (.lst xs) = dats xs := rfl
@[simp] theorem dat_tup (xs : List D) : D.dat (.tup xs) = dats xs := rfl
@[simp] theorem dep_lst (xs : List D) : D.dep (.lst xs) = deps xs + 1 := rfl
@[simp] theorem dep_tup (xs : List D) : D.dep (.tup xs) = deps xs + 1 := rfl
@[simp] theorem dats_nil : dats [] = true := rfl
@[simp] theorem dats_cons (x : D) (xs : List D) : dats (x :: xs) = (x.dat && dats xs) := rfl
@[simp] theorem deps_nil : deps [] = 0 := rfl
@[simp] theorem deps_cons (x : D) (xs : List D) : deps (x :: xs) = max x.dep (deps xs) := rfl
@[simp] theorem deq_bl (a b : Bool) : deq (.bl a) (.bl b) = (a == b) := rfl
@[simp] theorem deq_int (a b : Int) : deq (.int a) (.int b) = (a == b) := rfl
@[simp] theorem deq_str (a b : Str) : deq (.str a) (.str b) = (a == b) := rfl
@[simp] theorem deq_non : deq .non .non = true := rfl
@[simp] theorem deq_lst (xs ys : List D) : deq (.lst xs) (.lst ys) = deqs xs ys := rfl
@[simp] theorem deq_tup (xs ys : List D) : deq (.tup xs) (.tup ys) = deqs xs ys := rfl
@[simp] theorem deqs_nil : deqs [] [] = true := rfl
@[simp] theorem deqs_cons (x y : D) (xs ys : List D) : deqs (x :: xs) (y :: ys) = (deq x y && deqs xs ys) := rfl
@[simp] theorem deqs_nc (y : D) (ys : List D) : deqs [] (y :: ys) = false := rfl
@[simp] theorem deqs_cn (x : D) (xs : List D) : deqs (x :: xs) [] = false := rfl
@[simp] theorem zipR_tt (c : Bool) (Q : List D → Prop) (xs ys : List D) : zipR c Q [.tr (.lst xs), .tr (.lst ys)] ↔ Q (zipD xs ys) := zipR_lst c Q _ _ xs ys rfl rfl trivial trivial
@[simp] theorem zipR_bt (c : Bool) (Q : List D → Prop) (xs ys : List D) : zipR c Q [.brw (.lst xs), .tr (.lst ys)] ↔ Q (zipD xs ys) := zipR_lst c Q _ _ xs ys rfl rfl trivial trivial
@[simp] theorem zipR_tb (c : Bool) (Q : List D → Prop) (xs ys : List D) : zipR c Q [.tr (.lst xs), .brw (.lst ys)] ↔ Q (zipD xs ys) := zipR_lst c Q _ _ xs ys rfl rfl trivial trivial
@[simp] theorem zipR_bb (c : Bool) (Q : List D → Prop) (xs ys : List D) : zipR c Q [.brw (.lst xs), .brw (.lst ys)] ↔ Q (zipD xs ys) := zipR_lst c Q _ _ xs ys rfl rfl trivial trivial
@[simp] theorem enumR_t (c : Bool) (Q : List D → Prop) (xs : List D) : enumR c Q [.tr (.lst xs)] ↔ Q (enumD xs) := enumR_lst c Q _ xs rfl trivial
@[simp] theorem enumR_b (c : Bool) (Q : List D → Prop) (xs : List D) : enumR c Q [.brw (.lst xs)] ↔ Q (enumD xs) := enumR_lst c Q _ xs rfl trivial
/-! lists of up to 4096 items -/
mutual
def D.wid : D → Bool
  | .lst xs | .tup xs => decide (xs.length ≤ 4096) && wids xs
  | _ => true
def wids : List D → Bool
  | [] => true
  | x :: xs => x.wid && wids xs
end
@[simp] theorem wid_lst (xs : List D) : D.wid (.lst xs) = (decide (xs.length ≤ 4096) && wids xs) := rfl
@[simp] theorem wid_tup (xs : List D) : D.wid (.tup xs) = (decide (xs.length ≤ 4096) && wids xs) := rfl
@[simp] theorem wid_non : D.wid .non = true := rfl
@[simp] theorem wid_bl (b : Bool) : D.wid (.bl b) = true := rfl
@[simp] theorem wid_int (b : Int) : D.wid (.int b) = true := rfl
@[simp] theorem wid_str (b : Str) : D.wid (.str b) = true := rfl
@[simp] theorem wids_nil : wids [] = true := rfl
@[simp] theorem wids_cons (x : D) (xs : List D) : wids (x :: xs) = (x.wid && wids xs) := rfl
theorem wids_all {xs : List D} (h : wids xs = true) : ∀ x ∈ xs, x.wid = true := by
  induction xs with
  | nil => intro x hx; cases hx
  | cons y ys ih =>
    intro x hx
    simp at h
    cases hx with
    | head => exact h.1
    | tail _ hx => exact ih h.2 x hx
theorem wids_map {α : Type} {f : α → D} {xs : List α} (h : ∀ x ∈ xs, (f x).wid = true) : wids (xs.map f) = true := by
  induction xs with
  | nil => rfl
  | cons y ys ih => simp [h y, ih fun x hx => h x (List.mem_cons_of_mem _ hx)]
theorem dep_lt_of_mem {xs : List D} {n : Nat} (h : deps xs < n) : ∀ x ∈ xs, x.dep < n := by
  intro x hx
  induction xs with
  | nil => cases hx
  | cons y ys ih =>
    simp at h
    cases hx with
    | head => omega
    | tail _ hx => exact ih (by omega) hx
theorem dats_all {xs : List D} (h : dats xs = true) : ∀ x ∈ xs, x.dat = true := by
  induction xs with
  | nil => intro x hx; cases hx
  | cons y ys ih =>
    intro x hx
    simp at h
    cases hx with
    | head => exact h.1
    | tail _ hx => exact ih h.2 x hx
theorem deps_all {xs : List D} {n : Nat} (h : deps xs ≤ n) : ∀ x ∈ xs, x.dep ≤ n := by
  induction xs with
  | nil => intro x hx; cases hx
  | cons y ys ih =>
    intro x hx
    simp at h
    cases hx with
    | head => omega
    | tail _ hx => exact ih (by omega) x hx
theorem dats_map {α : Type} {f : α → D} {xs : List α} (h : ∀ x ∈ xs, (f x).dat = true) : dats (xs.map f) = true := by
  induction xs with
  | nil => rfl
  | cons y ys ih => simp [h y, ih fun x hx => h x (List.mem_cons_of_mem _ hx)]
theorem deps_map {α : Type} {f : α → D} {xs : List α} {n : Nat} (h : ∀ x ∈ xs, (f x).dep ≤ n) : deps (xs.map f) ≤ n := by
  induction xs with
  | nil => exact Nat.zero_le _
  | cons y ys ih =>
    simp
    have h1 := h y (List.mem_cons_self ..)
    have h2 := ih fun x hx => h x (List.mem_cons_of_mem _ hx)
    omega
theorem FnV.none {P : Program} {w : World} {K : PySem.W.Frag} {mg : Str → Option Value} {base : Heap} {d : He.DefD} {k : Nat} {ps : List Str} (h : DefAt K mg d) : FnV P w K mg base d k ps fun _ _ => False := by
  obtain ⟨⟨fd, hf⟩, hm⟩ := h
  exact ⟨⟨fd, hf, ⟨fun vs H Q E ⟨_, _, _, _, _, _, z, _⟩ => z.elim, fun A outer s H args us vs Q E _ _ _ _ ⟨_, _, _, _, _, _, z, _⟩ => z.elim⟩⟩, hm⟩
end VT

namespace VT
open PySem PySem.Spec PyProof.Rows L2

/-! ### joined texts -/
theorem okS_joinS {sep : Str} (hs : PyData.strOk sep = true) : ∀ {ys : List Str}, (∀ y ∈ ys, PyData.strOk y = true) → PyData.strOk (Str.join sep ys) = true ∧ (Str.join sep ys).length ≤ (ys.map (·.length)).sum + ys.length * sep.length
  | [], _ => ⟨by show PyData.strOk Str.empty = true; decide +kernel, Nat.zero_le _⟩
  | [y], h => ⟨h y (List.mem_cons_self ..), by
    show y.length ≤ _
    simp⟩
  | y :: z :: r, h => by
    obtain ⟨h1, h2⟩ := okS_joinS (ys := z :: r) hs fun x hx => h x (List.mem_cons_of_mem _ hx)
    show PyData.strOk (y ++ sep ++ Str.join sep (z :: r)) = true ∧ (y ++ sep ++ Str.join sep (z :: r)).length ≤ _
    refine ⟨strOk_append (strOk_append (h y (List.mem_cons_self ..)) hs) h1, ?_⟩
    rw [length_append, length_append]
    simp only [List.map_cons, List.sum_cons, List.length_cons, Nat.add_mul, Nat.one_mul] at h2 ⊢
    omega
theorem okS_join {sep : Str} {ys : List Str} (hs : PyData.strOk sep = true) (h : ∀ y ∈ ys, PyData.strOk y = true) (hl : (ys.map (·.length)).sum + ys.length * sep.length ≤ sizeLine) : okS (Txt.join sep ys) ∧ (Txt.join sep ys).length ≤ (ys.map (·.length)).sum + ys.length * sep.length := by
  have e : Txt.join sep ys = Str.join sep ys := by
    show Builtin.Str.glued sep ys = _
    rw [StrLaws.glued_eq_join]
  rw [e]
  obtain ⟨h1, h2⟩ := okS_joinS hs h
  exact ⟨⟨h1, by omega⟩, h2⟩
theorem sum_le {α : Type} (f : α → Nat) (n : Nat) : ∀ {l : List α}, (∀ x ∈ l, f x ≤ n) → (l.map f).sum ≤ l.length * n
  | [], _ => by simp
  | a :: l, h => by
    have h1 := h a (List.mem_cons_self ..)
    have h2 := sum_le f n (l := l) fun x hx => h x (List.mem_cons_of_mem _ hx)
    simp only [List.map_cons, List.sum_cons, List.length_cons, Nat.add_mul, Nat.one_mul]
    omega
theorem strs_of {P : Str → Prop} : ∀ {ds : List D}, (∀ d ∈ ds, ∃ x, d = .str x ∧ P x) → ∃ ys : List Str, ds = ys.map D.str ∧ ∀ y ∈ ys, P y
  | [], _ => ⟨[], rfl, fun _ h => nomatch h⟩
  | d :: ds, h => by
    obtain ⟨x, rfl, hx⟩ := h d (List.mem_cons_self ..)
    obtain ⟨ys, rfl, hy⟩ := strs_of (ds := ds) fun e he => h e (List.mem_cons_of_mem _ he)
    refine ⟨x :: ys, rfl, fun y hm => ?_⟩
    cases hm with
    | head => exact hx
    | tail _ hm => exact hy y hm
theorem strsD_str (ys : List Str) : strsD (ys.map D.str) = some ys := by
  have := strsD_map (fun x : Str => x) ys
  simpa using this
@[simp] theorem rngD_len (lo : Int) (n : Nat) : (rngD lo n).length = n := by simp [rngD]
theorem okS_app {x y : Str} (hx : okS x) (hy : okS y) (h : x.length + y.length ≤ sizeLine) : okS (x ++ y) := ⟨strOk_append hx.1 hy.1, by rw [length_append]; exact h⟩
theorem cutS_len (z : Str) (lo hi : Option Int) : (cutS z lo hi).length ≤ z.length := by
  show (cutS z lo hi).cps.size ≤ z.cps.size
  unfold cutS
  simp
  omega
/-! ### the law's own def: the bag is made, then the rest is read -/
def tEx (K : PySem.W.Frag) (g : GS) : TS := fun D σ H => ∃ G0 H0, G0.T = TabsOf K ∧ TSV G0 H0 g D σ H
theorem VSs.ex {X : Cx} {st : List Stmt} {g : GS} (h : VSs X E0T st g) : PSs X st (tEx X.K g) := ⟨fun pins s σ H D I ⟨G0, H0, e, q⟩ => (h.pss G0 H0 (Lk.e0 e)).run pins s σ H D I q⟩
def cellsV (ns : List Int) : List V := (ns.take 63).map V.int
def spBag (K : PySem.W.Frag) : Sp := fun vs H Q _ => ∃ (a : Addr) (ns : List Int), vs = [.ref a] ∧ SqL K H a (ns.map V.int) ∧
  ∀ H' c p, H c = none → H p = none → H' c = some (.lst (cellsV ns)) → H' p = some (.lst [.ref c, .int 0, .int 0, .int (10004 + 13 * (cellsV ns).length)]) → (∀ b o, H b = some o → H' b = some o) → Q (.ref p) H'
theorem cut63 (ns : List Int) : cutV (ns.map V.int) none (some 63) = cellsV ns := by
  unfold cutV cellsV HT.sIx
  rw [List.map_take]
  simp
theorem cells_len (ns : List Int) : (cellsV ns).length ≤ 63 := by
  unfold cellsV
  rw [List.length_map, List.length_take]
  omega
/-- what is frozen at the start: the cells, the program's tuples -/
def bagF (c : Addr) (ns : List Int) (T : TBL) (H' : Hp) : Hp := fun x => if x = c then some (HO.lst (cellsV ns)) else if T.tups.any (fun q => decide (q.1 = x)) = true then H' x else none
/-- one list and the bag over it stand: the rest's reading may begin -/
theorem bag_start {K : PySem.W.Frag} {ns : List Int} {H' : Hp} {c p : Addr} {g : GS} {D : Ends} {σ : L2.St} {n : Nat} (hcp : c ≠ p) (hc : H' c = some (.lst (cellsV ns))) (hp : H' p = some (.lst [.ref c, .int 0, .int 0, .int (10004 + 13 * (cellsV ns).length)])) (hσ1 : σ[1]? = some (some (.ref p))) (hσ : σ.length = n + 2) (hT : (∀ p ∈ (TabsOf K).tabs, H' p.1 = some (.tbl #[])) ∧ ∀ p ∈ (TabsOf K).tups, ∃ (o : Obj) (vs : List V), o.dict = none ∧ H' p.1 = some (.frz o (.tup vs)) ∧ reps (fun _ => none) p.2 vs)
    (DV : VEnds) (q : g DV (none :: some .bag :: List.replicate n none)) (hnx : ∀ S, DV.nx S → ∀ σ H, D.nx σ H) (hrt : ∀ sv, DV.rt sv → ∀ v H, (∀ G H0, RepV H0 H0 G H v sv → D.rt v H)) (hbk : ∀ S, ¬ DV.bk S) (hct : ∀ S, ¬ DV.ct S) : tEx K g D σ H' := by
  have nt : ∀ b, (TabsOf K).tups.any (fun q => decide (q.1 = b)) = true → ∃ o vs, H' b = some (.frz o (.tup vs)) := fun b h => by
    obtain ⟨q, hq, e⟩ := List.any_eq_true.mp h
    obtain ⟨o, vs, _, z, _⟩ := hT.2 q hq
    rw [of_decide_eq_true e] at z
    exact ⟨o, vs, z⟩
  have nf : ∀ (b : Addr) (u : HO), H' b = some u → (∀ o vs, u ≠ .frz o (.tup vs)) → b ≠ c → (bagF c ns (TabsOf K) H') b = none := fun b u e n hb => by
    unfold bagF
    rw [if_neg hb]
    cases h : (TabsOf K).tups.any fun q => decide (q.1 = b) with
    | false => rfl
    | true =>
      obtain ⟨o, vs, z⟩ := nt b h
      rw [e] at z
      exact (n o vs (Option.some.inj z)).elim
  have ne : (bagF c ns (TabsOf K) H') p = none := nf p _ hp (by intro o vs z; cases z) (Ne.symm hcp)
  have ec : (bagF c ns (TabsOf K) H') c = some (.lst (cellsV ns)) := by unfold bagF; rw [if_pos rfl]
  have ok : OkG ⟨bagF c ns (TabsOf K) H', some p, TabsOf K⟩ H' := by
    refine ⟨fun b o e => ?_, fun q e => ?_, fun p hp => ⟨nf _ _ (hT.1 p hp) (by intro o vs z; cases z) (fun z => by have z : p.1 = c := z; have q := hT.1 p hp; rw [z, hc] at q; cases q), #[], hT.1 p hp, True.intro, fun pos cv hc => by simp [codeAmong] at hc⟩, fun p hp => ?_⟩
    · have e : bagF c ns (TabsOf K) H' b = some o := e
      unfold bagF at e
      split at e
      · rename_i hb
        rw [hb, hc]
        exact e
      · split at e
        · exact e
        · cases e
    · have e2 : p = q := Option.some.inj e
      subst e2
      have := cells_len ns
      refine ⟨⟨c, ns.take 63, 0, 0, _, hp, ec, by rw [List.length_take]; omega, by omega, by omega, by omega, by omega⟩, ne⟩
    · obtain ⟨o, vs, h1, h2, h3⟩ := hT.2 p hp
      refine ⟨o, vs, h1, ?_, h3⟩
      show bagF c ns (TabsOf K) H' p.1 = _
      unfold bagF
      have hc2 : p.1 ≠ c := fun z => by rw [z, hc] at h2; cases h2
      have ha : ((TabsOf K).tups.any fun q => decide (q.1 = p.1)) = true := List.any_eq_true.mpr ⟨p, hp, by simp⟩
      rw [if_neg hc2, if_pos ha]
      exact h2
  refine ⟨⟨bagF c ns (TabsOf K) H', some p, TabsOf K⟩, H', rfl, ⟨bagF c ns (TabsOf K) H', some p, TabsOf K⟩, none :: some .bag :: List.replicate n none, DV, ?_, q, ⟨fun σ H G S _ _ h => hnx S h σ H, fun v H G sv _ r _ h => hrt sv h v H G _ r, fun _ _ _ S _ _ h => (hbk S h).elim, fun _ _ _ S _ _ h => (hct S h).elim⟩⟩
  have hs : ∀ (i : Nat) (sv : SV), (none :: some SV.bag :: List.replicate n (none : Option SV))[i]? = some (some sv) → i = 1 ∧ sv = .bag := by
    intro i sv e
    match i with
    | 0 => simp at e
    | 1 => simp at e; exact ⟨rfl, e.symm⟩
    | i + 2 =>
      simp at e
      rw [List.getElem?_replicate] at e
      split at e <;> cases e
  refine ⟨.refl ok, by simp [hσ], fun i sv e => ?_, fun i j sv sw v w b _ e _ _ _ o => ?_, fun i sv e => ?_⟩
  · obtain ⟨rfl, rfl⟩ := hs i sv e
    exact ⟨_, hσ1, p, rfl, rfl⟩
  · obtain ⟨rfl, rfl⟩ := hs i sv e
    exact o.elim
  · obtain ⟨rfl, rfl⟩ := hs i sv e
    trivial
def spLaw (K : PySem.W.Frag) : Sp := fun vs H Q _ => ∃ (a : Addr) (ns : List Int), vs = [.ref a] ∧ SqL K H a (ns.map V.int) ∧ ((∀ p ∈ (TabsOf K).tabs, H p.1 = some (.tbl #[])) ∧ ∀ p ∈ (TabsOf K).tups, ∃ (o : Obj) (vs : List V), o.dict = none ∧ H p.1 = some (.frz o (.tup vs)) ∧ reps (fun _ => none) p.2 vs) ∧ ∀ H', Q (.bl true) H'
def VLaw : VEnds := { nx := fun _ => False, rt := fun sv => sv = .tr (.bl true) }
section
variable {P : Program} {w : World} {K : PySem.W.Frag} {mg : Str → Option Value} {base : Heap} {d : He.DefD} {k : Nat} {N : List Str} {g : GS}
theorem law_ok (Sc : FnScope ("_law_script" :: "_law_bag_here" :: N) ["_law_script"] d.scope)
    (hbody : ∀ (f : Addr) (cdv : Value) (A : Around) (outer : List Env) (s : Shared) (H : Hp) (E : XK), Room k (A.deeper (envOfC d.qual d.scope s.heap.objs.size f cdv)) →
      PSs (cxOf CX0 P w K mg base ("_law_script" :: "_law_bag_here" :: N) d.qual d.scope f cdv A outer s H E).nox d.body (tSeq (tAsg (tCall (spBag K) [] E0 (tCons (tVar 0) tNil)) (L2.gName 1)) (tEx K g)))
    (pure_ : g VLaw (none :: some .bag :: List.replicate N.length none)) :
    ∀ fd, FunD K d.name d.qual d.params d.body d.scope (d.dvs K) (d.kws K) (He.fAd K d.at_) fd → FnOk P w K mg base CX0 (k + 1) (He.fAd K d.at_) fd ["_law_script"] (spLaw K) := by
  intro fd hf
  refine hf.ok Sc (fun vs H Q E ⟨a, ns, e, _⟩ => by rw [e]; rfl) (fun cdv A outer s H vs Q E hr hsp => ⟨_, PSs.nox (hbody _ cdv A outer s H E hr), ?_⟩)
  obtain ⟨a, ns, rfl, hS, hT, hq⟩ := hsp
  refine ⟨_, rfl, ?_⟩
  refine ⟨a, ns, rfl, hS, fun H' c p hc hp ec ep kp => ?_⟩
  have hcp : c ≠ p := fun z => by
    rw [z, ep] at ec

    cases hn : cellsV ns with
    | nil => rw [hn] at ec; cases ec
    | cons x xs =>
      obtain ⟨y, hy⟩ : ∃ y : Int, x = .int y := by
        unfold cellsV at hn
        have hx : x ∈ (ns.take 63).map V.int := by rw [hn]; exact List.mem_cons_self ..
        obtain ⟨y, _, hy⟩ := List.mem_map.mp hx
        exact ⟨y, hy.symm⟩
      rw [hn, hy] at ec
      cases ec
  refine bag_start (n := N.length) hcp ec ep rfl ?_ ⟨fun p hp => kp _ _ (hT.1 p hp), fun p hp => let ⟨o, vs, h1, h2, h3⟩ := hT.2 p hp; ⟨o, vs, h1, kp _ _ h2, h3⟩⟩ VLaw pure_ (fun S z => z.elim) (fun sv e v H G H0 r => ?_) (fun _ z => z) (fun _ z => z)
  · simp [L2.start]
  · have e : sv = .tr (.bl true) := e
    subst e
    have e2 : v = .bl true := r
    subst e2
    exact hq _
end
end VT

namespace VT
open PySem PySem.Spec PyProof.Rows L2

/-! ### isinstance with two types; xs[::-1]; {} -/
@[simp] def gIsi2 (T U : Ty) (g : GE) : GE := fun S Q => g S fun sv => sv.d.kind.isSome = true ∧ Q (.tr (.bl (sv.d.isT T || sv.d.isT U)))
section
variable {X : Cx} {EX : EXT} {e : Expr} {g : GE} {pos p p2 p3 p4 : Pos} {k : Nat}
theorem ve_isi2 (T U : Ty) {x y : Str} (he : VE X EX e g) (gI : Gl X "isinstance") (mI : X.mg "isinstance" = none) (gT : Gl X x) (mT : X.mg x = none) (hT : bootBuiltins x = some (.type T.nm)) (gU : Gl X y) (mU : X.mg y = none) (hU : bootBuiltins y = some (.type U.nm))
    (hn : x ≠ "__name__" := by decide) (hd : (x == ("__debug__" : Str)) = false := by decide) (hn2 : y ≠ "__name__" := by decide) (hd2 : (y == ("__debug__" : Str)) = false := by decide)
    (h1 : starEach [e, .Tuple [.Name x p2, .Name y p3] k p4] X.env = (false, eval e X.env) :: starEach [.Tuple [.Name x p2, .Name y p3] k p4] X.env := by rfl) (h2 : starEach [.Tuple [.Name x p2, .Name y p3] k p4] X.env = (false, eval (.Tuple [.Name x p2, .Name y p3] k p4) X.env) :: starEach [] X.env := by rfl)
    (h3 : starEach [.Name x p2, .Name y p3] X.env = (false, eval (.Name x p2) X.env) :: starEach [.Name y p3] X.env := by rfl) (h4 : starEach [.Name y p3] X.env = (false, eval (.Name y p3) X.env) :: starEach [] X.env := by rfl)
    (hpl : (backTo pos (starEach [.Tuple [.Name x p2, .Name y p3] k p4] X.env)).any (·.1) = false := by rfl) : VE X EX (.Call (.Name "isinstance" p) [e, .Tuple [.Name x p2, .Name y p3] k p4] [] pos) (gIsi2 T U g) := by
  refine ⟨fun G0 H0 tk => peMono (pe_callB call_isiT gI mI (by decide +kernel) (pa_cons (he.pe G0 H0 tk) (pa_cons (pe_tup (pa_cons (pe_bltn (v := .ty T.nm) gT mT hT rfl hn hd) (pa_cons (pe_bltn (v := .ty U.nm) gU mU hU rfl hn2 hd2) pa_nil h4) h3)) pa_nil h2) h1) (by decide) (by decide) h1 hpl) fun σ H Q ⟨G, S, Qs, R, q, k⟩ => ?_⟩
  refine ⟨G, S, _, R, q, fun v H1 G1 sv E1 r1 q1 => ?_⟩
  obtain ⟨hk, q1⟩ := q1
  obtain ⟨n, hn⟩ := Option.isSome_iff_exists.mp hk
  refine ⟨by show 2 ≤ sizeLine; decide, fun t ht => ?_⟩
  have E2 := ext_new E1.ok ht (.tup [.ty T.nm, .ty U.nm])
  refine ⟨v, t, [.ty T.nm, .ty U.nm], .type n, [.type T.nm, .type U.nm], _, rfl, upd_same, .cons (.ty _) (.cons (.ty _) .nil), (r1.ext E2).ty E2.ok hn, ?_, kq_tr (d := .bl _) (kq_back (E1.trans E2) k) E2.ok rfl q1⟩
  refine kitAny_cons (kit_ty (isT_kit sv.d T n hn)) (fun z => ?_) (fun z => by rw [z, Bool.true_or])
  rw [z, Bool.false_or]
  refine kitAny_cons (kit_ty (isT_kit sv.d U n hn)) (fun z => ?_) id
  rw [z]
  exact kitAny_nil
@[simp] def gRev (g : GE) : GE := fun S Q => g S fun sv => ∃ xs, sv.d = .lst xs ∧ Q (.own (.lst xs.reverse))
theorem ve_rev (he : VE X EX e g) : VE X EX (.Subscript e (.Slice none none (some (.UnaryOp .USub (.Constant (.int 1) k p) p2)) p3) pos) (gRev g) := by
  refine ⟨fun G0 H0 tk => peMono (pe_revL (he.pe G0 H0 tk)) fun σ H Q ⟨G, S, Qs, R, q, kq⟩ => ?_⟩
  refine ⟨G, S, _, R, q, fun v H1 G1 sv E1 r1 q1 => ?_⟩
  obtain ⟨xs, hx, q1⟩ := q1
  obtain ⟨a, vs, rfl, ea, ra⟩ := r1.lst E1.ok hx
  exact ⟨a, vs, rfl, .of ea, fun t ht => kq_lst (kq_back E1 kq) E1.ok ht ra.reverse q1⟩
@[simp] def gDic0 : GE := fun S Q => Q (.own (.dic []))
theorem ve_dic0 : VE X EX (.Dict [] [] pos) gDic0 :=
  ⟨fun G0 H0 tk => peMono pe_dnewK fun σ H Q ⟨G, S, Qs, R, q, kq⟩ t ht => kq_dic (ds := []) (vs := []) kq R.ok ht rfl q⟩
end
/-- a parameter that is only looked at -/
structure IsA (sv : SV) (d : D) : Prop where
  look : sv.look = sv
  d : sv.d = d
  st : ∀ c, sv.stays c
@[simp] theorem isA_tr (x d : D) : IsA (.tr x) d ↔ x = d := ⟨fun h => h.d, fun h => ⟨rfl, h, fun _ => trivial⟩⟩
@[simp] theorem isA_brw (x d : D) : IsA (.brw x) d ↔ x = d := ⟨fun h => h.d, fun h => ⟨rfl, h, fun _ => trivial⟩⟩
theorem zipR_isa {c : Bool} {Q : List D → Prop} {x y : SV} {xs ys : List D} (hx : IsA x (.lst xs)) (hy : IsA y (.lst ys)) : zipR c Q [x, y] ↔ Q (zipD xs ys) := zipR_lst c Q x y xs ys hx.d hy.d (hx.st c) (hy.st c)
theorem zipR_isat {c : Bool} {Q : List D → Prop} {x y : SV} {xs ys : List D} (hx : IsA x (.tup xs)) (hy : IsA y (.tup ys)) : zipR c Q [x, y] ↔ Q (zipD xs ys) := by
  constructor
  · rintro ⟨a, b, e, h⟩
    cases e
    rcases h with ⟨_, _, _, _, e1, e2, h⟩ | ⟨_, _, e1, e2, h⟩ <;> rw [hx.d] at e1 <;> rw [hy.d] at e2 <;> cases e1 <;> cases e2
    exact h
  · exact fun h => ⟨x, y, rfl, .inr ⟨xs, ys, hx.d, hy.d, h⟩⟩
/-! ### the bag's promises -/
/-- a draw: any number below -/
def fDraw : FSp := fun svs Q => ∃ n : Int, svs = [.bag, .tr (.int n)] ∧ 0 < n ∧ n.natAbs.log2 < 9000 ∧ ∀ r : Int, 0 ≤ r → r < n → Q (.tr (.int r))
@[simp] theorem fDraw_eq (n : Int) (Q : SV → Prop) : fDraw [.bag, .tr (.int n)] Q ↔ 0 < n ∧ n.natAbs.log2 < 9000 ∧ ∀ r : Int, 0 ≤ r → r < n → Q (.tr (.int r)) := by simp [fDraw]
/-- the bag at p with these numbers -/
structure BagN (G : Gh) (H : Hp) (p c : Addr) (ns : List Int) (i r m : Int) : Prop where
  ok : OkG G H
  pb : G.pb = some p
  at_ : H p = some (.lst [.ref c, .int i, .int r, .int m])
  cells : G.F c = some (.lst (ns.map V.int))
  len : ns.length ≤ 63
  hi : 0 ≤ i
  hr : 0 ≤ r
  hm : 0 ≤ m ∧ m < 2147483648
theorem BagN.bag {G : Gh} {H : Hp} {p c : Addr} {ns : List Int} {i r m : Int} (b : BagN G H p c ns i r m) : BagAt G H p := ⟨c, ns, i, r, m, b.at_, b.cells, b.len, b.hi, b.hr, b.hm.1, b.hm.2⟩
theorem BagN.ne {G : Gh} {H : Hp} {p c : Addr} {ns : List Int} {i r m : Int} (b : BagN G H p c ns i r m) : c ≠ p := fun z => by
  have h := (b.ok.bag p b.pb).2
  rw [← z, b.cells] at h
  cases h
theorem BagN.cellsH {G : Gh} {H : Hp} {p c : Addr} {ns : List Int} {i r m : Int} (b : BagN G H p c ns i r m) : H c = some (.lst (ns.map V.int)) := b.ok.sub _ _ b.cells
/-- one of the numbers is stored -/
theorem BagN.put {G : Gh} {H : Hp} {p c : Addr} {ns : List Int} {i r m i' r' m' : Int} (b : BagN G H p c ns i r m) (h1 : 0 ≤ i') (h2 : 0 ≤ r') (h3 : 0 ≤ m' ∧ m' < 2147483648) : BagN G (upd H p (.lst [.ref c, .int i', .int r', .int m'])) p c ns i' r' m' := by
  have hF := (b.ok.bag p b.pb).2
  refine ⟨⟨fun x u e => ?_, fun q e => ?_, tabs_put b.ok.tabs b.at_ nofun⟩, b.pb, upd_same, b.cells, b.len, h1, h2, h3⟩
  · rw [upd_ne (fun z => by rw [z, hF] at e; cases e)]
    exact b.ok.sub x u e
  · have e2 : p = q := Option.some.inj (b.pb.symm.trans e)
    subst e2
    exact ⟨⟨c, ns, i', r', m', upd_same, b.cells, b.len, h1, h2, h3.1, h3.2⟩, hF⟩
/-- nothing but the bag was changed -/
theorem BagN.ext {G : Gh} {H H' : Hp} {p c : Addr} {ns : List Int} {i r m i' r' m' : Int} (b : BagN G H p c ns i r m) (b' : BagN G H' p c ns i' r' m') (h : ∀ x, x ≠ p → H' x = H x) : Ext G H G H' :=
  ⟨b'.ok, fun x u e q _ => by rw [h x (fun z => q (by rw [z]; exact b.pb))]; exact e, fun x ps e => ⟨ps, by rw [h x (fun z => by rw [z, b.at_] at e; cases e)]; exact e⟩, rfl, fun _ z => z, fun _ z => .inl z, fun _ _ z => z, fun _ _ z => .inl z⟩
def f1 (f : D → D) : FSp := fun svs Q => ∃ d, svs = [.tr d] ∧ d.kind.isSome = true ∧ Q (.tr (f d))
@[simp] theorem f1_eq (f : D → D) (d : D) (Q : SV → Prop) : f1 f [.tr d] Q ↔ d.kind.isSome = true ∧ Q (.tr (f d)) := by simp [f1]
theorem f1_len {f : D → D} {p : Str} : ∀ svs Qs, f1 f svs Qs → svs.length = [p].length := by
  rintro svs Qs ⟨d, rfl, _⟩; rfl
def fPick : FSp := fun svs Q => (∃ xs, svs = [.bag, .tr (.lst xs)] ∧ 0 < xs.length ∧ xs.length ≤ 1000000 ∧ ∀ d ∈ xs, Q (.tr d)) ∨ (∃ z, svs = [.bag, .tr (.str z)] ∧ 0 < z.length ∧ z.length ≤ 1000000 ∧ ∀ c ∈ z.cps.toList, Q (.tr (.str ⟨#[c]⟩)))
@[simp] theorem fPick_lst (xs : List D) (Q : SV → Prop) : fPick [.bag, .tr (.lst xs)] Q ↔ 0 < xs.length ∧ xs.length ≤ 1000000 ∧ ∀ d ∈ xs, Q (.tr d) := by simp [fPick]
@[simp] theorem fPick_str (z : Str) (Q : SV → Prop) : fPick [.bag, .tr (.str z)] Q ↔ 0 < z.length ∧ z.length ≤ 1000000 ∧ ∀ c ∈ z.cps.toList, Q (.tr (.str ⟨#[c]⟩)) := by simp [fPick]
mutual
def sameD : D → D → Bool
  | a, .lst ys => match a with
    | .lst xs => decide (xs.length = ys.length) && sames xs ys
    | _ => false
  | a, .tup ys => match a with
    | .tup xs => decide (xs.length = ys.length) && sames xs ys
    | _ => false
  | .non, .non => true
  | .bl x, .bl y => x == y
  | .int x, .int y => x == y
  | .str x, .str y => x == y
  | _, _ => false
def sames : List D → List D → Bool
  | x :: xs, y :: ys => sameD x y && sames xs ys
  | _, _ => true
end
def fSame (n : Nat) : FSp := fun svs Q => ∃ sa sb a b, svs = [sa, sb] ∧ IsA sa a ∧ IsA sb b ∧ a.dat = true ∧ b.dat = true ∧ b.wid = true ∧ b.dep < n ∧ Q (.tr (.bl (sameD a b)))
theorem fSame_of {n : Nat} {sa sb : SV} {Q : SV → Prop} {a b : D} (ia : IsA sa a) (ib : IsA sb b) : fSame n [sa, sb] Q ↔ a.dat = true ∧ b.dat = true ∧ b.wid = true ∧ b.dep < n ∧ Q (.tr (.bl (sameD a b))) := by
  constructor
  · rintro ⟨_, _, a', b', e, ia', ib', h⟩
    cases e
    have e1 := ia.d.symm.trans ia'.d
    have e2 := ib.d.symm.trans ib'.d
    subst e1 e2
    exact h
  · exact fun h => ⟨_, _, a, b, rfl, ia, ib, h⟩
@[simp] theorem fSame_eq (n : Nat) (a b : D) (Q : SV → Prop) : fSame n [.tr a, .tr b] Q ↔ a.dat = true ∧ b.dat = true ∧ b.wid = true ∧ b.dep < n ∧ Q (.tr (.bl (sameD a b))) := fSame_of ((isA_tr _ _).mpr rfl) ((isA_tr _ _).mpr rfl)
@[simp] theorem fSame_bt (n : Nat) (a b : D) (Q : SV → Prop) : fSame n [.brw a, .tr b] Q ↔ a.dat = true ∧ b.dat = true ∧ b.wid = true ∧ b.dep < n ∧ Q (.tr (.bl (sameD a b))) := fSame_of ((isA_brw _ _).mpr rfl) ((isA_tr _ _).mpr rfl)
@[simp] theorem fSame_tb (n : Nat) (a b : D) (Q : SV → Prop) : fSame n [.tr a, .brw b] Q ↔ a.dat = true ∧ b.dat = true ∧ b.wid = true ∧ b.dep < n ∧ Q (.tr (.bl (sameD a b))) := fSame_of ((isA_tr _ _).mpr rfl) ((isA_brw _ _).mpr rfl)
@[simp] theorem fSame_bb (n : Nat) (a b : D) (Q : SV → Prop) : fSame n [.brw a, .brw b] Q ↔ a.dat = true ∧ b.dat = true ∧ b.wid = true ∧ b.dep < n ∧ Q (.tr (.bl (sameD a b))) := fSame_of ((isA_brw _ _).mpr rfl) ((isA_brw _ _).mpr rfl)
theorem sames_zip : ∀ xs ys : List D, sames xs ys = (xs.zip ys).all fun p => sameD p.1 p.2
  | x :: xs, y :: ys => by rw [sames, List.zip_cons_cons, List.all_cons, sames_zip xs ys]
  | [], _ => by simp [sames]
  | _ :: _, [] => by simp [sames]
@[simp] theorem blsD_nil : blsD [] = some [] := rfl
@[simp] theorem blsD_cons (b : Bool) (ds : List D) : blsD (.bl b :: ds) = (blsD ds).map (b :: ·) := rfl
@[simp] theorem intsD_nil : intsD [] = some [] := rfl
@[simp] theorem intsD_cons (b : Int) (ds : List D) : intsD (.int b :: ds) = (intsD ds).map (b :: ·) := rfl
@[simp] theorem strsD_nil : strsD [] = some [] := rfl
@[simp] theorem strsD_cons (b : Str) (ds : List D) : strsD (.str b :: ds) = (strsD ds).map (b :: ·) := rfl
theorem atN {α : Type} (xs : List α) (n : Nat) : atI xs (n : Int) = xs[n]? := by
  unfold atI ixN
  rw [if_pos (by omega)]
  by_cases h : (n : Int) < xs.length
  · rw [if_pos h]
    rfl
  · rw [if_neg h, List.getElem?_eq_none (by omega)]
    rfl
@[simp] theorem atI_0 {α : Type} (x : α) (xs : List α) : atI (x :: xs) 0 = some x := atN (x :: xs) 0
@[simp] theorem atI_1 {α : Type} (x y : α) (xs : List α) : atI (x :: y :: xs) 1 = some y := atN (x :: y :: xs) 1
@[simp] theorem atI_2 {α : Type} (x y z : α) (xs : List α) : atI (x :: y :: z :: xs) 2 = some z := atN (x :: y :: z :: xs) 2
@[simp] theorem atI_3 {α : Type} (x y z u : α) (xs : List α) : atI (x :: y :: z :: u :: xs) 3 = some u := atN (x :: y :: z :: u :: xs) 3
section
variable {gg : GG} {gb : GS} {D : VEnds} {S : S} {ds : List VT.D}
/-- a loop, told by the place -/
theorem forW_ix (I : Nat → VT.S → Prop) (h0 : I 0 S) (hN : ∀ S', I ds.length S' → D.nx S')
    (hs : ∀ k (hk : k < ds.length) S1, I k S1 → ∀ N : VT.S → Prop, (∀ S', I (k + 1) S' → N S') → gg ds[k] S1 fun S2 => gb { nx := N, rt := D.rt, bk := D.nx, ct := N } S2) : ForW gg gb D S ds := by
  refine ⟨fun r S => ∃ k, r = ds.drop k ∧ k ≤ ds.length ∧ I k S, ⟨0, by simp, by omega, h0⟩, fun S' ⟨k, e, hk, i⟩ => ?_, fun d r S1 ⟨k, e, hk, i⟩ => ?_⟩
  · have := congrArg List.length e
    simp at this
    have : k = ds.length := by omega
    subst this
    exact hN _ i
  · have hk' : k < ds.length := by
      have := congrArg List.length e
      simp at this
      omega
    rw [List.drop_eq_getElem_cons hk'] at e
    cases e
    exact hs k hk' S1 i _ fun S h => ⟨k + 1, rfl, hk', h⟩
/-- a loop over a range -/
theorem forW_rng {lo : Int} {n : Nat} (I : Nat → VT.S → Prop) (h0 : I 0 S) (hN : ∀ S', I n S' → D.nx S')
    (hs : ∀ (k : Nat) (hk : k < n) S1, I k S1 → ∀ N : VT.S → Prop, (∀ S', I (k + 1) S' → N S') → gg (.int (lo + (k : Int))) S1 fun S2 => gb { nx := N, rt := D.rt, bk := D.nx, ct := N } S2) : ForW gg gb D S (rngD lo n) := by
  refine forW_ix I h0 (by simpa using hN) fun k hk S1 i N h => ?_
  have e : (rngD lo n)[k] = .int (lo + (k : Int)) := by simp [rngD]
  rw [e]
  exact hs k (by simpa using hk) S1 i N h
end
@[simp] theorem gName10 (x0 x1 x2 x3 x4 x5 x6 x7 x8 x9 : Option SV) (a : SV) (r : S) (Q : SV → Prop) : gName 10 (x0 :: x1 :: x2 :: x3 :: x4 :: x5 :: x6 :: x7 :: x8 :: x9 :: some a :: r) Q ↔ Q a.look := gName_eq 10 _ Q rfl
@[simp] theorem gName11 (x0 x1 x2 x3 x4 x5 x6 x7 x8 x9 x10 : Option SV) (a : SV) (r : S) (Q : SV → Prop) : gName 11 (x0 :: x1 :: x2 :: x3 :: x4 :: x5 :: x6 :: x7 :: x8 :: x9 :: x10 :: some a :: r) Q ↔ Q a.look := gName_eq 11 _ Q rfl
@[simp] theorem gName12 (x0 x1 x2 x3 x4 x5 x6 x7 x8 x9 x10 x11 : Option SV) (a : SV) (r : S) (Q : SV → Prop) : gName 12 (x0 :: x1 :: x2 :: x3 :: x4 :: x5 :: x6 :: x7 :: x8 :: x9 :: x10 :: x11 :: some a :: r) Q ↔ Q a.look := gName_eq 12 _ Q rfl
@[simp] theorem gName13 (x0 x1 x2 x3 x4 x5 x6 x7 x8 x9 x10 x11 x12 : Option SV) (a : SV) (r : S) (Q : SV → Prop) : gName 13 (x0 :: x1 :: x2 :: x3 :: x4 :: x5 :: x6 :: x7 :: x8 :: x9 :: x10 :: x11 :: x12 :: some a :: r) Q ↔ Q a.look := gName_eq 13 _ Q rfl
@[simp] theorem gName14 (x0 x1 x2 x3 x4 x5 x6 x7 x8 x9 x10 x11 x12 x13 : Option SV) (a : SV) (r : S) (Q : SV → Prop) : gName 14 (x0 :: x1 :: x2 :: x3 :: x4 :: x5 :: x6 :: x7 :: x8 :: x9 :: x10 :: x11 :: x12 :: x13 :: some a :: r) Q ↔ Q a.look := gName_eq 14 _ Q rfl
@[simp] theorem gName15 (x0 x1 x2 x3 x4 x5 x6 x7 x8 x9 x10 x11 x12 x13 x14 : Option SV) (a : SV) (r : S) (Q : SV → Prop) : gName 15 (x0 :: x1 :: x2 :: x3 :: x4 :: x5 :: x6 :: x7 :: x8 :: x9 :: x10 :: x11 :: x12 :: x13 :: x14 :: some a :: r) Q ↔ Q a.look := gName_eq 15 _ Q rfl
@[simp] theorem gName16 (x0 x1 x2 x3 x4 x5 x6 x7 x8 x9 x10 x11 x12 x13 x14 x15 : Option SV) (a : SV) (r : S) (Q : SV → Prop) : gName 16 (x0 :: x1 :: x2 :: x3 :: x4 :: x5 :: x6 :: x7 :: x8 :: x9 :: x10 :: x11 :: x12 :: x13 :: x14 :: x15 :: some a :: r) Q ↔ Q a.look := gName_eq 16 _ Q rfl
@[simp] theorem gName17 (x0 x1 x2 x3 x4 x5 x6 x7 x8 x9 x10 x11 x12 x13 x14 x15 x16 : Option SV) (a : SV) (r : S) (Q : SV → Prop) : gName 17 (x0 :: x1 :: x2 :: x3 :: x4 :: x5 :: x6 :: x7 :: x8 :: x9 :: x10 :: x11 :: x12 :: x13 :: x14 :: x15 :: x16 :: some a :: r) Q ↔ Q a.look := gName_eq 17 _ Q rfl
@[simp] theorem gName18 (x0 x1 x2 x3 x4 x5 x6 x7 x8 x9 x10 x11 x12 x13 x14 x15 x16 x17 : Option SV) (a : SV) (r : S) (Q : SV → Prop) : gName 18 (x0 :: x1 :: x2 :: x3 :: x4 :: x5 :: x6 :: x7 :: x8 :: x9 :: x10 :: x11 :: x12 :: x13 :: x14 :: x15 :: x16 :: x17 :: some a :: r) Q ↔ Q a.look := gName_eq 18 _ Q rfl
@[simp] theorem gName19 (x0 x1 x2 x3 x4 x5 x6 x7 x8 x9 x10 x11 x12 x13 x14 x15 x16 x17 x18 : Option SV) (a : SV) (r : S) (Q : SV → Prop) : gName 19 (x0 :: x1 :: x2 :: x3 :: x4 :: x5 :: x6 :: x7 :: x8 :: x9 :: x10 :: x11 :: x12 :: x13 :: x14 :: x15 :: x16 :: x17 :: x18 :: some a :: r) Q ↔ Q a.look := gName_eq 19 _ Q rfl
@[simp] theorem gName20 (x0 x1 x2 x3 x4 x5 x6 x7 x8 x9 x10 x11 x12 x13 x14 x15 x16 x17 x18 x19 : Option SV) (a : SV) (r : S) (Q : SV → Prop) : gName 20 (x0 :: x1 :: x2 :: x3 :: x4 :: x5 :: x6 :: x7 :: x8 :: x9 :: x10 :: x11 :: x12 :: x13 :: x14 :: x15 :: x16 :: x17 :: x18 :: x19 :: some a :: r) Q ↔ Q a.look := gName_eq 20 _ Q rfl
@[simp] theorem gName21 (x0 x1 x2 x3 x4 x5 x6 x7 x8 x9 x10 x11 x12 x13 x14 x15 x16 x17 x18 x19 x20 : Option SV) (a : SV) (r : S) (Q : SV → Prop) : gName 21 (x0 :: x1 :: x2 :: x3 :: x4 :: x5 :: x6 :: x7 :: x8 :: x9 :: x10 :: x11 :: x12 :: x13 :: x14 :: x15 :: x16 :: x17 :: x18 :: x19 :: x20 :: some a :: r) Q ↔ Q a.look := gName_eq 21 _ Q rfl
@[simp] theorem gName22 (x0 x1 x2 x3 x4 x5 x6 x7 x8 x9 x10 x11 x12 x13 x14 x15 x16 x17 x18 x19 x20 x21 : Option SV) (a : SV) (r : S) (Q : SV → Prop) : gName 22 (x0 :: x1 :: x2 :: x3 :: x4 :: x5 :: x6 :: x7 :: x8 :: x9 :: x10 :: x11 :: x12 :: x13 :: x14 :: x15 :: x16 :: x17 :: x18 :: x19 :: x20 :: x21 :: some a :: r) Q ↔ Q a.look := gName_eq 22 _ Q rfl
@[simp] theorem gName23 (x0 x1 x2 x3 x4 x5 x6 x7 x8 x9 x10 x11 x12 x13 x14 x15 x16 x17 x18 x19 x20 x21 x22 : Option SV) (a : SV) (r : S) (Q : SV → Prop) : gName 23 (x0 :: x1 :: x2 :: x3 :: x4 :: x5 :: x6 :: x7 :: x8 :: x9 :: x10 :: x11 :: x12 :: x13 :: x14 :: x15 :: x16 :: x17 :: x18 :: x19 :: x20 :: x21 :: x22 :: some a :: r) Q ↔ Q a.look := gName_eq 23 _ Q rfl
@[simp] theorem gName24 (x0 x1 x2 x3 x4 x5 x6 x7 x8 x9 x10 x11 x12 x13 x14 x15 x16 x17 x18 x19 x20 x21 x22 x23 : Option SV) (a : SV) (r : S) (Q : SV → Prop) : gName 24 (x0 :: x1 :: x2 :: x3 :: x4 :: x5 :: x6 :: x7 :: x8 :: x9 :: x10 :: x11 :: x12 :: x13 :: x14 :: x15 :: x16 :: x17 :: x18 :: x19 :: x20 :: x21 :: x22 :: x23 :: some a :: r) Q ↔ Q a.look := gName_eq 24 _ Q rfl
@[simp] theorem gName25 (x0 x1 x2 x3 x4 x5 x6 x7 x8 x9 x10 x11 x12 x13 x14 x15 x16 x17 x18 x19 x20 x21 x22 x23 x24 : Option SV) (a : SV) (r : S) (Q : SV → Prop) : gName 25 (x0 :: x1 :: x2 :: x3 :: x4 :: x5 :: x6 :: x7 :: x8 :: x9 :: x10 :: x11 :: x12 :: x13 :: x14 :: x15 :: x16 :: x17 :: x18 :: x19 :: x20 :: x21 :: x22 :: x23 :: x24 :: some a :: r) Q ↔ Q a.look := gName_eq 25 _ Q rfl
@[simp] theorem gName26 (x0 x1 x2 x3 x4 x5 x6 x7 x8 x9 x10 x11 x12 x13 x14 x15 x16 x17 x18 x19 x20 x21 x22 x23 x24 x25 : Option SV) (a : SV) (r : S) (Q : SV → Prop) : gName 26 (x0 :: x1 :: x2 :: x3 :: x4 :: x5 :: x6 :: x7 :: x8 :: x9 :: x10 :: x11 :: x12 :: x13 :: x14 :: x15 :: x16 :: x17 :: x18 :: x19 :: x20 :: x21 :: x22 :: x23 :: x24 :: x25 :: some a :: r) Q ↔ Q a.look := gName_eq 26 _ Q rfl
@[simp] theorem gName27 (x0 x1 x2 x3 x4 x5 x6 x7 x8 x9 x10 x11 x12 x13 x14 x15 x16 x17 x18 x19 x20 x21 x22 x23 x24 x25 x26 : Option SV) (a : SV) (r : S) (Q : SV → Prop) : gName 27 (x0 :: x1 :: x2 :: x3 :: x4 :: x5 :: x6 :: x7 :: x8 :: x9 :: x10 :: x11 :: x12 :: x13 :: x14 :: x15 :: x16 :: x17 :: x18 :: x19 :: x20 :: x21 :: x22 :: x23 :: x24 :: x25 :: x26 :: some a :: r) Q ↔ Q a.look := gName_eq 27 _ Q rfl
@[simp] theorem gName28 (x0 x1 x2 x3 x4 x5 x6 x7 x8 x9 x10 x11 x12 x13 x14 x15 x16 x17 x18 x19 x20 x21 x22 x23 x24 x25 x26 x27 : Option SV) (a : SV) (r : S) (Q : SV → Prop) : gName 28 (x0 :: x1 :: x2 :: x3 :: x4 :: x5 :: x6 :: x7 :: x8 :: x9 :: x10 :: x11 :: x12 :: x13 :: x14 :: x15 :: x16 :: x17 :: x18 :: x19 :: x20 :: x21 :: x22 :: x23 :: x24 :: x25 :: x26 :: x27 :: some a :: r) Q ↔ Q a.look := gName_eq 28 _ Q rfl
@[simp] theorem gName29 (x0 x1 x2 x3 x4 x5 x6 x7 x8 x9 x10 x11 x12 x13 x14 x15 x16 x17 x18 x19 x20 x21 x22 x23 x24 x25 x26 x27 x28 : Option SV) (a : SV) (r : S) (Q : SV → Prop) : gName 29 (x0 :: x1 :: x2 :: x3 :: x4 :: x5 :: x6 :: x7 :: x8 :: x9 :: x10 :: x11 :: x12 :: x13 :: x14 :: x15 :: x16 :: x17 :: x18 :: x19 :: x20 :: x21 :: x22 :: x23 :: x24 :: x25 :: x26 :: x27 :: x28 :: some a :: r) Q ↔ Q a.look := gName_eq 29 _ Q rfl
theorem dats_of {xs : List D} (h : ∀ x ∈ xs, x.dat = true) : dats xs = true := by
  have := dats_map (f := fun d => d) h
  simpa using this
theorem deps_of {xs : List D} {n : Nat} (h : ∀ x ∈ xs, x.dep ≤ n) : deps xs ≤ n := by
  have := deps_map (f := fun d => d) h
  simpa using this
theorem wids_of {xs : List D} (h : ∀ x ∈ xs, x.wid = true) : wids xs = true := by
  have := wids_map (f := fun d => d) h
  simpa using this
theorem cutD_mem {α : Type} {xs : List α} {lo hi : Option Int} {x : α} (h : x ∈ cutD xs lo hi) : x ∈ xs := List.mem_of_mem_drop (List.mem_of_mem_take h)
theorem cutD_len {α : Type} (xs : List α) (lo hi : Option Int) : (cutD xs lo hi).length ≤ xs.length := by
  unfold cutD
  simp
  omega
@[simp high] theorem gAll_map {α : Type} (f : α → Bool) (as : List α) (Q : SV → Prop) : gAll [.lst (as.map fun a => .bl (f a))] Q ↔ Q (.tr (.bl (as.all f))) := by
  show (∃ bs, blsD (as.map fun a => D.bl (f a)) = some bs ∧ Q (.tr (.bl (bs.all id)))) ↔ _
  rw [blsD_map]
  constructor
  · rintro ⟨bs, e, q⟩
    cases e
    simpa [List.all_map, Function.comp_def] using q
  · intro q
    exact ⟨_, rfl, by simpa [List.all_map, Function.comp_def] using q⟩
@[simp high] theorem gAny_map {α : Type} (f : α → Bool) (as : List α) (Q : SV → Prop) : gAny [.lst (as.map fun a => .bl (f a))] Q ↔ Q (.tr (.bl (as.any f))) := by
  show (∃ bs, blsD (as.map fun a => D.bl (f a)) = some bs ∧ Q (.tr (.bl (bs.any id)))) ↔ _
  rw [blsD_map]
  constructor
  · rintro ⟨bs, e, q⟩
    cases e
    simpa [List.any_map, Function.comp_def] using q
  · intro q
    exact ⟨_, rfl, by simpa [List.any_map, Function.comp_def] using q⟩
@[simp high] theorem gSum_map {α : Type} (f : α → Int) (as : List α) (Q : SV → Prop) : gSum [.lst (as.map fun a => .int (f a))] Q ↔ Q (.tr (.int (as.map f).sum)) := by
  show (∃ bs, intsD (as.map fun a => D.int (f a)) = some bs ∧ Q (.tr (.int bs.sum))) ↔ _
  rw [intsD_map]
  constructor
  · rintro ⟨bs, e, q⟩
    cases e
    exact q
  · intro q
    exact ⟨_, rfl, q⟩
theorem ixN_lt {n : Nat} {i : Int} (h0 : 0 ≤ i) (h1 : i < n) : ixN n i = some i.toNat := by
  unfold ixN
  rw [if_pos h0, if_pos h1]
theorem cmulW {i j : Int} (hi : i.natAbs ≤ 10 ^ 40) (hj : j.natAbs ≤ 10 ^ 40) : CMulW i j := by
  unfold CMulW
  have h1 := log_lt hi
  have h2 := log_lt hj
  omega
theorem ltge (a b : Int) : a < b ∨ b ≤ a := by omega
theorem dat_kind {d : D} (h : d.dat = true) : d.kind.isSome = true := by
  cases d <;> first
    | rfl
    | (simp [D.dat] at h)
end VT

namespace VT
open PySem PySem.Spec PyProof.Rows L2

/-! ### fields read -/
def FV.sv : FV → SV
  | .tr d => .tr d
  | .own d => .pk d
@[simp] theorem fvsv_tr (d : D) : (FV.tr d).sv = .tr d := rfl
@[simp] theorem fvsv_own (d : D) : (FV.own d).sv = .pk d := rfl
/-- an object's class and fields -/
def SV.ins? : SV → Option (Addr × List (Str × FV))
  | .tr (.ins C fs) => some (C, fs.map fun p => (p.1, .tr p.2))
  | .obj _ C fs => some (C, fs)
  | .pob C fs => some (C, fs)
  | .bob C fs => some (C, fs)
  | _ => none
@[simp] theorem ins_tr (C : Addr) (fs : List (Str × D)) : (SV.tr (.ins C fs)).ins? = some (C, fs.map fun p => (p.1, .tr p.2)) := rfl
@[simp] theorem ins_obj (q C : Addr) (fs : List (Str × FV)) : (SV.obj q C fs).ins? = some (C, fs) := rfl
@[simp] theorem ins_pob (C : Addr) (fs : List (Str × FV)) : (SV.pob C fs).ins? = some (C, fs) := rfl
@[simp] theorem ins_bob (C : Addr) (fs : List (Str × FV)) : (SV.bob C fs).ins? = some (C, fs) := rfl
theorem repf_look {F : Hp} {f : Str} : ∀ {fs : List (Str × D)} {ws : List (Str × V)} {x : FV}, repf F fs ws → (fs.map fun p => (p.1, FV.tr p.2)).lookup f = some x → ∃ d v, x = .tr d ∧ ws.lookup f = some v ∧ rep F d v
  | [], _, _, _, h => by simp at h
  | (g, d) :: fs, _, x, ⟨v, t, e, r, q⟩, h => by
    rw [e]
    rw [List.map_cons, List.lookup_cons] at h
    rw [List.lookup_cons]
    cases hg : f == g with
    | true =>
      rw [hg] at h
      cases h
      exact ⟨d, v, rfl, rfl, r⟩
    | false =>
      rw [hg] at h
      exact repf_look q h
theorem RepP.look {N : Addr → Prop} {G : Gh} {H : Hp} {f : Str} {fs : List (Str × FV)} {ws : List (Str × V)} {x : FV} (r : RepP N G H fs ws) (h : fs.lookup f = some x) : ∃ v, ws.lookup f = some v ∧ ∀ H0 Hs, RepV H0 Hs G H v x.sv := by
  induction r with
  | nil => simp at h
  | @tr g d v fs ws r _ ih =>
    rw [List.lookup_cons] at h ⊢
    cases hg : f == g with
    | true =>
      rw [hg] at h
      cases h
      exact ⟨v, rfl, fun _ _ => r⟩
    | false =>
      rw [hg] at h
      exact ih h
  | @own g d b fs ws h1 h2 h3 _ ih =>
    rw [List.lookup_cons] at h ⊢
    cases hg : f == g with
    | true =>
      rw [hg] at h
      cases h
      exact ⟨.ref b, rfl, fun _ _ => ⟨b, rfl, h2, h3⟩⟩
    | false =>
      rw [hg] at h
      exact ih h
/-- an object stands there, with its fields -/
theorem RepV.insAt {H0 Hs H : Hp} {G : Gh} {v : V} {sv : SV} {C : Addr} {fs : List (Str × FV)} (r : RepV H0 Hs G H v sv) (ok : OkG G H) (e : sv.ins? = some (C, fs)) :
    ∃ a dx ws, v = .ref a ∧ H a = some (.ins C dx ws) ∧ ∀ f x, fs.lookup f = some x → ∃ u, ws.lookup f = some u ∧ ∀ H0 Hs, RepV H0 Hs G H u x.sv := by
  cases sv with
  | tr d =>
    cases d with
    | ins C' fs' =>
      cases e
      obtain ⟨a, dx, ws, e1, e2, e3, q⟩ := r
      refine ⟨a, dx, ws, e1, ok.sub _ _ e2, fun f x h => ?_⟩
      obtain ⟨d, u, rfl, h1, h2⟩ := repf_look q h
      exact ⟨u, h1, fun _ _ => h2⟩
    | _ => cases e
  | obj q' C' fs' =>
    cases e
    obtain ⟨a, dx, ws, e1, e2, _, _, _, _, rf, _⟩ := r
    exact ⟨a, dx, ws, e1, e2, fun f x h => rf.peek.look h⟩
  | pob C' fs' =>
    cases e
    obtain ⟨a, dx, ws, e1, e2, _, rf⟩ := r
    exact ⟨a, dx, ws, e1, e2, fun f x h => rf.look h⟩
  | bob C' fs' =>
    cases e
    obtain ⟨a, dx, ws, e1, _, e2, _, rf⟩ := r
    exact ⟨a, dx, ws, e1, e2, fun f x h => rf.look h⟩
  | _ => cases e
@[simp] def gFld (Cs : List Addr) (f : Str) (g : GE) : GE := fun S Q => g S fun sv => ∃ C fs x, sv.ins? = some (C, fs) ∧ C ∈ Cs ∧ fs.lookup f = some x ∧ Q x.sv
section
variable {X : Cx} {EX : EXT} {e : Expr} {g : GE} {f : Str} {pos : Pos}
theorem ve_fld (Cs : List Addr) (he : VE X EX e g) (hc : ∀ C ∈ Cs, Cls X.K C ∧ NoAttr X.K C f) (hb : attributeBase e f X.env (eval e X.env) = eval e X.env := by rfl) : VE X EX (.Attribute e f pos) (gFld Cs f g) := by
  refine ⟨fun G0 H0 tk => peMono (pe_fld (he.pe G0 H0 tk) hb) fun σ H Q ⟨G, S, Qs, R, q, k⟩ => ?_⟩
  refine ⟨G, S, _, R, q, fun v H1 G1 sv E1 r1 q1 => ?_⟩
  obtain ⟨C, fs, x, h1, h2, h3, q1⟩ := q1
  obtain ⟨a, dx, ws, rfl, ea, hl⟩ := r1.insAt E1.ok h1
  obtain ⟨u, hu, ru⟩ := hl f x h3
  exact ⟨a, C, dx, ws, u, rfl, ea, (hc C h2).1, (hc C h2).2, hu, k u H1 G1 x.sv E1 (ru _ _) q1⟩
end
end VT

namespace VT
open PySem PySem.Spec PyProof.Rows L2

/-! ### an own object is changed: the frame -/
/-- what slot i holds is changed at its own places; sv' is held there from now on -/
theorem Rel.poke {G0 G : Gh} {H0 H H' : Hp} {σ : L2.St} {S : S} {i : Nat} {sv sv' : SV} {v : V} (R : Rel G0 H0 G H σ S) (e : S[i]? = some (some sv)) (ev : σ[i]? = some (some v)) (E : Ext G0 H0 G H') (hok : sv'.ok)
    (r' : RepV H0 H0 G H' v sv') (off : ∀ b, ¬ Owns H v sv b → ∀ o, H b = some o → H' b = some o) (ho : ∀ b, Owns H' v sv' b → Owns H v sv b ∨ ∀ (j : Nat) (sw : SV) (w : V), i ≠ j → S[j]? = some (some sw) → σ[j]? = some (some w) → ¬ Owns H w sw b) :
    Rel G0 H0 G H' σ (S.set i (some sv')) := by
  obtain ⟨v0, e0, r⟩ := R.slot i sv e
  rw [ev] at e0
  cases e0
  have offj : ∀ (j : Nat) (sw : SV) (w : V) (b : Addr), i ≠ j → S[j]? = some (some sw) → σ[j]? = some (some w) → Owns H w sw b → H' b = H b := fun j sw w b hij ej ew ob => by
    obtain ⟨w', e6, r6⟩ := R.slot j sw ej
    rw [ew] at e6
    cases e6
    obtain ⟨o, hb⟩ := Option.ne_none_iff_exists'.mp (r6.owns ob).2.ne
    rw [hb]
    exact off b (fun z => R.sep i j sv sw v w b hij e ej ev ew z ob) o hb
  have mineO : ∀ b, H0 b ≠ none → ¬ Owns H v sv b := fun b hb o => hb (r.owns o).1.1
  refine ⟨E, by rw [List.length_set]; exact R.len, fun j sw ej => ?_, fun j l sj sl u w b hjl e2 e3 e4 e5 o1 o2 => ?_, fun j d ej => ?_⟩
  · rcases set_slot ej with ⟨rfl, ej, _⟩ | ⟨hij, ej⟩
    · cases ej
      exact ⟨v, ev, r'⟩
    · obtain ⟨u, e6, r6⟩ := R.slot j sw ej
      refine ⟨u, e6, ?_⟩
      have keep : ∀ b, Owns H u sw b → Mine H0 G b ∧ H' b = H b := fun b ob => ⟨(r6.owns ob).1, offj j sw u b hij ej e6 ob⟩
      have okj := R.nopk j sw ej
      cases sw with
      | tr d' => exact r6
      | exc a' C d fs => exact r6
      | tz ds => exact r6
      | fn f => exact r6
      | own d' => exact r6.at (fun _ => nofun) (fun _ => nofun) nofun (fun _ _ => nofun) (fun _ _ => nofun) (fun _ _ z => z) keep
      | obj q C fs => exact r6.at (fun _ => nofun) (fun _ => nofun) nofun (fun _ _ => nofun) (fun _ _ => nofun) (fun _ _ z => z) keep
      | brw d' => obtain ⟨b, rfl, q1, q2, q3⟩ := r6; exact ⟨b, rfl, q1, q2, q3.off (a := b) (off b (mineO b q1))⟩
      | pk d' => exact okj.elim
      | bag => exact r6
      | pob C fs => exact okj.elim
      | bob C fs =>
        obtain ⟨b, dx, ws, q1, q2, q3, q4, q5⟩ := r6
        exact ⟨b, dx, ws, q1, q2, off b (mineO b q2) _ q3, q4, q5.off fun b h => off b (mineO b h)⟩
  · rcases set_slot e2 with ⟨rfl, e2, _⟩ | ⟨hij, e2⟩
    · rcases set_slot e3 with ⟨rfl, e3, _⟩ | ⟨hil, e3⟩
      · exact hjl rfl
      · cases e2
        rw [ev] at e4
        cases e4
        obtain ⟨w', e6, r6⟩ := R.slot l sl e3
        rw [e5] at e6
        cases e6
        have o3 : Owns H w sl b := o2.at r6 fun b ob => offj l sl w b hil e3 e5 ob
        rcases ho b o1 with o | o
        · exact R.sep i l sv sl v w b hil e e3 ev e5 o o3
        · exact o l sl w hil e3 e5 o3
    · obtain ⟨u', e6, r6⟩ := R.slot j sj e2
      rw [e4] at e6
      cases e6
      have o3 : Owns H u sj b := o1.at r6 fun b ob => offj j sj u b hij e2 e4 ob
      rcases set_slot e3 with ⟨rfl, e3, _⟩ | ⟨hil, e3⟩
      · cases e3
        rw [ev] at e5
        cases e5
        rcases ho b o2 with o | o
        · exact R.sep i j sv sj v u b hij e e2 ev e4 o o3
        · exact o j sj u hij e2 e4 o3
      · obtain ⟨w', e6, r6'⟩ := R.slot l sl e3
        rw [e5] at e6
        cases e6
        exact R.sep j l sj sl u w b hjl e2 e3 e4 e5 o3 (o2.at r6' fun b ob => offj l sl w b hil e3 e5 ob)
  · rcases set_slot ej with ⟨rfl, ej, _⟩ | ⟨hne, ej⟩
    · cases ej
      exact hok
    · exact R.nopk j d ej

/-! ### fields set -/
def fput (f : Str) (x : FV) : List (Str × FV) → List (Str × FV)
  | [] => [(f, x)]
  | (g, y) :: r => if g = f then (g, x) :: r else (g, y) :: fput f x r
section
variable {Hs H : Hp} {G : Gh} {fs : List (Str × FV)} {ws : List (Str × V)} {f : Str} {d : D} {v : V} {b : Addr}
theorem RepF.putT (r : RepF Hs G H fs ws) (h : rep G.F d v) : RepF Hs G H (fput f (.tr d) fs) (putF f v ws) ∧ (∀ b, b ∈ adrs (fput f (.tr d) fs) (putF f v ws) → b ∈ adrs fs ws) ∧ ((adrs fs ws).Nodup → (adrs (fput f (.tr d) fs) (putF f v ws)).Nodup) := by
  induction r with
  | nil => exact ⟨.tr h .nil, fun b hb => (by simpa [fput, putF, adrs] using hb), fun _ => (by simp [fput, putF, adrs])⟩
  | @tr g d' v' fs ws r t ih =>
    obtain ⟨i1, i2, i3⟩ := ih
    unfold fput putF
    by_cases hg : g = f
    · rw [if_pos hg, if_pos hg]
      exact ⟨.tr h t, fun b hb => hb, fun n => n⟩
    · rw [if_neg hg, if_neg hg]
      exact ⟨.tr r i1, i2, i3⟩
  | @own g d' b' fs ws h1 h2 h3 h4 t ih =>
    obtain ⟨i1, i2, i3⟩ := ih
    unfold fput putF
    by_cases hg : g = f
    · rw [if_pos hg, if_pos hg]
      exact ⟨.tr h t, fun b hb => List.mem_cons_of_mem _ hb, fun n => (List.nodup_cons.mp n).2⟩
    · rw [if_neg hg, if_neg hg]
      refine ⟨.own h1 h2 h3 h4 i1, fun b hb => ?_, fun n => ?_⟩
      · rcases List.mem_cons.mp hb with rfl | hb
        · exact List.mem_cons_self ..
        · exact List.mem_cons_of_mem _ (i2 b hb)
      · obtain ⟨n1, n2⟩ := List.nodup_cons.mp n
        exact List.nodup_cons.mpr ⟨fun z => n1 (i2 _ z), i3 n2⟩
theorem RepF.putO (r : RepF Hs G H fs ws) (m : Mine Hs G b) (c : cont G.F H b d) (hb : b ∉ adrs fs ws) : RepF Hs G H (fput f (.own d) fs) (putF f (.ref b) ws) ∧ (∀ x, x ∈ adrs (fput f (.own d) fs) (putF f (.ref b) ws) → x = b ∨ x ∈ adrs fs ws) ∧ ((adrs fs ws).Nodup → (adrs (fput f (.own d) fs) (putF f (.ref b) ws)).Nodup) := by
  induction r with
  | nil => exact ⟨.own m.1 m.2.1 m.2.2 c .nil, fun x hx => (by simpa [fput, putF, adrs] using hx), fun _ => (by simp [fput, putF, adrs])⟩
  | @tr g d' v' fs ws r t ih =>
    obtain ⟨i1, i2, i3⟩ := ih hb
    unfold fput putF
    by_cases hg : g = f
    · rw [if_pos hg, if_pos hg]
      exact ⟨.own m.1 m.2.1 m.2.2 c t, fun x hx => List.mem_cons.mp hx, fun n => List.nodup_cons.mpr ⟨hb, n⟩⟩
    · rw [if_neg hg, if_neg hg]
      exact ⟨.tr r i1, i2, i3⟩
  | @own g d' b' fs ws h1 h2 h3 h4 t ih =>
    have hb' : b ∉ adrs fs ws := fun z => hb (List.mem_cons_of_mem _ z)
    obtain ⟨i1, i2, i3⟩ := ih hb'
    unfold fput putF
    by_cases hg : g = f
    · rw [if_pos hg, if_pos hg]
      exact ⟨.own m.1 m.2.1 m.2.2 c t, fun x hx => (List.mem_cons.mp hx).imp id fun h => List.mem_cons_of_mem _ h, fun n => List.nodup_cons.mpr ⟨hb', (List.nodup_cons.mp n).2⟩⟩
    · rw [if_neg hg, if_neg hg]
      refine ⟨.own h1 h2 h3 h4 i1, fun x hx => ?_, fun n => ?_⟩
      · rcases List.mem_cons.mp hx with rfl | hx
        · exact .inr (List.mem_cons_self ..)
        · exact (i2 x hx).imp id fun h => List.mem_cons_of_mem _ h
      · obtain ⟨n1, n2⟩ := List.nodup_cons.mp n
        refine List.nodup_cons.mpr ⟨fun z => ?_, i3 n2⟩
        rcases i2 _ z with e | z
        · exact hb (by rw [← e]; exact List.mem_cons_self ..)
        · exact n1 z
end
/-- what is put into a field -/
def SV.fv : SV → Option FV
  | .tr d => some (.tr d)
  | .own d => some (.own d)
  | _ => none
@[simp] theorem fv_tr (d : D) : (SV.tr d).fv = some (.tr d) := rfl
@[simp] theorem fv_own (d : D) : (SV.own d).fv = some (.own d) := rfl
/-- x.f = e, x the object under way of slot i -/
@[simp] def gFSet (i : Nat) (Cs : List Addr) (f : Str) (ge : GE) : GS := fun D S => ge S fun sv => ∃ x q C fs, sv.fv = some x ∧ S[i]? = some (some (.obj q C fs)) ∧ C ∈ Cs ∧ fs.length < 1000 ∧ D.nx (S.set i (some (.obj q C (fput f x fs))))
theorem RepF.len {Hs H : Hp} {G : Gh} {fs : List (Str × FV)} {ws : List (Str × V)} (r : RepF Hs G H fs ws) : ws.length = fs.length := by
  induction r with
  | nil => rfl
  | tr _ _ ih => rw [List.length_cons, List.length_cons, ih]
  | own _ _ _ _ _ ih => rw [List.length_cons, List.length_cons, ih]
theorem Rel.fset {G0 G G1 : Gh} {H0 H H1 : Hp} {σ : L2.St} {S : S} {i : Nat} {q C : Addr} {fs : List (Str × FV)} {f : Str} {x : FV} {sv : SV} {y : V} {a dx : Addr} {ws : List (Str × V)} (R : Rel G0 H0 G H σ S) (E : Ext G H G1 H1) (ry : RepV H0 H G1 H1 y sv) (hx : sv.fv = some x)
    (e : S[i]? = some (some (.obj q C fs))) (ev : σ[i]? = some (some (.ref a))) (ea : H1 a = some (.ins C dx ws)) : Rel G0 H0 G1 (upd H1 a (.ins C dx (putF f y ws))) σ (S.set i (some (.obj q C (fput f x fs)))) := by
  have R1 := R.go E
  obtain ⟨v0, e0, r⟩ := R1.slot i _ e
  rw [ev] at e0
  cases e0
  obtain ⟨a', dx', ws', e1, ea', ed, ma, md, nd, rf, hq⟩ := r
  cases e1
  rw [ea] at ea'
  cases ea'
  rw [List.nodup_cons, List.nodup_cons] at nd
  obtain ⟨n1, n2, n3⟩ := nd
  have had : a ≠ dx := fun z => n1 (by rw [z]; exact List.mem_cons_self ..)
  have han : a ∉ adrs fs ws := fun z => n1 (List.mem_cons_of_mem _ z)
  have offa : ∀ b, b ≠ a → ∀ o, H1 b = some o → upd H1 a (.ins C dx (putF f y ws)) b = some o := fun b hb o h => by rw [upd_ne hb]; exact h
  have E1 := ext_write R1.ext ma.1 ma.2.1 ma.2.2 (.ins C dx (putF f y ws)) (.ins ea)
  have old : RepF H0 G1 (upd H1 a (.ins C dx (putF f y ws))) fs ws := rf.at (fun _ _ z => z) fun b hb => ⟨(rf.mine b hb).1, upd_ne fun z => han (by rw [← z]; exact hb)⟩
  have own0 : ∀ b, (b = a ∨ b = dx ∨ b ∈ adrs fs ws) → Owns H1 (.ref a) (.obj q C fs) b := fun b h => ⟨a, dx, ws, rfl, ea, h⟩
  have hna : ∀ b, ¬ Owns H1 (.ref a) (.obj q C fs) b → b ≠ a := fun b h z => h (own0 b (.inl z))
  cases sv with
  | tr d =>
    cases hx
    obtain ⟨p1, p2, p3⟩ := old.putT (f := f) (v := y) (d := d) ry
    refine R1.poke e ev E1 trivial ⟨a, dx, _, rfl, upd_same, by rw [upd_ne had.symm]; exact ed, ma, md, ?_, p1, hq⟩ (fun b hb => offa b (hna b hb)) fun b ob => ?_
    · rw [List.nodup_cons, List.nodup_cons]
      refine ⟨fun z => ?_, fun z => n2 (p2 _ z), p3 n3⟩
      rcases List.mem_cons.mp z with z | z
      · exact had z
      · exact han (p2 _ z)
    · obtain ⟨a2, dx2, ws2, e2, ea2, hb⟩ := ob
      cases e2
      rw [upd_same] at ea2
      cases ea2
      exact .inl (own0 b (hb.imp id fun h => h.imp id fun h => p2 _ h))
  | own d =>
    cases hx
    obtain ⟨b0, rfl, q1, q2, q3, q4⟩ := ry
    have hb0 : ∀ b, (H b ≠ none) → b ≠ b0 := fun b hb z => hb (by rw [z]; exact q1)
    have there : ∀ b, Owns H1 (.ref a) (.obj q C fs) b → H b ≠ none := fun b ob => by
      obtain ⟨v3, e3, r3⟩ := R.slot i _ e
      rw [ev] at e3
      cases e3
      exact (r3.owns (ob.at r3 fun b o => (E.mine (r3.owns o).1 (r3.owns o).2).2)).2.ne
    have hba : b0 ≠ a := (hb0 a (there a (own0 a (.inl rfl)))).symm
    have hbd : b0 ≠ dx := (hb0 dx (there dx (own0 dx (.inr (.inl rfl))))).symm
    have hbn : b0 ∉ adrs fs ws := fun z => hb0 b0 (there b0 (own0 b0 (.inr (.inr z)))) rfl
    have mb : Mine H0 G1 b0 := ⟨R.ext.dom q1, q2, q3⟩
    obtain ⟨p1, p2, p3⟩ := old.putO (f := f) (b := b0) (d := d) mb (q4.at (fun _ _ z => z) (upd_ne hba)) hbn
    refine R1.poke e ev E1 trivial ⟨a, dx, _, rfl, upd_same, by rw [upd_ne had.symm]; exact ed, ma, md, ?_, p1, hq⟩ (fun b hb => offa b (hna b hb)) fun b ob => ?_
    · rw [List.nodup_cons, List.nodup_cons]
      refine ⟨fun z => ?_, fun z => ?_, p3 n3⟩
      · rcases List.mem_cons.mp z with z | z
        · exact had z
        · rcases p2 _ z with z | z
          · exact hba z.symm
          · exact han z
      · rcases p2 _ z with z | z
        · exact hbd z.symm
        · exact n2 z
    · obtain ⟨a2, dx2, ws2, e2, ea2, hb⟩ := ob
      cases e2
      rw [upd_same] at ea2
      cases ea2
      rcases hb with hb | hb | hb
      · exact .inl (own0 b (.inl hb))
      · exact .inl (own0 b (.inr (.inl hb)))
      · rcases p2 _ hb with rfl | hb
        · refine .inr fun j sw w _ ej ew ow => ?_
          obtain ⟨w', e6, r6⟩ := R.slot j sw ej
          rw [ew] at e6
          cases e6
          exact (r6.owns (ow.at r6 fun b o => (E.mine (r6.owns o).1 (r6.owns o).2).2)).2.ne q1
        · exact .inl (own0 b (.inr (.inr hb)))
  | _ => cases hx
section
variable {X : Cx} {EX : EXT} {e : Expr} {ge : GE} {f x : Str} {pos pos' p : Pos}
theorem vs_fset (i : Nat) (Cs : List Addr) (he : VE X EX e ge) (hc : ∀ C ∈ Cs, Cls X.K C ∧ NoAttr X.K C f) (hN : X.N[i]? = some x := by rfl) (hv : Vis X.env.scope x := by first | exact Or.inl rfl | exact Or.inr (Or.inl rfl) | exact Or.inr (Or.inr rfl)) (hd : (x == ("__debug__" : Str)) = false := by decide)
    (hcd : (x == ("__classdict__" : Str)) = false := by decide) (hs : swapsWith e (some (.Attribute (.Name x p) f pos')) pos.line X.env = pure false := by rfl) : VS X EX (.Assign [.Attribute (.Name x p) f pos'] e pos) (gFSet i Cs f ge) := by
  refine ⟨fun G0 H0 tk => psMono (ps_fld (pe_var hN hv hd hcd) (he.pe G0 H0 tk) hs) fun D σ H ⟨G, S, DV, R, q, k⟩ => ?_⟩
  refine ⟨G, S, _, R, q, fun y H1 G1 sv E1 r1 q1 => ?_⟩
  obtain ⟨x, q, C, fs, hx, e, hC, hl, q1⟩ := q1
  obtain ⟨v, ev, rv⟩ := (R.go E1).slot i _ e
  obtain ⟨a, dx, ws, rfl, ea, ed, ma, md, nd, rf, hq⟩ := rv
  exact ⟨_, ev, a, C, dx, ws, rfl, ea, (hc C hC).1, (hc C hC).2, by rw [rf.len]; exact hl, k.nx _ _ _ _ (R.fset E1 r1 hx e ev ea) E1.frz q1⟩
end
end VT

namespace VT
open PySem PySem.Spec PyProof.Rows L2

/-! ### a field's own object is changed -/
section
variable {Hs H : Hp} {G : Gh} {fs : List (Str × FV)} {ws : List (Str × V)} {f : Str} {d d' : D} {b : Addr} {o : HO}
theorem RepF.lookO (r : RepF Hs G H fs ws) (h : fs.lookup f = some (.own d)) : ∃ b, ws.lookup f = some (.ref b) ∧ Mine Hs G b ∧ cont G.F H b d ∧ b ∈ adrs fs ws := by
  induction r with
  | nil => simp at h
  | @tr g d1 v fs ws r _ ih =>
    rw [List.lookup_cons] at h ⊢
    cases hg : f == g with
    | true => rw [hg] at h; cases h
    | false => rw [hg] at h; exact ih h
  | @own g d1 b1 fs ws h1 h2 h3 h4 _ ih =>
    rw [List.lookup_cons] at h ⊢
    cases hg : f == g with
    | true =>
      rw [hg] at h
      cases h
      exact ⟨b1, rfl, ⟨h1, h2, h3⟩, h4, List.mem_cons_self ..⟩
    | false =>
      rw [hg] at h
      obtain ⟨b, e, m, c, hb⟩ := ih h
      exact ⟨b, e, m, c, List.mem_cons_of_mem _ hb⟩
theorem RepF.mutO (r : RepF Hs G H fs ws) (n : (adrs fs ws).Nodup) (h : fs.lookup f = some (.own d)) (hw : ws.lookup f = some (.ref b)) (c : cont G.F (upd H b o) b d') :
    RepF Hs G (upd H b o) (fput f (.own d') fs) ws ∧ adrs (fput f (.own d') fs) ws = adrs fs ws := by
  induction r with
  | nil => simp at h
  | @tr g d1 v fs ws r t ih =>
    rw [List.lookup_cons] at h hw
    have hne : ¬ g = f := fun z => by
      subst z
      simp at h
    have hg : (f == g) = false := beq_false_of_ne fun z => hne z.symm
    rw [hg] at h hw
    obtain ⟨i1, i2⟩ := ih n h hw
    unfold fput
    rw [if_neg hne]
    exact ⟨.tr r i1, i2⟩
  | @own g d1 b1 fs ws h1 h2 h3 h4 t ih =>
    obtain ⟨n1, n2⟩ := List.nodup_cons.mp n
    rw [List.lookup_cons] at h hw
    by_cases hne : g = f
    · subst hne
      have hg : (g == g) = true := beq_self_eq_true g
      rw [hg] at h hw
      cases hw
      unfold fput
      rw [if_pos rfl]
      refine ⟨.own h1 h2 h3 c (t.at (fun _ _ z => z) fun x hx => ⟨(t.mine x hx).1, upd_ne fun z => n1 (by rw [← z]; exact hx)⟩), rfl⟩
    · have hg : (f == g) = false := beq_false_of_ne fun z => hne z.symm
      rw [hg] at h hw
      have hw : ws.lookup f = some (.ref b) := hw
      obtain ⟨i1, i2⟩ := ih n2 h hw
      obtain ⟨b2, e2, _, _, hb2⟩ := t.lookO h
      rw [hw] at e2
      cases e2
      have hbb : b1 ≠ b := fun z => n1 (by rw [z]; exact hb2)
      unfold fput
      rw [if_neg hne]
      refine ⟨.own h1 h2 h3 (h4.at (fun _ _ z => z) (upd_ne hbb)) i1, ?_⟩
      show b1 :: adrs (fput f (.own d') fs) ws = b1 :: adrs fs ws
      rw [i2]
end
theorem Rel.fmut {G0 G : Gh} {H0 H : Hp} {σ : L2.St} {S : S} {i : Nat} {q C : Addr} {fs : List (Str × FV)} {f : Str} {d d' : D} {a dx b : Addr} {ws : List (Str × V)} {o : HO} (R : Rel G0 H0 G H σ S) (e : S[i]? = some (some (.obj q C fs))) (ev : σ[i]? = some (some (.ref a))) (ea : H a = some (.ins C dx ws))
    (hf : fs.lookup f = some (.own d)) (hw : ws.lookup f = some (.ref b)) (c : cont G.F (upd H b o) b d') : Rel G0 H0 G (upd H b o) σ (S.set i (some (.obj q C (fput f (.own d') fs)))) := by
  obtain ⟨v0, e0, r⟩ := R.slot i _ e
  rw [ev] at e0
  cases e0
  obtain ⟨a', dx', ws', e1, ea', ed, ma, md, nd, rf, hq⟩ := r
  cases e1
  rw [ea] at ea'
  cases ea'
  have nd0 := nd
  rw [List.nodup_cons, List.nodup_cons] at nd
  obtain ⟨n1, n2, n3⟩ := nd
  obtain ⟨b', eb, mb, cb, hb⟩ := rf.lookO hf
  rw [hw] at eb
  cases eb
  obtain ⟨p1, p2⟩ := rf.mutO (o := o) (d' := d') n3 hf hw c
  have hab : a ≠ b := fun z => n1 (List.mem_cons_of_mem _ (by rw [z]; exact hb))
  have hdb : dx ≠ b := fun z => n2 (by rw [z]; exact hb)
  have ob : Owns H (.ref a) (.obj q C fs) b := ⟨a, dx, ws, rfl, ea, .inr (.inr hb)⟩
  refine R.poke e ev (ext_write R.ext mb.1 mb.2.1 mb.2.2 o cb.plain) trivial ⟨a, dx, ws, rfl, by rw [upd_ne hab]; exact ea, by rw [upd_ne hdb]; exact ed, ma, md, by rw [p2]; exact nd0, p1, hq⟩ (fun x hx u h => by rw [upd_ne fun z => hx (by rw [z]; exact ob)]; exact h) fun x ox => ?_
  obtain ⟨a2, dx2, ws2, e2, ea2, hx⟩ := ox
  cases e2
  rw [upd_ne hab, ea] at ea2
  cases ea2
  rw [p2] at hx
  exact .inl ⟨a, dx, ws, rfl, ea, hx⟩
/-- x.f.append(e) and the like, f an own list of the object under way in slot i -/
@[simp] def gMutF (i : Nat) (Cs : List Addr) (fl : Str) (ga : GA) (f : List VT.D → List SV → (List VT.D → Prop) → Prop) : GS := fun D S => ∃ q C fs ds0, S[i]? = some (some (.obj q C fs)) ∧ C ∈ Cs ∧ fs.lookup fl = some (.own (.lst ds0)) ∧ ga S fun svs => f ds0 svs fun es => D.nx (S.set i (some (.obj q C (fput fl (.own (.lst es)) fs))))
section
variable {X : Cx} {EX : EXT} {pos fpos : Pos}
theorem mutF {name fl : Str} {id : String} {e : Expr} {es : List Expr} {ga : GA} {f : List VT.D → List SV → (List VT.D → Prop) → Prop} {apos cpos p : Pos} {x : Str} (i : Nat) (Cs : List Addr) (hc : ∀ C ∈ Cs, Cls X.K C ∧ NoAttr X.K C fl) (hN : X.N[i]? = some x) (hv : Vis X.env.scope x) (hd : (x == ("__debug__" : Str)) = false) (hcd : (x == ("__classdict__" : Str)) = false)
    (hbx : attributeBase (.Name x p) fl X.env (eval (.Name x p) X.env) = eval (.Name x p) X.env)
    (slot : Slot "list" name id) (hty : typeOf (.builtin id) = pure (.type "method_descriptor"))
    (hm : ∀ (G : Gh) (H H0 Hs : Hp) (a : Addr) (ds : List VT.D) (vs ws : List V) (svs : List SV) (Q : Hp → Prop) (F : List VT.D → Prop), OkG G H → H a = some (.lst vs) → reps G.F ds vs → RepL H0 Hs G H ws svs → f ds svs F → (∀ es us, F es → reps G.F es us → Q (upd H a (.lst us))) → ∃ r, MtR X id r ∧ r (.ref a) ws H (fun _ H' => Q H'))
    (ha : VA X EX (e :: es) ga) (hbase : attributeBase (.Attribute (.Name x p) fl fpos) name X.env (eval (.Attribute (.Name x p) fl fpos) X.env) = eval (.Attribute (.Name x p) fl fpos) X.env)
    (hfew : ((backTo cpos (starEach (e :: es) X.env)).all (fun x => !x.1) && (backToKw cpos (keywordEach [] X.env)).all (fun x => x.1.isSome)
      && decide ((e :: es).length + ([] : List Keyword).length + (if ([] : List Keyword).isEmpty then 0 else 1) < 30)) = true)
    (hline : (apos.endLine == cpos.line) = true) (hs : starEach (e :: es) X.env = (false, eval e X.env) :: starEach es X.env) (hplain : (backTo cpos (starEach es X.env)).any (·.1) = false) (hsw : swapsWith (.Call (.Attribute (.Attribute (.Name x p) fl fpos) name apos) (e :: es) [] cpos) none pos.line X.env = pure false) :
    VS X EX (.Expr (.Call (.Attribute (.Attribute (.Name x p) fl fpos) name apos) (e :: es) [] cpos) pos) (gMutF i Cs fl ga f) := by
  refine ⟨fun G0 H0 tk => psMono (ps_expr (pe_bm PySem.F.plainAttrs_list slot hty mtr_any (pe_fld (pe_var hN hv hd hcd) hbx) (ha.pa G0 H0 tk) hbase hfew hline hs hplain) hsw) fun D σ H ⟨G, S, DV, R, ⟨qa, C, fs, ds0, e0, hC, hl, q⟩, k⟩ => ?_⟩
  obtain ⟨v, e1, r⟩ := R.slot i _ e0
  obtain ⟨a, dx, ws0, rfl, ea, ed, ma, md, nd, rf, hq⟩ := r
  obtain ⟨b, hw, mb, cb, hb⟩ := rf.lookO hl
  obtain ⟨vs0, eb, rv0⟩ := cb
  refine ⟨.ref a, e1, a, C, dx, ws0, .ref b, rfl, ea, (hc C hC).1, (hc C hC).2, hw, .inl ⟨rfl, vs0, .of eb⟩, G, S, _, R, q, fun ws H1 G1 svs E1 r1 q1 => ?_⟩
  have R1 := R.go E1
  have ea1 := E1.same _ _ ea ma.2.2 nofun
  have eb1 := E1.same _ _ eb mb.2.2 nofun
  refine hm G1 H1 H0 H b ds0 vs0 ws svs (fun H' => D.nx σ H') _ E1.ok eb1 (reps.mono E1.frz _ _ rv0) r1 q1 fun es us q2 ru => ?_
  exact k.nx _ _ G1 _ (R1.fmut (o := .lst us) (d' := .lst es) e0 e1 ea1 hl hw ⟨us, upd_same, ru⟩) E1.frz q2
theorem vs_fappend {e : Expr} {ga : GA} {apos cpos p : Pos} {x fl : Str} (i : Nat) (Cs : List Addr) (ha : VA X EX [e] ga) (hc : ∀ C ∈ Cs, Cls X.K C ∧ NoAttr X.K C fl) (hN : X.N[i]? = some x := by rfl) (hv : Vis X.env.scope x := by first | exact Or.inl rfl | exact Or.inr (Or.inl rfl) | exact Or.inr (Or.inr rfl)) (hd : (x == ("__debug__" : Str)) = false := by decide) (hcd : (x == ("__classdict__" : Str)) = false := by decide)
    (hbx : attributeBase (.Name x p) fl X.env (eval (.Name x p) X.env) = eval (.Name x p) X.env := by rfl)
    (hbase : attributeBase (.Attribute (.Name x p) fl fpos) "append" X.env (eval (.Attribute (.Name x p) fl fpos) X.env) = eval (.Attribute (.Name x p) fl fpos) X.env := by rfl)
    (hfew : ((backTo cpos (starEach [e] X.env)).all (fun x => !x.1) && (backToKw cpos (keywordEach [] X.env)).all (fun x => x.1.isSome)
      && decide (([e] : List Expr).length + ([] : List Keyword).length + (if ([] : List Keyword).isEmpty then 0 else 1) < 30)) = true := by rfl)
    (hline : (apos.endLine == cpos.line) = true := by rfl) (hs : starEach [e] X.env = (false, eval e X.env) :: starEach [] X.env := by rfl) (hsw : swapsWith (.Call (.Attribute (.Attribute (.Name x p) fl fpos) "append" apos) [e] [] cpos) none pos.line X.env = pure false := by rfl) :
    VS X EX (.Expr (.Call (.Attribute (.Attribute (.Name x p) fl fpos) "append" apos) [e] [] cpos) pos) (gMutF i Cs fl ga fAppend) := by
  refine mutF i Cs hc hN hv hd hcd hbx PySem.F.slot_list_append PySem.F.type_list_append (fun G H H0 Hs a ds vs ws svs Q F ok ea rv r q k => ?_) ha hbase hfew hline hs rfl hsw
  obtain ⟨y, rfl, hz, q⟩ := q
  cases r with
  | cons ry rr _ =>
    cases rr
    exact ⟨_, mt_append, a, vs, _, rfl, rfl, ea, by rw [rv.length]; exact hz, k _ _ q (rv.append (es := [y]) ⟨_, [], rfl, ry, rfl⟩)⟩
end
end VT

namespace VT
open PySem PySem.Spec PyProof.Rows L2

/-! ### an object under way is let go of -/
def FV.d : FV → D
  | .tr d => d
  | .own d => d
@[simp] theorem fvd_tr (d : D) : (FV.tr d).d = d := rfl
@[simp] theorem fvd_own (d : D) : (FV.own d).d = d := rfl
def frzF (fs : List (Str × FV)) : List (Str × D) := fs.map fun p => (p.1, p.2.d)
@[simp] theorem frzF_nil : frzF [] = [] := rfl
@[simp] theorem frzF_cons (f : Str) (x : FV) (fs : List (Str × FV)) : frzF ((f, x) :: fs) = (f, x.d) :: frzF fs := rfl
section
variable {Gs G : Gh} {H0 Hs H : Hp} {v : V} {q C : Addr} {fs : List (Str × FV)} {ws : List (Str × V)}
theorem RepF.frz (E : Ext Gs Hs G H) (r : RepF Hs G H fs ws) (n : (adrs fs ws).Nodup) : ∃ G', Ext Gs Hs G' H ∧ (∀ x o, G.F x = some o → G'.F x = some o) ∧ G'.pb = G.pb ∧ repf G'.F (frzF fs) ws ∧ ∀ b, b ∉ adrs fs ws → G'.F b = G.F b := by
  induction r with
  | nil => exact ⟨G, E, fun _ _ h => h, rfl, rfl, fun _ _ => rfl⟩
  | @tr g d v fs ws r _ ih =>
    obtain ⟨G', E', m, ep, q, same⟩ := ih n
    exact ⟨G', E', m, ep, ⟨v, ws, rfl, rep.mono m _ _ r, q⟩, same⟩
  | @own g d b fs ws h1 h2 h3 h4 _ ih =>
    obtain ⟨n1, n2⟩ := List.nodup_cons.mp n
    obtain ⟨G', E', m, ep, q, same⟩ := ih n2
    have hF : G'.F b = none := by rw [same b n1]; exact h2
    obtain ⟨o, ho, no, rd⟩ := (h4.mono m).obj hF
    have m2 : ∀ x u, G'.F x = some u → upd G'.F b o x = some u := upd_mono hF
    refine ⟨⟨upd G'.F b o, G'.pb, G'.T⟩, ext_freeze E' h1 ho hF (by rw [ep]; exact h3) no, fun x u h => m2 x u (m x u h), ep, ⟨.ref b, ws, rfl, rd, repf.mono m2 _ _ q⟩, fun x hx => ?_⟩
    have hxb : x ≠ b := fun z => hx (by rw [z]; exact List.mem_cons_self ..)
    show upd G'.F b o x = G.F x
    rw [upd_ne hxb]
    exact same x fun z => hx (List.mem_cons_of_mem _ z)
theorem obj_freeze (E : Ext Gs Hs G H) (r : RepV H0 Hs G H v (.obj q C fs)) : ∃ G', Ext Gs Hs G' H ∧ (∀ x o, G.F x = some o → G'.F x = some o) ∧ RepV H0 Hs G' H v (.tr (.ins C (frzF fs))) := by
  obtain ⟨a, dx, ws, rfl, ea, ed, ma, md, nd, rf, _⟩ := r
  rw [List.nodup_cons, List.nodup_cons] at nd
  obtain ⟨n1, n2, n3⟩ := nd
  have had : a ≠ dx := fun z => n1 (by rw [z]; exact List.mem_cons_self ..)
  obtain ⟨G1, E1, m1, ep, q, same⟩ := rf.frz E n3
  have hFd : G1.F dx = none := by rw [same dx n2]; exact md.2.1
  have hFa : G1.F a = none := by rw [same a fun z => n1 (List.mem_cons_of_mem _ z)]; exact ma.2.1
  have E2 := ext_freeze E1 md.1 ed hFd (by rw [ep]; exact md.2.2)
  have hFa2 : upd G1.F dx (.own a) a = none := by rw [upd_ne had]; exact hFa
  have E3 := ext_freeze E2 ma.1 ea hFa2 (by show G1.pb ≠ some a; rw [ep]; exact ma.2.2)
  have m2 : ∀ x u, G1.F x = some u → upd (upd G1.F dx (.own a)) a (.ins C dx ws) x = some u := fun x u h => upd_mono hFa2 x u (upd_mono hFd x u h)
  refine ⟨_, E3, fun x u h => m2 x u (m1 x u h), a, dx, ws, rfl, upd_same, ?_, repf.mono m2 _ _ q⟩
  show upd (upd G1.F dx (.own a)) a (.ins C dx ws) dx = some (.own a)
  rw [upd_ne had.symm, upd_same]
end

/-! ### __init__, making -/
/-- what __init__ of the class at C makes of its arguments: Q of the object under way -/
def spInit (K : PySem.W.Frag) (C : Addr) (F : FSp) : Sp := fun vs H Q _ => ∃ G H1 x dx vs' svs Qs, H = upd (upd H1 dx (.own x)) x (.ins C dx []) ∧ H1 x = none ∧ H1 dx = none ∧ dx ≠ x ∧ (OkG G H1 ∧ G.T = TabsOf K) ∧ vs = .ref x :: vs' ∧ RepL H1 H1 G H1 vs' svs ∧ (∀ sv ∈ svs, sv.isArg) ∧ F svs Qs ∧
  ∀ H' G' fs, Ext G H1 G' H' → RepV H1 H1 G' H' (.ref x) (.obj x C fs) → Qs (.tr (.ins C (frzF fs))) → Q .non H'
theorem ext_made {G : Gh} {H1 : Hp} {x dx C : Addr} (ok : OkG G H1) (hx : H1 x = none) (hd : H1 dx = none) (hne : dx ≠ x) : Ext G H1 G (upd (upd H1 dx (.own x)) x (.ins C dx [])) ∧ RepV H1 H1 G (upd (upd H1 dx (.own x)) x (.ins C dx [])) (.ref x) (.obj x C []) := by
  have E1 := ext_new ok hd (.own x)
  have hx2 : upd H1 dx (.own x) x = none := by rw [upd_ne hne.symm]; exact hx
  have E2 := ext_new E1.ok hx2 (.ins C dx [])
  exact ⟨E1.trans E2, x, dx, [], rfl, upd_same, by rw [upd_ne hne, upd_same], ⟨hx, ok.nF hx, ok.npb hx⟩, ⟨hd, ok.nF hd, ok.npb hd⟩, by simp [adrs, hne.symm], .nil, rfl⟩
section
variable {P : Program} {w : World} {K : PySem.W.Frag} {mg : Str → Option Value} {base : Heap} {x qual : Str} {params : Arguments} {body : List Stmt} {scope : Scope} {dvs : List V} {kws : List (Str × V)} {f C : Addr} {fd : FuncData} {N ps : List Str} {k : Nat} {g : GS} {Fs : FSp}
theorem Rel.startI {G : Gh} {H : Hp} {xa dx : Addr} {vs : List V} {svs : List SV} (ok : OkG G H) (hx : H xa = none) (hd : H dx = none) (hne : dx ≠ xa) (r : RepL H H G H vs svs) (ha : ∀ sv ∈ svs, sv.isArg) :
    Rel G H G (upd (upd H dx (.own xa)) xa (.ins C dx [])) (L2.start N (.ref xa :: vs)) (startS N (.obj xa C [] :: svs)) := by
  obtain ⟨E, ro⟩ := ext_made (C := C) ok hx hd hne
  have hl := r.length
  have rE := r.ext E
  have gets : ∀ (i : Nat) (sv : SV), (startS N (.obj xa C [] :: svs))[i]? = some (some sv) → (i = 0 ∧ sv = .obj xa C []) ∨ (∃ j, i = j + 1 ∧ svs[j]? = some sv) := fun i sv e => by
    have e' := start_get e
    cases i with
    | zero => cases e'; exact .inl ⟨rfl, rfl⟩
    | succ j => exact .inr ⟨j, rfl, e'⟩
  refine ⟨E, by simp [startS, L2.start, hl], fun i sv e => ?_, fun i j sv sw v w b hij e1 e2 _ _ o1 o2 => ?_, fun i sv e => ?_⟩
  · rcases gets i sv e with ⟨rfl, rfl⟩ | ⟨j, rfl, e'⟩
    · exact ⟨.ref xa, rfl, ro⟩
    · obtain ⟨v, hv, rv⟩ := rE.get e'
      refine ⟨v, ?_, rv⟩
      unfold L2.start
      have hi : j < vs.length := (List.getElem?_eq_some_iff.mp hv).1
      rw [List.getElem?_append_left (by simpa using hi), List.getElem?_map, List.getElem?_cons_succ, hv]
      rfl
  · rcases gets i sv e1 with ⟨rfl, rfl⟩ | ⟨i', rfl, e1'⟩
    · rcases gets j sw e2 with ⟨rfl, rfl⟩ | ⟨j', rfl, e2'⟩
      · exact hij rfl
      · exact (ha _ (List.mem_of_getElem? e2')).none o2
    · exact (ha _ (List.mem_of_getElem? e1')).none o1
  · rcases gets i sv e with ⟨rfl, rfl⟩ | ⟨j, rfl, e'⟩
    · trivial
    · have := ha _ (List.mem_of_getElem? e')
      cases sv <;> first | exact this.elim | trivial
theorem init_ok (F : FunD K x qual params body scope dvs kws f fd) (Sc : FnScope N ps scope)
    (hbody : ∀ (cdv : Value) (A : Around) (outer : List Env) (s : Shared) (H : Hp) (E : XK), Room k (A.deeper (envOfC qual scope s.heap.objs.size f cdv)) → VSs (cxOf CX0 P w K mg base N qual scope f cdv A outer s H E).nox E0T body g)
    (len : ∀ svs Qs, Fs svs Qs → svs.length + 1 = ps.length) (spec : ∀ xa svs Qs, Fs svs Qs → g { nx := fun S => ∃ fs, S[0]? = some (some (.obj xa C fs)) ∧ Qs (.tr (.ins C (frzF fs))), rt := fun _ => False } (startS N (.obj xa C [] :: svs))) : FnOk P w K mg base CX0 (k + 1) f fd ps (spInit K C Fs) := by
  refine F.ok Sc (fun vs H Q E ⟨G, H1, xa, dx, vs', svs, Qs, _, _, _, _, _, ev, r, _, h, _⟩ => by rw [ev, List.length_cons, r.length]; exact len _ _ h) (fun cdv A outer s H vs Q E hr h => ?_)
  obtain ⟨G, H1, xa, dx, vs', svs, Qs, eH, hx, hd, hne, ok, ev, r, ha, hf, z⟩ := h
  refine ⟨TSV G H1 g, ((hbody cdv A outer s H E hr).pss _ _ (Lk.e0 ok.2)).nox, ?_⟩
  subst eH ev
  refine ⟨G, _, _, Rel.startI (N := N) ok.1 hx hd hne r ha, spec xa svs Qs hf, fun σ' H' G' S' R' _ q => ?_, fun v H' G' sv E' r' ir q => q.elim, fun σ' H' G' S' R' _ q => q.elim, fun σ' H' G' S' R' _ q => q.elim⟩
  obtain ⟨fs, e0, q⟩ := q
  obtain ⟨v, ev, rv⟩ := R'.slot 0 _ e0
  have e1 : v = .ref xa := by
    obtain ⟨a, _, _, e, _, _, _, _, _, _, hq⟩ := rv
    rw [e, hq]
  rw [e1] at rv
  exact z H' G' fs R'.ext rv q
end
section
variable {X : Cx} {EX : EXT} {k : Nat} {f C : Addr} {fd : FuncData} {ps : List Str} {F : FSp} {dd : List D} {dvs : List V} {ds : List Value} {x : Str} {p pos : Pos} {e : Expr} {es : List Expr} {ga : GA}
theorem make_end {G0 G G1 : Gh} {H0 H H1 : Hp} {Qs : SV → Prop} {Q : VK} {vs : List V} {svs : List SV} (hd : Wrts dd dvs) (hT : G1.T = TabsOf X.K) (E1 : Ext G H G1 H1) (r1 : RepL H0 H G1 H1 vs svs) (q1 : F (svs.map SV.arg ++ dd.map SV.tr) Qs) (kq : KQ H0 G H Qs Q) (E : XK) :
    ∀ x dx, H1 x = none → H1 dx = none → dx ≠ x → spInit X.K C F (.ref x :: (vs ++ dvs)) (upd (upd H1 dx (.own x)) x (.ins C dx [])) (fun v H2 => v = .non ∧ Q (.ref x) H2) E := by
  intro x dx hx hdx hne
  obtain ⟨a1, a2⟩ := r1.toArg
  refine ⟨G1, H1, x, dx, _, _, Qs, rfl, hx, hdx, hne, ⟨E1.ok, hT⟩, rfl, a1.append hd.repl a2, fun sv h => ?_, q1, fun H' G' fs E' r' q' => ⟨rfl, ?_⟩⟩
  · rcases List.mem_append.mp h with h | h
    · exact a2 sv h
    · obtain ⟨d, _, rfl⟩ := List.mem_map.mp h
      trivial
  · obtain ⟨G2, E2, _, r2⟩ := obj_freeze E' r'
    exact kq _ H' G2 (.tr (.ins C (frzF fs))) (E1.trans E2) r2 q'
/-- C(e, ..): a frozen object -/
theorem ve_make (M : Mk X.K C f) (Fn : FnOk X.prog X.w X.K X.mg X.base CX0 k f fd ps (spInit X.K C F)) (hr : Room (k + 1) X.A) (hg : Gl X x) (hm : X.mg x = some (.ref C)) (hb : Binds X.K fd ps ds) (hd : Vals dvs ds) (hw : Wrts dd dvs)
    (ha : VA X EX (e :: es) ga) (hdb : (x == ("__debug__" : Str)) = false := by decide) (he : starEach (e :: es) X.env = (false, eval e X.env) :: starEach es X.env := by rfl) (hpl : (backTo pos (starEach es X.env)).any (·.1) = false := by rfl) :
    VE X EX (.Call (.Name x p) (e :: es) [] pos) (gCall F dd ga) :=
  ⟨fun G0 H0 tk => peMono (pe_make M Fn hr hg hm hb hd pass0 (ha.pa G0 H0 tk) hdb he hpl) fun σ H Q ⟨G, S, Qs, R, q, kq⟩ => ⟨G, S, _, R, q, fun vs H1 G1 svs E1 r1 q1 => make_end (G0 := G0) hw (tk.tt R E1) E1 r1 q1 kq E0⟩⟩
theorem ve_make0 (M : Mk X.K C f) (Fn : FnOk X.prog X.w X.K X.mg X.base CX0 k f fd ps (spInit X.K C F)) (hr : Room (k + 1) X.A) (hg : Gl X x) (hm : X.mg x = some (.ref C)) (hb : Binds X.K fd ps ds) (hd : Vals dvs ds) (hw : Wrts dd dvs)
    (hdb : (x == ("__debug__" : Str)) = false := by decide) : VE X EX (.Call (.Name x p) [] [] pos) (gCall F dd gaNil) :=
  ⟨fun G0 H0 tk => peMono (pe_make0 M Fn hr hg hm hb hd pass0 hdb) fun σ H Q ⟨G, S, Qs, R, q, kq⟩ => make_end (vs := []) (G0 := G0) hw (tk.tt R (.refl R.ok)) (.refl R.ok) .nil q kq E0⟩
end
end VT

namespace VT
open PySem PySem.Spec PyProof.Rows L2

/-! ### methods, properties -/
theorem repf_none {F : Hp} {f : Str} : ∀ {fs : List (Str × D)} {ws : List (Str × V)}, repf F fs ws → (fs.map fun p => (p.1, FV.tr p.2)).lookup f = none → ws.lookup f = none
  | [], _, e, _ => by rw [show _ = _ from e]; rfl
  | (g, d) :: fs, _, ⟨v, t, e, r, q⟩, h => by
    rw [e]
    rw [List.map_cons, List.lookup_cons] at h
    rw [List.lookup_cons]
    cases hg : f == g with
    | true => rw [hg] at h; cases h
    | false =>
      rw [hg] at h
      exact repf_none q h
theorem RepP.none_ {N : Addr → Prop} {G : Gh} {H : Hp} {f : Str} {fs : List (Str × FV)} {ws : List (Str × V)} (r : RepP N G H fs ws) (h : fs.lookup f = none) : ws.lookup f = none := by
  induction r with
  | nil => rfl
  | @tr g d v fs ws r _ ih =>
    rw [List.lookup_cons] at h ⊢
    cases hg : f == g with
    | true => rw [hg] at h; cases h
    | false => rw [hg] at h; exact ih h
  | @own g d b fs ws h1 h2 h3 _ ih =>
    rw [List.lookup_cons] at h ⊢
    cases hg : f == g with
    | true => rw [hg] at h; cases h
    | false => rw [hg] at h; exact ih h
theorem RepV.insNone {H0 Hs H : Hp} {G : Gh} {v : V} {sv : SV} {C : Addr} {fs : List (Str × FV)} {f : Str} (r : RepV H0 Hs G H v sv) (ok : OkG G H) (e : sv.ins? = some (C, fs)) (hn : fs.lookup f = none) :
    ∃ a dx ws, v = .ref a ∧ H a = some (.ins C dx ws) ∧ ws.lookup f = none := by
  cases sv with
  | tr d =>
    cases d with
    | ins C' fs' =>
      cases e
      obtain ⟨a, dx, ws, e1, e2, e3, q⟩ := r
      exact ⟨a, dx, ws, e1, ok.sub _ _ e2, repf_none q hn⟩
    | _ => cases e
  | obj q' C' fs' =>
    cases e
    obtain ⟨a, dx, ws, e1, e2, _, _, _, _, rf, _⟩ := r
    exact ⟨a, dx, ws, e1, e2, rf.peek.none_ hn⟩
  | pob C' fs' =>
    cases e
    obtain ⟨a, dx, ws, e1, e2, _, rf⟩ := r
    exact ⟨a, dx, ws, e1, e2, rf.none_ hn⟩
  | bob C' fs' =>
    cases e
    obtain ⟨a, dx, ws, e1, _, e2, _, rf⟩ := r
    exact ⟨a, dx, ws, e1, e2, rf.none_ hn⟩
  | _ => cases e
@[simp] def gMeth (C : Addr) (m : Str) (F : FSp) (dd : List D) (go : GE) (ga : GA) : GE := fun S Q => go S fun so => ∃ fs, so.ins? = some (C, fs) ∧ fs.lookup m = none ∧ ga S fun svs => F (so.arg :: (svs.map SV.arg ++ dd.map SV.tr)) Q
@[simp] def gProp (C : Addr) (F : FSp) (go : GE) : GE := fun S Q => go S fun so => ∃ fs, so.ins? = some (C, fs) ∧ F [so.arg] Q
section
variable {X : Cx} {EX : EXT} {k : Nat} {f C : Addr} {fd : FuncData} {ps : List Str} {F : FSp} {dd : List D} {dvs : List V} {ds : List Value} {m : Str} {p pos apos : Pos} {o e : Expr} {es : List Expr} {go : GE} {ga : GA}
theorem ve_meth {pl : Sem Bool} (he : VE X EX o go) (c : Cls X.K C) (hm : Meth X.K C m f) (Fn : FnOk X.prog X.w X.K X.mg X.base CX0 k f fd ps (spV X.K F)) (hr : Room k X.A) (hb : Binds X.K fd ps ds) (hd : Vals dvs ds) (hw : Wrts dd dvs) (ha : VA X EX (e :: es) ga)
    (hst : starEach (e :: es) X.env = (false, eval e X.env) :: starEach es X.env := by rfl) (hpl : (backTo pos (starEach es X.env)).any (·.1) = false := by rfl)
    (ht : eval (.Call (.Attribute o m apos) (e :: es) [] pos) X.env = (do
      let ov ← eval o X.env
      standAt apos.atName
      let (f, first) ← holding [ov] (getMethod ov m pl)
      callWith pos f first (backTo pos (starEach (e :: es) X.env)) (backToKw pos (keywordEach [] X.env))) := by rfl) : VE X EX (.Call (.Attribute o m apos) (e :: es) [] pos) (gMeth C m F dd go ga) := by
  refine ⟨fun G0 H0 tk => peMono (pe_meth (he.pe G0 H0 tk) c hm Fn hr hb hd pass0 (ha.pa G0 H0 tk) hst hpl ht) fun σ H Q ⟨G, S, Qs, R, q, kq⟩ => ?_⟩
  refine ⟨G, S, _, R, q, fun v H1 G1 so E1 r1 q1 => ?_⟩
  obtain ⟨fs, hi, hn, q1⟩ := q1
  obtain ⟨a, dx, ws, rfl, ea, hl⟩ := r1.insNone E1.ok hi hn
  refine ⟨a, dx, ws, rfl, ea, hl, G1, S, _, R.go E1, q1, fun vs H2 G2 svs E2 r2 q2 => ?_⟩
  exact call_end (G0 := G0) (svs := so :: svs) (vs := .ref a :: vs) hw (tk.tt R (E1.trans E2)) (E1.trans E2) (RepL.cons' (fun _ z => E1.dom z) E2 r1 r2) q2 kq E0
theorem ve_meth0 {pl : Sem Bool} (he : VE X EX o go) (c : Cls X.K C) (hm : Meth X.K C m f) (Fn : FnOk X.prog X.w X.K X.mg X.base CX0 k f fd ps (spV X.K F)) (hr : Room k X.A) (hb : Binds X.K fd ps ds) (hd : Vals dvs ds) (hw : Wrts dd dvs)
    (ht : eval (.Call (.Attribute o m apos) [] [] pos) X.env = (do
      let ov ← eval o X.env
      standAt apos.atName
      let (f, first) ← holding [ov] (getMethod ov m pl)
      callWith pos f first (backTo pos (starEach [] X.env)) (backToKw pos (keywordEach [] X.env))) := by rfl) : VE X EX (.Call (.Attribute o m apos) [] [] pos) (gMeth C m F dd go gaNil) := by
  refine ⟨fun G0 H0 tk => peMono (pe_meth0 (he.pe G0 H0 tk) c hm Fn hr hb hd pass0 ht) fun σ H Q ⟨G, S, Qs, R, q, kq⟩ => ?_⟩
  refine ⟨G, S, _, R, q, fun v H1 G1 so E1 r1 q1 => ?_⟩
  obtain ⟨fs, hi, hn, q1⟩ := q1
  obtain ⟨a, dx, ws, rfl, ea, hl⟩ := r1.insNone E1.ok hi hn
  refine ⟨a, dx, ws, rfl, ea, hl, ?_⟩
  exact call_end (G0 := G0) (svs := [so]) (vs := [.ref a]) hw (tk.tt R E1) E1 (.cons r1 .nil fun _ _ z => z) q1 kq E0
theorem ve_prop {pa : Addr} (he : VE X EX o go) (c : Cls X.K C) (hp : PropOf X.K C m pa f) (Fn : FnOk X.prog X.w X.K X.mg X.base CX0 k f fd ps (spV X.K F)) (hr : Room (k + 1) X.A) (hb : Binds X.K fd ps [])
    (hab : attributeBase o m X.env (eval o X.env) = eval o X.env := by rfl) : VE X EX (.Attribute o m pos) (gProp C F go) := by
  refine ⟨fun G0 H0 tk => peMono (pe_prop (he.pe G0 H0 tk) c hp Fn hr hb .nil pass0 hab) fun σ H Q ⟨G, S, Qs, R, q, kq⟩ => ?_⟩
  refine ⟨G, S, _, R, q, fun v H1 G1 so E1 r1 q1 => ?_⟩
  obtain ⟨fs, hi, q1⟩ := q1
  obtain ⟨a, dx, ws, rfl, ea, _⟩ := r1.insAt E1.ok hi
  refine ⟨a, dx, ws, rfl, ea, ?_⟩
  exact call_end (G0 := G0) (svs := [so]) (vs := [.ref a]) (dd := []) (dvs := []) .nil (tk.tt R E1) E1 (.cons r1 .nil fun _ _ z => z) q1 kq E0
end
/-! ### a raise that is not reached -/
def gNever : GS := fun _ _ => False
theorem vs_never {X : Cx} {EX : EXT} {st : Stmt} : VS X EX st gNever := ⟨fun G0 H0 tk => ⟨fun pins s σ H D I ⟨_, _, _, _, q, _⟩ => q.elim⟩⟩
@[simp] theorem gNever_eq (D : VEnds) (S : S) : gNever D S = False := rfl
end VT

namespace VT
open PySem PySem.Spec PyProof.Rows L2

/-! ### dicts: read -/
section
variable {X : Cx} {EX : EXT}
theorem ix_dict (hu : X.A.units + 1 < cLine) : IxR X (fun x y H Q => ∃ a v, x = .ref a ∧ DGet H a y (some v) ∧ Q v H) := by
  intro va sl pins s σ H x y v u Q I rx ry h hs
  obtain ⟨a, z, rfl, g, q⟩ := h
  cases rx
  have T := dict_typeIs I g
  have W : wpAny (model X.prog X.w) X.A (getItem (.ref a) u) (EP X pins σ Q) X.xe s := d_getItem hu I g ry fun w' s3 I3 rw' => ⟨z, H, I3, rw', q⟩
  have W2 : wpAny (model X.prog X.w) X.A (subscripted sl false (.ref a) u) (fun r s' => wpAny (model X.prog X.w) X.A (letTemporaryGo va (.ref a) r >>= fun _ => pure r) (EP X pins σ Q) X.xe s') X.xe s := by
    rw [hs]
    refine wpAny_operating (wpAny_mono W (fun r s' hq => ?_) fun _ _ e => e)
    exact wpAny_bind (wpAny_letTemporaryGo (wpAny_pure hq))
  show wpAny _ _ (subscriptTail va sl (.ref a) u) _ _ s
  unfold subscriptTail
  refine wpAny_bind ?_
  rw [getitemInPython_of_ne T.not_modules]
  refine wpAny_bind (wpAny_specialOf T PySem.F.slot_dict_getitem.lookup ?_)
  first
    | exact wpAny_bind W2
    | exact wpAny_pure (wpAny_bind W2)
    | exact wpAny_bind (wpAny_pure (wpAny_bind W2))
theorem or_din (hu : X.A.units + 1 < cLine) : OpR X (compareOp .In) (fun x y H Q => ∃ a o, y = .ref a ∧ DGet H a x o ∧ Q (.bl o.isSome) H) := by
  rintro pins s σ H x y v u Q I rx ry ⟨a, o, rfl, g, q⟩
  cases ry
  exact d_in hu I g rx fun s' I' => ⟨.bl o.isSome, H, I', rfl, q⟩
theorem or_dnin (hu : X.A.units + 1 < cLine) : OpR X (compareOp .NotIn) (fun x y H Q => ∃ a o, y = .ref a ∧ DGet H a x o ∧ Q (.bl (!o.isSome)) H) := by
  rintro pins s σ H x y v u Q I rx ry ⟨a, o, rfl, g, q⟩
  cases ry
  exact d_notIn hu I g rx fun s' I' => ⟨.bl (!o.isSome), H, I', rfl, q⟩
end
/-- a value as a key -/
def keyD : D → Option Key
  | .int i => some (.inl i)
  | .str x => some (.inr x)
  | _ => none
@[simp] theorem keyD_int (i : Int) : keyD (.int i) = some (.inl i) := rfl
@[simp] theorem keyD_str (x : Str) : keyD (.str x) = some (.inr x) := rfl
def valD (kvs : List (Key × D)) (k : Key) : Option D := (kvs.find? fun kv => decide (kv.1 = k)).map (·.2)
theorem repk_val {F : Hp} {k : Key} : ∀ {kvs : List (Key × D)} {ws : List (Key × V)}, repk F kvs ws → (∀ d, valD kvs k = some d → ∃ v, valV ws k = some v ∧ rep F d v) ∧ (valD kvs k = none → valV ws k = none)
  | [], _, e => by rw [show _ = _ from e]; exact ⟨fun d h => (by cases h), fun _ => rfl⟩
  | (k', d) :: kvs, _, ⟨v, t, e, r, q⟩ => by
    rw [e]
    obtain ⟨i1, i2⟩ := repk_val (k := k) q
    unfold valD valV at i1 i2 ⊢
    rw [List.find?_cons, List.find?_cons]
    by_cases h : k' = k
    · simp only [h, decide_true]
      refine ⟨fun d' h => ?_, fun h => (by cases h)⟩
      cases h
      exact ⟨v, rfl, r⟩
    · simp only [h, decide_false]
      exact ⟨i1, i2⟩
theorem RepV.key {H0 Hs H : Hp} {G : Gh} {v : V} {sv : SV} {k : Key} (r : RepV H0 Hs G H v sv) (e : keyD sv.d = some k) : v = kV k := by
  cases hd : sv.d with
  | int i => rw [hd] at e; cases e; exact r.int hd
  | str x => rw [hd] at e; cases e; exact (r.str hd).1
  | _ => rw [hd] at e; cases e
/-- x in y, y a dict or else -/
def gInA (neg : Bool) (x y : D) (Q : SV → Prop) : Prop := match y with
  | .dic kvs => ∃ k, keyD x = some k ∧ Q (.tr (.bl (if neg then !(valD kvs k).isSome else (valD kvs k).isSome)))
  | _ => gIn neg x y Q
theorem isSome_of {kvs : List (Key × D)} {ws : List (Key × V)} {k : Key} {F : Hp} (r : repk F kvs ws) : (valV ws k).isSome = (valD kvs k).isSome := by
  obtain ⟨h1, h2⟩ := repk_val (k := k) r
  cases e : valD kvs k with
  | none => rw [h2 e]; rfl
  | some d =>
    obtain ⟨v, ev, _⟩ := h1 d e
    rw [ev]
    rfl
section
variable {X : Cx} {EX : EXT}
theorem ow_inA (hu : X.A.units + 64 < cLine) (hu' : X.A.units + 65 < cLine) : OpW X (compareOp .In) (gInA false) := by
  intro H0 Ha Hb G H x y sx sy Qs Q ok rx ry q k
  unfold gInA at q
  split at q
  · rename_i kvs hy
    obtain ⟨kk, hk, q⟩ := q
    obtain ⟨a, ws, rfl, ea, r⟩ := ry.dic ok hy
    have ek := rx.key hk
    subst ek
    refine ⟨_, or_din (by omega), a, _, rfl, .k ea, ?_⟩
    rw [isSome_of r]
    exact kq_tr (d := .bl _) k ok rfl q
  · exact ow_in hu hu' H0 Ha Hb G H x y sx sy Qs Q ok rx ry q k
theorem ow_notinA (hu : X.A.units + 64 < cLine) (hu' : X.A.units + 65 < cLine) : OpW X (compareOp .NotIn) (gInA true) := by
  intro H0 Ha Hb G H x y sx sy Qs Q ok rx ry q k
  unfold gInA at q
  split at q
  · rename_i kvs hy
    obtain ⟨kk, hk, q⟩ := q
    obtain ⟨a, ws, rfl, ea, r⟩ := ry.dic ok hy
    have ek := rx.key hk
    subst ek
    refine ⟨_, or_dnin (by omega), a, _, rfl, .k ea, ?_⟩
    rw [isSome_of r]
    exact kq_tr (d := .bl _) k ok rfl q
  · exact ow_notin hu hu' H0 Ha Hb G H x y sx sy Qs Q ok rx ry q k
end
/-- x[k], x a dict or else -/
def gIxA (x y : D) (Q : SV → Prop) : Prop := match x with
  | .dic kvs => ∃ k d, keyD y = some k ∧ valD kvs k = some d ∧ Q (.tr d)
  | _ => gIxD x y Q
section
variable {X : Cx} {EX : EXT}
theorem iw_all (hu : X.A.units + 1 < cLine) : IxW X gIxA := by
  intro H0 Ha Hb G H x y sx sy Qs Q ok r1 r2 q kk
  unfold gIxA at q
  split at q
  · rename_i kvs hx
    obtain ⟨k, d, hk, hd, q⟩ := q
    obtain ⟨a, ws, rfl, ea, r⟩ := r1.dic ok hx
    have ek := r2.key hk
    subst ek
    obtain ⟨v, ev, rv⟩ := (repk_val (k := k) r).1 d hd
    exact ⟨_, ix_dict hu, a, v, rfl, by rw [← ev]; exact .k ea, kq_tr kk ok rv q⟩
  · exact iw_seq H0 Ha Hb G H x y sx sy Qs Q ok r1 r2 q kk
/-- x[k], x a dict or else -/
theorem ve_ixA (hu : X.A.units + 1 < cLine) {a b : Expr} {ga gb : GE} {pos : Pos} (ha : VE X EX a ga) (hb : VE X EX b gb) (hs : PlainIx b := by exact fun _ _ => rfl) : VE X EX (.Subscript a b pos) (gOp gIxA ga gb) := ve_ixW (iw_all hu) ha hb hs
end
@[simp] theorem gIxA_dic (kvs : List (Key × D)) (y : D) (Q : SV → Prop) : gIxA (.dic kvs) y Q = ∃ k d, keyD y = some k ∧ valD kvs k = some d ∧ Q (.tr d) := rfl
@[simp] theorem gIxA_lst (xs : List D) (i : Int) (Q : SV → Prop) : gIxA (.lst xs) (.int i) Q = ∃ d, atI xs i = some d ∧ Q (.tr d) := rfl
@[simp] theorem gIxA_tup (xs : List D) (i : Int) (Q : SV → Prop) : gIxA (.tup xs) (.int i) Q = ∃ d, atI xs i = some d ∧ Q (.tr d) := rfl
@[simp] theorem gIxA_str (z : Str) (i : Int) (Q : SV → Prop) : gIxA (.str z) (.int i) Q = ∃ c, atI z.cps.toList i = some c ∧ Q (.tr (.str ⟨#[c]⟩)) := rfl
@[simp] theorem gInA_dic (neg : Bool) (kvs : List (Key × D)) (x : D) (Q : SV → Prop) : gInA neg x (.dic kvs) Q = ∃ k, keyD x = some k ∧ Q (.tr (.bl (if neg then !(valD kvs k).isSome else (valD kvs k).isSome))) := rfl
@[simp] theorem gInA_lst (neg : Bool) (xs : List D) (x : D) (Q : SV → Prop) : gInA neg x (.lst xs) Q = gIn neg x (.lst xs) Q := rfl
@[simp] theorem gInA_tup (neg : Bool) (xs : List D) (x : D) (Q : SV → Prop) : gInA neg x (.tup xs) Q = gIn neg x (.tup xs) Q := rfl
@[simp] theorem gInA_str (neg : Bool) (z : Str) (x : D) (Q : SV → Prop) : gInA neg x (.str z) Q = gIn neg x (.str z) Q := rfl
end VT

namespace VT
open PySem PySem.Spec PyProof.Rows L2

/-! ### x[k] = e, x an own list or dict -/
def putD (kvs : List (Key × D)) (k : Key) (y : D) : List (Key × D) :=
  if (kvs.any fun kv => decide (kv.1 = k)) = true then kvs.map (fun kv => if kv.1 = k then (kv.1, y) else kv) else kvs ++ [(k, y)]
theorem repk_any {F : Hp} {k : Key} : ∀ {kvs : List (Key × D)} {ws : List (Key × V)}, repk F kvs ws → (ws.any fun kv => decide (kv.1 = k)) = kvs.any fun kv => decide (kv.1 = k)
  | [], _, e => by rw [show _ = _ from e]; rfl
  | (k', d) :: kvs, _, ⟨v, t, e, r, q⟩ => by rw [e, List.any_cons, List.any_cons, repk_any q]
theorem repk_map {F : Hp} {k : Key} {y : D} {v : V} (hy : rep F y v) : ∀ {kvs : List (Key × D)} {ws : List (Key × V)}, repk F kvs ws → repk F (kvs.map fun kv => if kv.1 = k then (kv.1, y) else kv) (ws.map fun kv => if kv.1 = k then (kv.1, v) else kv)
  | [], _, e => by rw [show _ = _ from e]; rfl
  | (k', d) :: kvs, _, ⟨u, t, e, r, q⟩ => by
    rw [e, List.map_cons, List.map_cons]
    have ih := repk_map (k := k) hy q
    by_cases h : k' = k
    · rw [if_pos h, if_pos h]
      exact ⟨v, _, rfl, hy, ih⟩
    · rw [if_neg h, if_neg h]
      exact ⟨u, _, rfl, r, ih⟩
theorem repk_snoc {F : Hp} {k : Key} {y : D} {v : V} (hy : rep F y v) : ∀ {kvs : List (Key × D)} {ws : List (Key × V)}, repk F kvs ws → repk F (kvs ++ [(k, y)]) (ws ++ [(k, v)])
  | [], _, e => by rw [show _ = _ from e]; exact ⟨v, [], rfl, hy, rfl⟩
  | (k', d) :: kvs, _, ⟨u, t, e, r, q⟩ => by
    rw [e]
    exact ⟨u, _, rfl, r, repk_snoc hy q⟩
theorem repk_put {F : Hp} {k : Key} {y : D} {v : V} {kvs : List (Key × D)} {ws : List (Key × V)} (r : repk F kvs ws) (hy : rep F y v) : repk F (putD kvs k y) (putK ws k v) := by
  unfold putD putK
  rw [repk_any r]
  split
  · exact repk_map hy r
  · exact repk_snoc hy r
/-- c[k] = y gives F -/
def putC (c k y : D) (F : D → Prop) : Prop := match c with
  | .lst ds => ∃ n j, k = .int n ∧ ixN ds.length n = some j ∧ F (.lst (ds.set j y))
  | .dic kvs => ∃ q, keyD k = some q ∧ kvs.length < sizeLine ∧ F (.dic (putD kvs q y))
  | _ => False
@[simp] theorem putC_lst (ds : List D) (k y : D) (F : D → Prop) : putC (.lst ds) k y F = ∃ n j, k = .int n ∧ ixN ds.length n = some j ∧ F (.lst (ds.set j y)) := rfl
@[simp] theorem putC_dic (kvs : List (Key × D)) (k y : D) (F : D → Prop) : putC (.dic kvs) k y F = ∃ q, keyD k = some q ∧ kvs.length < sizeLine ∧ F (.dic (putD kvs q y)) := rfl
@[simp] def gPutA (i : Nat) (ge gk : GE) : GS := fun D S => ge S fun sv => ∃ y c, sv = .tr y ∧ S[i]? = some (some (.own c)) ∧ gk S fun sk => putC c sk.d y fun c' => D.nx (S.set i (some (.own c')))
section
variable {X : Cx} {EX : EXT} {pos : Pos}
theorem set_any : PSet X (fun o i v H Q => ∃ t, PSet X t ∧ t o i v H Q) := fun pins s σ H o i v ov iv u Q I ro ri rv ⟨_, h, q⟩ => h pins s σ H o i v ov iv u Q I ro ri rv q
theorem vs_putA (hu : X.A.units + 1 < cLine) {e ke : Expr} {ge gk : GE} {p spos : Pos} {x : Str} (i : Nat) (he : VE X EX e ge) (hk : VE X EX ke gk) (hN : X.N[i]? = some x := by rfl) (hv : Vis X.env.scope x := by first | exact Or.inl rfl | exact Or.inr (Or.inl rfl) | exact Or.inr (Or.inr rfl)) (hd : (x == ("__debug__" : Str)) = false := by decide) (hcd : (x == ("__classdict__" : Str)) = false := by decide)
    (ha : ∀ v, assign (.Subscript (.Name x p) ke spos) X.env v = (do
      let ov ← holding [v] (eval (.Name x p) X.env)
      let iv ← holding [v, ov] (eval ke X.env)
      standAt spos
      holding [v, ov, iv] (setItem ov iv v)
      release [v, ov, iv] []) := by intro _; rfl)
    (hs : swapsWithSole [.Subscript (.Name x p) ke spos] e pos.line X.env = pure false := by rfl) (hw : swappedStores [.Subscript (.Name x p) ke spos] e X.env = pure none := by rfl)
    (h1 : (assignEach [.Subscript (.Name x p) ke spos] X.env).map (·.2) = [assign (.Subscript (.Name x p) ke spos) X.env] := by rfl) :
    VS X EX (.Assign [.Subscript (.Name x p) ke spos] e pos) (gPutA i ge gk) := by
  refine ⟨fun G0 H0 tk => psMono (ps_asg (he.pe G0 H0 tk) (pg_sub (pe_var hN hv hd hcd) (hk.pe G0 H0 tk) set_any ha) hs hw h1) fun D σ H ⟨G, S, DV, R, q, k⟩ => ?_⟩
  refine ⟨G, S, _, R, q, fun v H1 G1 sv E1 r1 q1 => ?_⟩
  obtain ⟨y, c, rfl, e0, q1⟩ := q1
  obtain ⟨u, e1, r⟩ := R.slot i _ e0
  refine ⟨u, e1, G1, S, _, R.go E1, q1, fun sk H2 G2 ssk E2 r2 q2 => ?_⟩
  have R2 := (R.go E1).go E2
  have m2 : ∀ b o, G.F b = some o → G2.F b = some o := fun b o h => E2.frz b o (E1.frz b o h)
  have ry := rep.mono E2.frz _ _ r1
  obtain ⟨u', e3, r3⟩ := R2.slot i _ e0
  rw [e1] at e3
  cases e3
  obtain ⟨a, rfl, _, _, _, cc⟩ := r3
  unfold putC at q2
  split at q2
  · obtain ⟨n, j, hn, hj, q2⟩ := q2
    obtain ⟨vs, ea, rv⟩ := cc
    refine ⟨_, set_list, a, vs, n, j, rfl, r2.int hn, ea, by rw [rv.length]; exact hj, ?_⟩
    exact k.nx _ _ G2 _ (R2.write (a := a) (d' := .lst _) e0 e1 ⟨_, upd_same, rv.set j ry⟩) m2 q2
  · obtain ⟨q, hq, hl, q2⟩ := q2
    obtain ⟨ws, ea, rv⟩ := cc
    have ek := r2.key hq
    subst ek
    refine ⟨_, set_dict hu, a, _, rfl, .k ea (by rw [repk_len rv]; exact hl), ?_⟩
    exact k.nx _ _ G2 _ (R2.write (a := a) (d' := .dic _) e0 e1 ⟨_, upd_same, repk_put rv ry⟩) m2 q2
  · exact q2.elim
end
end VT

namespace VT
open PySem PySem.Spec PyProof.Rows L2

/-! ### d.get(k, z) -/
@[simp] def gGet2 (gd gk gz : GE) : GE := fun S Q => gd S fun x => ∃ kvs, x.d = .dic kvs ∧ gk S fun y => gz S fun z => ∃ k, keyD y.d = some k ∧ ((∃ d, valD kvs k = some d ∧ Q (.tr d)) ∨ (valD kvs k = none ∧ Q z))
section
variable {X : Cx} {EX : EXT}
theorem ve_dget2 (hu : X.A.units + 1 < cLine) {o e f : Expr} {gd gk gz : GE} {apos cpos : Pos} (ho : VE X EX o gd) (he : VE X EX e gk) (hf : VE X EX f gz) (m : M2 X o "get" apos e f cpos) : VE X EX (.Call (.Attribute o "get" apos) [e, f] [] cpos) (gGet2 gd gk gz) := by
  refine ⟨fun G0 H0 tk => peMono (pe_dget2 hu (ho.pe G0 H0 tk) (he.pe G0 H0 tk) (hf.pe G0 H0 tk) m) fun σ H Q ⟨G, S, Qs, R, q, kq⟩ => ?_⟩
  refine ⟨G, S, _, R, q, fun x H1 G1 sx E1 r1 q1 => ?_⟩
  obtain ⟨kvs, hx, q1⟩ := q1
  obtain ⟨a, ws, rfl, ea, _⟩ := r1.dic E1.ok hx
  refine ⟨a, rfl, ?_, G1, S, _, R.go E1, q1, fun y H2 G2 sy E2 r2 q2 => ?_⟩
  · exact .inl ⟨ws, .inl ea⟩
  refine ⟨G2, S, _, (R.go E1).go E2, q2, fun z H3 G3 sz E3 r3 q3 => ?_⟩
  obtain ⟨k, hk, q3⟩ := q3
  have r1' := (r1.ext E2).ext E3
  obtain ⟨a', ws', ez, ea', rk⟩ := r1'.dic E3.ok hx
  cases ez
  have ek := (r2.ext E3).key hk
  subst ek
  obtain ⟨h1, h2⟩ := repk_val (k := k) rk
  refine ⟨_, .k ea', ?_⟩
  have kk := kq_back ((E1.trans E2).trans E3) kq
  rcases q3 with ⟨d, hd, q3⟩ | ⟨hn, q3⟩
  · obtain ⟨v, ev, rv⟩ := h1 d hd
    rw [ev]
    exact kq_tr kk E3.ok rv q3
  · rw [h2 hn]
    exact kq z H3 G3 sz ((E1.trans E2).trans E3) (r3.back fun _ h => E1.dom (E2.dom h)) q3
/-- d[k] += n of an own dict of ints -/
@[simp] def gAugD (f : Int → Int → Int) (i : Nat) (gk ge : GE) : GS := fun D S => ∃ kvs0, S[i]? = some (some (.own (.dic kvs0))) ∧ gk S fun y => ∃ k n, keyD y.d = some k ∧ valD kvs0 k = some (.int n) ∧ ge S fun sv => ∃ b, sv.d = .int b ∧ kvs0.length < sizeLine ∧ D.nx (S.set i (some (.own (.dic (putD kvs0 k (.int (f n b)))))))
theorem vs_augD {rd : V → V → Hp → VK → Prop} {fI : Int → Int → Int} {op : Operator} (hu : X.A.units + 1 < cLine) (hop : InOp X op rd) (hrd : ∀ (i j : Int) (H : Hp) (Q : VK), Q (.int (fI i j)) H → rd (.int i) (.int j) H Q) {e ke : Expr} {ge gk : GE} {p tpos pos : Pos} {x : Str} (i : Nat) (hk : VE X EX ke gk) (he : VE X EX e ge)
    (hN : X.N[i]? = some x := by rfl) (hv : Vis X.env.scope x := by first | exact Or.inl rfl | exact Or.inr (Or.inl rfl) | exact Or.inr (Or.inr rfl)) (hd : (x == ("__debug__" : Str)) = false := by decide) (hcd : (x == ("__classdict__" : Str)) = false := by decide)
    (ha : ∀ ov iv new, augStore ke ov iv new = (do holding [new, ov, iv] (setItem ov iv new); release [new, ov, iv] []; pure .next) := by intro _ _ _; rfl) :
    VS X EX (.AugAssign (.Subscript (.Name x p) ke tpos) op e pos) (gAugD fI i gk ge) := by
  refine ⟨fun G0 H0 tk => psMono (ps_daug hu (pe_var hN hv hd hcd) (hk.pe G0 H0 tk) (he.pe G0 H0 tk) hop ha) fun D σ H ⟨G, S, DV, R, q, k⟩ => ?_⟩
  obtain ⟨kvs, e0, q⟩ := q
  obtain ⟨u, e1, r⟩ := R.slot i _ e0
  refine ⟨u, e1, G, S, _, R, q, fun y H1 G1 sy E1 r1 q1 => ?_⟩
  obtain ⟨kk, n, hk, hval, q1⟩ := q1
  have r1' := r.ext E1
  obtain ⟨a, ws, rfl, ea, rv⟩ := r1'.dic E1.ok rfl
  have ek := r1.key hk
  subst ek
  obtain ⟨v, ev, rn⟩ := (repk_val (k := kk) rv).1 _ hval
  have en : v = .int n := rn
  subst en
  refine ⟨a, _, rfl, by rw [← ev]; exact .k ea, G1, S, _, R.go E1, q1, fun y2 H2 G2 s2 E2 r2 q2 => ?_⟩
  obtain ⟨b, hb, hl, q2⟩ := q2
  have eb := r2.int hb
  subst eb
  refine hrd _ _ _ _ ?_
  have R2 := (R.go E1).go E2
  obtain ⟨a', ws2, ea', ea2, rv2⟩ := (r1'.ext E2).dic E2.ok rfl
  cases ea'
  refine ⟨_, .k ea2 (by rw [repk_len rv2]; exact hl), ?_⟩
  exact k.nx _ _ G2 _ (R2.write (a := a) (d' := .dic _) e0 e1 ⟨_, upd_same, repk_put (y := .int (fI n b)) rv2 rfl⟩) (fun b o h => E2.frz b o (E1.frz b o h)) q2
theorem rd_add (i j : Int) (H : Hp) (Q : VK) (q : Q (.int (i + j)) H) : rAdd (.int i) (.int j) H Q := ⟨i, j, rfl, rfl, q⟩
theorem rd_sub (i j : Int) (H : Hp) (Q : VK) (q : Q (.int (i - j)) H) : rSub (.int i) (.int j) H Q := ⟨i, j, rfl, rfl, q⟩
end
end VT

namespace VT
open PySem PySem.Spec PyProof.Rows L2

/-! ### C(e, .., k = v, ..) -/
theorem arr_up {α : Type} (a : α) (l : List α) : ∀ ix : List Nat, arr (ix.map (· + 1)) (a :: l) = arr ix l
  | [] => rfl
  | i :: ix => by
    have ih := arr_up a l ix
    unfold arr at ih ⊢
    rw [List.map_cons, List.filterMap_cons, List.filterMap_cons, List.getElem?_cons_succ, ih]
theorem arr_zero {α : Type} (a : α) (l : List α) (ix : List Nat) : arr (0 :: ix.map (· + 1)) (a :: l) = a :: arr ix l := by
  have ih := arr_up a l ix
  unfold arr at ih ⊢
  rw [List.filterMap_cons, List.getElem?_cons_zero, ih]
section
variable {X : Cx} {EX : EXT} {k n : Nat} {f C : Addr} {fd : FuncData} {ps ks : List Str} {F : FSp} {dd : List D} {dvs : List V} {x : Str} {p pos : Pos} {e : Expr} {es : List Expr} {ga gk : GA} {kws : List Keyword} {ix : List Nat}
theorem makeK_end {m : Nat} {G0 : Gh} {H0 : Hp} {σ : L2.St} {H : Hp} {Q : VK} (hw : Wrts dd dvs) (tk : Lk X EX G0 H0) (E : XK) (h : TV G0 H0 (gCallK F n m ix dd ga gk) σ H Q) :
    tMakeK C n m (spInit X.K C F) (fun vs zs => arr (0 :: ix.map (· + 1)) (vs ++ zs ++ dvs)) E (TAV G0 H0 ga) (TAV G0 H0 gk) σ H Q := by
  obtain ⟨G, S, Qs, R, q, kq⟩ := h
  refine ⟨G, S, _, R, q, fun vs H1 G1 svs E1 r1 q1 => ?_⟩
  refine ⟨G1, S, _, R.go E1, q1, fun zs H2 G2 szs E2 r2 q2 => ?_⟩
  obtain ⟨l1, l2, q2⟩ := q2
  refine ⟨r1.length.trans l1, r2.length.trans l2, fun xa dx hx hdx hne => ?_⟩
  obtain ⟨a1, a2⟩ := (r1.ext E2).toArg
  obtain ⟨b1, b2⟩ := r2.toArg
  have dt : ∀ sv ∈ dd.map SV.tr, sv.isArg := fun sv h => by obtain ⟨d, _, rfl⟩ := List.mem_map.mp h; trivial
  have ab : ∀ sv ∈ svs.map SV.arg ++ szs.map SV.arg, sv.isArg := fun sv h => (List.mem_append.mp h).elim (a2 sv) (b2 sv)
  obtain ⟨c1, c2⟩ := (((a1.append b1 a2).append hw.repl ab).arr (fun sv h => (List.mem_append.mp h).elim (ab sv) (dt sv)) ix)
  refine ⟨G2, H2, xa, dx, _, _, Qs, rfl, hx, hdx, hne, ⟨E2.ok, E2.tt.trans (tk.tt R E1)⟩, arr_zero _ _ _, c1, c2, q2, fun H' G' fs E' r' q' => ⟨rfl, ?_⟩⟩
  obtain ⟨G3, E3, _, r3⟩ := obj_freeze E' r'
  exact kq _ H' G3 (.tr (.ins C (frzF fs))) ((E1.trans E2).trans E3) r3 q'
theorem ve_makeK (M : Mk X.K C f) (Fn : FnOk X.prog X.w X.K X.mg X.base CX0 k f fd ps (spInit X.K C F)) (hr : Room (k + 1) X.A) (hg : Gl X x) (hm : X.mg x = some (.ref C)) (hb : KBi X.K fd ps (n + 1) ks (0 :: ix.map (· + 1)) dvs) (hw : Wrts dd dvs)
    (ha : VA X EX (e :: es) ga) (hkw : VKw X EX kws gk) (hall : (backToKw pos (keywordEach kws X.env)).all (·.1.isSome) = true := by rfl) (hks : (backToKw pos (keywordEach kws X.env)).filterMap (·.1) = ks := by rfl)
    (hdb : (x == ("__debug__" : Str)) = false := by decide) (he : starEach (e :: es) X.env = (false, eval e X.env) :: starEach es X.env := by rfl)
    (hpl : ((backTo pos (starEach (e :: es) X.env)).any (·.1) || (backToKw pos (keywordEach kws X.env)).any (·.1.isNone)) = false := by rfl) :
    VE X EX (.Call (.Name x p) (e :: es) kws pos) (gCallK F n ks.length ix dd ga gk) := by
  obtain ⟨ds, rd, hto⟩ := hb.to
  exact ⟨fun G0 H0 tk => peMono (pe_makeK M Fn hr hg hm (g := fun us ws => arr (0 :: ix.map (· + 1)) (us ++ ws ++ ds)) (gV := fun vs zs => arr (0 :: ix.map (· + 1)) (vs ++ zs ++ dvs)) ⟨hto, fun r1 r2 => vals_arr _ ((r1.append r2).append rd)⟩ pass0 (ha.pa G0 H0 tk) (hkw.pk G0 H0 tk) hall hks hdb he hpl) fun σ H Q h => makeK_end hw tk E0 h⟩
end
end VT

namespace VT
open PySem PySem.Spec PyProof.Rows L2

/-! ### {k: v for tg in it if t} -/
def DcW (gg : GG) (gt : GT) (gk ge : GE) (vs : List Nat) (S : S) (Q : SV → Prop) (ds : List D) : Prop := ∃ W : List D → List (Key × D) → Prop, W ds [] ∧ (∀ acc, W [] acc → Q (.own (.dic acc))) ∧
  ∀ d r acc, W (d :: r) acc → gg d (wipeS S vs) fun S2 => gt S2 fun b => if b = true then gk S2 fun sk => ∃ k, keyD sk.d = some k ∧ ge S2 fun sv => ∃ y, sv = .tr y ∧ acc.length < sizeLine ∧ W r (putD acc k y) else W r acc
def gDc (gi : GI) (gg : GG) (gt : GT) (gk ge : GE) (vs : List Nat) : GE := fun S Q => gi S (DcW gg gt gk ge vs S Q)
@[simp] theorem gDc_eq (gi : GI) (gg : GG) (gt : GT) (gk ge : GE) (vs : List Nat) (S : S) (Q : SV → Prop) : gDc gi gg gt gk ge vs S Q = gi S (DcW gg gt gk ge vs S Q) := rfl
theorem gDc_t {gi : GI} {gg : GG} {gt : GT} {gk ge : GE} {vs : List Nat} {G0 : Gh} {H0 : Hp} {σ : L2.St} {H : Hp} {Q : VK} (h : TV G0 H0 (gDc gi gg gt gk ge vs) σ H Q) : tDc (TIV true G0 H0 gi) (TGV G0 H0 vs gg) (TTV G0 H0 gt) (TV G0 H0 gk) (TV G0 H0 ge) vs σ H Q := by
  obtain ⟨G, S, Qs, R, q, k⟩ := h
  refine ⟨G, S, _, R, q, fun J H1 G1 ds E1 Y q1 => ?_⟩
  obtain ⟨W, w0, wd, ws⟩ := q1
  intro D hD
  have R1 := R.go E1
  refine ⟨fun i m H2 => ∃ G2 acc vsD, Ext G1 H1 G2 H2 ∧ H2 D = some (.dK vsD) ∧ G2.F D = none ∧ G2.pb ≠ some D ∧ repk G2.F acc vsD ∧ W (ds.drop i) acc ∧ m = ds.length - i ∧ i ≤ ds.length, ⟨ds.length, G1, [], [], ext_new E1.ok hD _, upd_same, E1.ok.nF hD, E1.ok.npb hD, rfl, w0, by simp, Nat.zero_le _⟩, ?_⟩
  rintro i m H2 ⟨G2, acc, vsD, E2, e2, f2, b2, ra, w, rfl, hi⟩
  by_cases hlt : i < ds.length
  · obtain ⟨y1, y2⟩ := Y G2 H2 E2
    have hd : ds[i]? = some ds[i] := List.getElem?_eq_getElem hlt
    obtain ⟨go, yl⟩ := y2 i _ hd
    rw [List.drop_eq_getElem_cons hlt] at w
    refine .inr ⟨go, fun H' => ∃ m', m' < ds.length - i ∧ ∃ G2 acc vsD, Ext G1 H1 G2 H' ∧ H' D = some (.dK vsD) ∧ G2.F D = none ∧ G2.pb ≠ some D ∧ repk G2.F acc vsD ∧ W (ds.drop (i + 1)) acc ∧ m' = ds.length - (i + 1) ∧ i + 1 ≤ ds.length, fun H' z => z, fun x H3 yx => ?_⟩
    obtain ⟨G3, E3, rx⟩ := yl x H3 yx
    refine ⟨G3, wipeS S vs, ds[i], _, ((R1.go E2).go E3).wipe vs, rx, ws _ _ _ w, fun σ2 S2 R2 off q2 => ⟨off.wiped, ?_⟩⟩
    refine ⟨G3, S2, _, R2, q2, fun b H4 G4 E4 q4 => ?_⟩
    have ne2 : H2 D ≠ none := by rw [e2]; simp
    have E24 := E3.trans E4
    have e4 : H4 D = some (.dK vsD) := E24.same _ _ e2 b2 nofun
    cases b with
    | false =>
      rw [if_neg Bool.false_ne_true] at q4
      refine iteF ?_
      exact ⟨_, by omega, G4, acc, vsD, E2.trans E24, e4, E24.nF f2 ne2, E24.npb b2 ne2, repk.mono E24.frz _ _ ra, q4, rfl, by omega⟩
    | true =>
      rw [if_pos rfl] at q4
      refine iteT ?_
      refine ⟨G4, S2, _, R2.go E4, q4, fun y H5 G5 sk E5 r5 q5 => ?_⟩
      obtain ⟨kk, hk, q5⟩ := q5
      have ek := r5.key hk
      subst ek
      refine ⟨G5, S2, _, (R2.go E4).go E5, q5, fun z H6 G6 sv E6 r6 q6 => ?_⟩
      obtain ⟨y, rfl, hz, q6⟩ := q6
      have E26 := (E24.trans E5).trans E6
      have e6 : H6 D = some (.dK vsD) := E26.same _ _ e2 b2 nofun
      have rz := repk.mono E26.frz _ _ ra
      refine ⟨vsD, kk, rfl, e6, by rw [repk_len rz]; exact hz, _, by omega, G6, putD acc kk y, putK vsD kk z, ext_write (E2.trans E26) hD (E26.nF f2 ne2) (E26.npb b2 ne2) _ (.dK e6), upd_same, E26.nF f2 ne2, E26.npb b2 ne2, repk_put rz r6, q6, rfl, by omega⟩
  · have e : i = ds.length := by omega
    subst e
    rw [List.drop_length] at w
    obtain ⟨y1, _⟩ := Y G2 H2 E2
    exact .inl ⟨y1 _ (Nat.le_refl _), k _ _ G2 (.own (.dic acc)) (E1.trans E2) ⟨D, rfl, E1.dom hD, f2, b2, vsD, e2, ra⟩ (wd _ w)⟩
section
variable {X : Cx} {EX : EXT}
theorem ve_dc {kx vx tg iter : Expr} {ifs : List Expr} {scope : Scope} {own : List (Str × Nat)} {pos : Pos} {gi : GI} {gg : GG} {gt : GT} {gk ge : GE} (hc : X.calm = true) (hN : X.N.Nodup) (hi : VI true X EX tg iter gi) (ok : BlkOk X.N X.env.scope scope own)
    (hg : ∀ (s : Shared) (H : Hp) (C : Addr) (cl : List (Str × Addr)) (fp : List Addr), VG (X.blk s H scope (compEnvC scope cl C X.env) fp) tg (own.map (·.2)) gg) (ht : ∀ (s : Shared) (H : Hp) (C : Addr) (cl : List (Str × Addr)) (fp : List Addr), VCs (X.blk s H scope (compEnvC scope cl C X.env) fp) EX.off ifs gt)
    (hk : ∀ (s : Shared) (H : Hp) (C : Addr) (cl : List (Str × Addr)) (fp : List Addr), VE (X.blk s H scope (compEnvC scope cl C X.env) fp) EX.off kx gk)
    (he : ∀ (s : Shared) (H : Hp) (C : Addr) (cl : List (Str × Addr)) (fp : List Addr), VE (X.blk s H scope (compEnvC scope cl C X.env) fp) EX.off vx ge) (hs : ∀ x, foldedSetIterable iter X.env x = pure x := by intro _; rfl) :
    VE X EX (.DictComp kx vx [⟨tg, iter, ifs, 0⟩] scope pos) (gDc gi gg gt gk ge (own.map (·.2))) :=
  ⟨fun G0 H0 tk => peMono (pe_dc hc hN (hi.pi G0 H0 tk) ok (fun s H C cl fp => (hg s H C cl fp).pg G0 H0) (fun s H C cl fp => (ht s H C cl fp).pts G0 H0 (tk.blk rfl)) (fun s H C cl fp => (hk s H C cl fp).pe G0 H0 (tk.blk rfl)) (fun s H C cl fp => (he s H C cl fp).pe G0 H0 (tk.blk rfl)) hs) fun σ H Q h => gDc_t h⟩
end
end VT

namespace VT
open PySem PySem.Spec PyProof.Rows L2

/-! ### a look at the fragment behind the top, whatever is looked at -/
def hookV {β : Type} (n : Nat) (o : PySem.W.Frag → β) (v : β) : PySem.W.Hook where
  α := β
  obs := fun s => o (He.frG s.heap.get? (He.asD s.heap.get? n))
  val := fun _ => v
  says := fun _ h => ∃ K : PySem.W.Frag, K.In h ∧ o K = v
  of := fun _ _ e => ⟨_, He.frG_in, e⟩
  keeps := fun _ _ _ ⟨K, hK, c⟩ k => ⟨K, PySem.W.Frag.In.keeps hK k, c⟩
/-- .. over the tree's heap -/
theorem hookV_eq {β : Type} {n : Nat} {o : PySem.W.Frag → β} {v : β} {g : Addr → Option Obj} {s : Shared} (h : ∀ a, g a = s.heap.get? a) : o (He.frG g (He.asD g n)) = (hookV n o v).obs s := by
  have e : g = s.heap.get? := funext h
  rw [e]
  rfl
/-! ### properties -/
/-- the getter behind a property object -/
def prG (K : PySem.W.Frag) (p : Addr) : Addr := match PySem.W.recIn K p "property" with
  | some (.ref g :: _) => g
  | _ => 0
def prHas (K : PySem.W.Frag) (p : Addr) : Bool := match PySem.W.recIn K p "property" with
  | some (.ref _ :: _) => true
  | _ => false
def prB (K : PySem.W.Frag) (C : Addr) (m : Str) : Bool := decide (PySem.W.findIn K (.ref C) m = some (some (.ref (He.ma K C m)))) && (decide (PySem.W.specialIn K (.ref (He.ma K C m)) "__get__" = some (some (.builtin "property.__get__"))) &&
  (decide (PySem.W.takesIn K (.ref (He.ma K C m)) = some true) && prHas K (He.ma K C m)))
theorem prB_ok {K : PySem.W.Frag} {C : Addr} {m : Str} (h : prB K C m = true) : PropOf K C m (He.ma K C m) (prG K (He.ma K C m)) := by
  unfold prB at h
  rw [Bool.and_eq_true, Bool.and_eq_true, Bool.and_eq_true] at h
  obtain ⟨h1, h2, h3, h4⟩ := h
  refine ⟨of_decide_eq_true h1, of_decide_eq_true h2, of_decide_eq_true h3, ?_⟩
  unfold prHas at h4
  unfold prG
  split at h4
  · rename_i g rest e
    rw [e]
    exact ⟨rest, rfl⟩
  · cases h4
end VT

namespace VT
open PySem PySem.Spec PyProof.Rows L2

/-! ### a def at any address -/
def fnA (K : PySem.W.Frag) (a : Addr) : He.FnW := match K.lookup a with
  | some ⟨_, _, .func fd, _⟩ => some (fd.name, fd.qualname, fd.params, fd.body, fd.scope, fd.globals, fd.closure, fd.builtins)
  | _ => none
def okA (K : PySem.W.Frag) (d : He.DefD) (a : Addr) : Bool := PySem.W.keepIn K (.ref a) && (match K.lookup a with
  | some ⟨_, _, .func fd, _⟩ => PySem.W.codeIn K fd.code d.qual && (He.dflB K fd.defaults (d.dvs K) && He.kwdB K fd.kwdefaults (d.kws K))
  | _ => false)
theorem funA {K : PySem.W.Frag} {d : He.DefD} {a : Addr} (e : fnA K a = d.val) (c : okA K d a = true) : ∃ fd, FunD K d.name d.qual d.params d.body d.scope (d.dvs K) (d.kws K) a fd := by
  unfold okA at c
  rw [Bool.and_eq_true] at c
  obtain ⟨kp, c2⟩ := c
  unfold fnA at e
  cases q : K.lookup a with
  | none => rw [q] at c2; cases c2
  | some ob =>
    obtain ⟨oc, od, dt, osl⟩ := ob
    rw [q] at c2 e
    cases dt with
    | func fd =>
      obtain ⟨m1, m2, m3, m4, m5, m6, m7, m8, m9, m10, m11, m12, m13, m14, m15⟩ := fd
      have e2 : (some (m1, m2, m3, m4, m5, m6, m7, m15) : He.FnW) = some (d.name, d.qual, d.params, .stmts d.body, d.scope, mainGlobals, [], builtinsNs) := e
      simp only [Option.some.injEq, Prod.mk.injEq] at e2
      obtain ⟨rfl, rfl, rfl, rfl, rfl, rfl, rfl, rfl⟩ := e2
      have c3 : (PySem.W.codeIn K m13 d.qual && (He.dflB K m8 (d.dvs K) && He.kwdB K m9 (d.kws K))) = true := c2
      rw [Bool.and_eq_true, Bool.and_eq_true] at c3
      obtain ⟨k1, k3, k4⟩ := c3
      exact ⟨_, ⟨oc, od, m8, m9, m10, m11, m12, m13, m14, osl, rfl, q, k1, He.dflB_ok k3, He.kwdB_ok k4⟩, kp⟩
    | _ => cases c2
end VT

namespace VT
open PySem PySem.Spec PyProof.Rows L2

/-! ### defs, whatever they close over; how calls bind -/
structure FG (K : PySem.W.Frag) (x qual : Str) (params : Arguments) (body : List Stmt) (scope : Scope) (cl : List (Str × Addr)) (dvs : List V) (kws : List (Str × V)) (f : Addr) (fd : FuncData) : Prop where
  ex : ∃ (osl : Array (Option Value)) (od an : Option Addr) (oc dV kV doc pm cdv ct : Value),
    fd = PySem.W.fnX x qual params body scope cl dV kV doc pm an cdv ct ∧ K.lookup f = some ⟨oc, od, .func fd, osl⟩ ∧ PySem.W.codeIn K cdv qual = true ∧ DflV K dV dvs ∧ KwdV K kV kws
  kp : PySem.W.keepIn K (.ref f) = true
section
variable {K : PySem.W.Frag} {x qual : Str} {params : Arguments} {body : List Stmt} {scope : Scope} {cl : List (Str × Addr)} {dvs : List V} {kws : List (Str × V)} {f : Addr} {fd : FuncData} {ps ks : List Str} {n : Nat} {ix : List Nat}
theorem FG.of (F : FunD K x qual params body scope dvs kws f fd) : FG K x qual params body scope [] dvs kws f fd := by
  obtain ⟨⟨oc, od, dV, kV, doc, pm, an, cdv, ct, osl, e1, e2, e3, e4, e5⟩, kp⟩ := F
  exact ⟨⟨osl, od, an, oc, dV, kV, doc, pm, cdv, ct, e1, e2, e3, e4, e5⟩, kp⟩
/-- no default is needed -/
theorem FG.kbA (F : FG K x qual params body scope cl [] kws f fd)
    (h : ∀ (kV doc pm cdv ct : Value) (an : Option Addr) (us ws : List Value), us.length = n → ws.length = ks.length → bindArgs (PySem.W.fnX x qual params body scope cl .none kV doc pm an cdv ct) ⟨us, ks.zip ws⟩ = pure (ps.zip (arr ix (us ++ ws)))) : KBi K fd ps n ks ix [] := by
  obtain ⟨osl, od, an, oc, dV, kV, doc, pm, cdv, ct, rfl, lk, hcd, hD, hK⟩ := F.ex
  rcases hD with ⟨_, rfl⟩ | ⟨e, _⟩
  · exact ⟨[], .nil, fun s us ws _ h1 h2 => by rw [List.append_nil]; exact .of_eq (h kV doc pm cdv ct an us ws h1 h2)⟩
  · exact absurd rfl e
/-- the keyword-only parameters ms lack -/
theorem FG.kbD (ms : List (Str × V)) (F : FG K x qual params body scope cl [] kws f fd) (hk : kws ≠ []) (hms : ∀ q ∈ ms, q ∈ kws)
    (h : ∀ (D : Addr) (doc pm cdv ct : Value) (an : Option Addr) (us ws mv : List Value), us.length = n → ws.length = ks.length → mv.length = ms.length →
      KwChain D ((ms.map (·.1)).zip mv) (bindArgs (PySem.W.fnX x qual params body scope cl .none (.ref D) doc pm an cdv ct) ⟨us, ks.zip ws⟩) (ps.zip (arr ix (us ++ ws ++ mv)))) : KBi K fd ps n ks ix (ms.map (·.2)) := by
  obtain ⟨osl, od, an, oc, dV, kV, doc, pm, cdv, ct, rfl, lk, hcd, hD, hK⟩ := F.ex
  rcases hD with ⟨_, rfl⟩ | ⟨e, _⟩
  · rcases hK with e | ⟨D, rfl, hq⟩
    · exact absurd e hk
    · obtain ⟨mv, hl, rk, hks⟩ := kwd_vals (ms := ms) fun q hm => hq q (hms q hm)
      exact ⟨mv, rk, fun s us ws X l1 l2 => BindsTo.of_looks fun M => KwChain.looks X hks (h D doc pm cdv ct an us ws mv l1 l2 hl)⟩
  · exact absurd rfl e
/-- positional defaults from the j-th on, and ms -/
theorem FG.kbT (j : Nat) (ms : List (Str × V)) (F : FG K x qual params body scope cl dvs kws f fd) (hd : dvs ≠ []) (hms : ∀ q ∈ ms, q ∈ kws)
    (h : ∀ (T D : Addr) (kV doc pm cdv ct : Value) (an : Option Addr) (us ws its mv : List Value), us.length = n → ws.length = ks.length → its.length = dvs.length → mv.length = ms.length → (ms ≠ [] → kV = .ref D) →
      ∃ k, bindArgs (PySem.W.fnX x qual params body scope cl (.ref T) kV doc pm an cdv ct) ⟨us, ks.zip ws⟩ = seqItems? (.ref T) >>= k ∧ KwChain D ((ms.map (·.1)).zip mv) (k (some its.toArray)) (ps.zip (arr ix (us ++ ws ++ (its.drop j ++ mv))))) : KBi K fd ps n ks ix (dvs.drop j ++ ms.map (·.2)) := by
  obtain ⟨osl, od, an, oc, dV, kV, doc, pm, cdv, ct, rfl, lk, hcd, hD, hK⟩ := F.ex
  rcases hD with ⟨e, _⟩ | ⟨_, T, o, its, m, rfl, lT, oT, rT⟩
  · exact absurd e hd
  · by_cases hm : ms = []
    · subst hm
      refine ⟨its.drop j ++ [], (rT.drop j).append .nil, fun s us ws X l1 l2 => ?_⟩
      obtain ⟨k, e1, e2⟩ := h T 0 kV doc pm cdv ct an us ws its [] l1 l2 rT.length.symm rfl fun z => absurd rfl z
      refine BindsTo.of_looks fun M => ?_
      rw [e1]
      exact looks_items X lT oT (KwChain.looks X (by intro q z; cases z) e2)
    · rcases hK with e | ⟨D, rfl, hq⟩
      · exact (hm (List.eq_nil_iff_forall_not_mem.mpr fun q hq => by have := hms q hq; rw [e] at this; cases this)).elim
      · obtain ⟨mv, hl, rk, hks⟩ := kwd_vals (ms := ms) fun q hm => hq q (hms q hm)
        refine ⟨its.drop j ++ mv, (rT.drop j).append rk, fun s us ws X l1 l2 => ?_⟩
        obtain ⟨k, e1, e2⟩ := h T D (.ref D) doc pm cdv ct an us ws its mv l1 l2 rT.length.symm hl fun _ => rfl
        refine BindsTo.of_looks fun M => ?_
        rw [e1]
        exact looks_items X lT oT (KwChain.looks X hks e2)
end

/-! ### promises of defs that may raise -/
abbrev FXp := List SV → (SV → Prop) → XP → Prop
@[simp] def lift (F : FSp) : FXp := fun svs Q _ => F svs Q
def spX (K : PySem.W.Frag) (F : FXp) : Sp := fun vs H Q E => ∃ G svs Qs Qx, (OkG G H ∧ G.T = TabsOf K) ∧ RepL H H G H vs svs ∧ (∀ sv ∈ svs, sv.isArg) ∧ F svs Qs Qx ∧
  (∀ v H' G' sv, Ext G H G' H' → RepV H H G' H' v sv → sv.isRet → Qs sv → Q v H') ∧ ∀ cls d H', XOf G H Qx cls d H' → E cls d H'
structure FnX (P : Program) (w : World) (K : PySem.W.Frag) (mg : Str → Option Value) (base : Heap) (d : He.DefD) (f : Addr) (k : Nat) (ps : List Str) (F : FXp) : Prop where
  ex : ∃ fd cl, FG K d.name d.qual d.params d.body d.scope cl (d.dvs K) (d.kws K) f fd ∧ FnOk P w K mg base (L2.CX P w) k f fd ps (spX K F)
section
variable {P : Program} {w : World} {K : PySem.W.Frag} {mg : Str → Option Value} {base : Heap} {d : He.DefD} {f : Addr} {j k : Nat} {N ps : List Str} {F F' : FXp} {g : EXT → GS}
theorem FnX.mono (h : FnX P w K mg base d f j ps F) (hj : j ≤ k) : FnX P w K mg base d f k ps F := by
  obtain ⟨fd, cl, hf, hk⟩ := h
  exact ⟨fd, cl, hf, hk.mono hj⟩
theorem FnX.imp (h : FnX P w K mg base d f k ps F) (hF : ∀ svs Q Qx, F' svs Q Qx → F svs Q Qx) : FnX P w K mg base d f k ps F' := by
  obtain ⟨fd, cl, hf, hk⟩ := h
  exact ⟨fd, cl, hf, hk.imp fun vs H Q E ⟨G, svs, Qs, Qx, ok, r, ha, q, z⟩ => ⟨G, svs, Qs, Qx, ok, r, ha, hF _ _ _ q, z⟩⟩
theorem FnV.x {F : FSp} (h : FnV P w K mg base d k ps F) : FnX P w K mg base d (He.fAd K d.at_) k ps (lift F) := by
  obtain ⟨⟨fd, hf, hk⟩, hm⟩ := h
  refine ⟨fd, [], .of hf, ⟨fun vs H Q E ⟨G, svs, Qs, Qx, ok, r, ha, q, z, _⟩ => hk.len vs H Q E ⟨G, svs, Qs, ok, r, ha, q, z⟩, fun A outer s H args us vs Q E hr e0 hb rv ⟨G, svs, Qs, Qx, ok, r, ha, q, z, _⟩ => ?_⟩⟩
  refine codeAny_mono (hk.run A outer s H args us vs Q E hr e0 hb rv ⟨G, svs, Qs, ok, r, ha, q, z⟩) fun r s' hq => ?_
  cases r with
  | error e => exact False.elim hq
  | ok fl =>
    cases fl with
    | ret u => exact hq
    | next => exact hq
    | brk => exact hq
    | cont => exact hq
theorem fnx_ok (hf : ∃ fd, FunD K d.name d.qual d.params d.body d.scope (d.dvs K) (d.kws K) f fd) (Sc : FnScope N ps d.scope)
    (hbody : ∀ (EX : EXT) (cdv : Value) (A : Around) (outer : List Env) (s : Shared) (H : Hp) (E : XK), Room k (A.deeper (envOfC d.qual d.scope s.heap.objs.size f cdv)) → VSs (cxOf (L2.CX P w) P w K mg base N d.qual d.scope f cdv A outer s H E) EX d.body (g EX))
    (len : ∀ svs Qs Qx, F svs Qs Qx → svs.length = ps.length) (spec : ∀ svs Qs Qx, F svs Qs Qx → g ⟨fun C fs _ => Qx C fs, TL0⟩ { nx := fun _ => Qs (.tr .non), rt := Qs } (startS N svs)) : FnX P w K mg base d f (k + 1) ps F := by
  obtain ⟨fd, hf⟩ := hf
  refine ⟨fd, [], .of hf, hf.ok Sc (fun vs H Q E ⟨G, svs, Qs, Qx, ok, r, ha, h, z⟩ => r.length.trans (len _ _ _ h)) (fun cdv A outer s H vs Q E hr h => ?_)⟩
  obtain ⟨G, svs, Qs, Qx, ok, r, ha, h, z, zx⟩ := h
  have tk : Lk (cxOf (L2.CX P w) P w K mg base N d.qual d.scope f cdv A outer s H E) ⟨fun C fs _ => Qx C fs, TL0⟩ G H :=
    ⟨(takes_of rfl rfl rfl rfl).imp fun cls d σ H' ⟨G', S, C, dx, fs, ws, e1, e2, R, e3, e4, q⟩ => zx _ _ _ ⟨C, dx, fs, ws, G', e1, e2, R.ext, e3, e4, q⟩, ok.2, thk0⟩
  refine ⟨TSV G H (g _), (hbody _ cdv A outer s H E hr).pss _ _ tk, ?_⟩
  refine ⟨_, startS N svs, _, Rel.start ok.1 r ha, spec svs Qs Qx h, fun σ' H' G' S' R' _ q => ?_, fun v H' G' sv E' r' ir q => z v H' G' sv E' r' ir q, fun σ' H' G' S' R' _ q => q.elim, fun σ' H' G' S' R' _ q => q.elim⟩
  exact z .non H' G' (.tr .non) R'.ext rfl trivial q
end

/-! ### a call, at what it is told -/
section
variable {X : Cx} {EX : EXT} {G0 G : Gh} {H0 H : Hp} {pins : List (Addr × Obj)} {σ : L2.St} {S : S} {s : Shared} {k n : Nat} {f C : Addr} {fd : FuncData} {ps ks : List Str} {F : FXp} {vs zs : List V} {us ws : List Value} {svs : List SV} {Qs : SV → Prop} {Qx : XP} {Q : VK} {ix : List Nat}
theorem xof_take (tk : Lk X EX G0 H0) (R : Rel G0 H0 G H σ S) (kx : ∀ C fs, Qx C fs → EX C fs S) (cls : Value) (d : Option Addr) (H' : Hp) (h : XOf G H Qx cls d H') : WV EX G0 H0 cls d σ H' := by
  obtain ⟨C, dx, fs, ws, G', e1, e2, E', e3, e4, q⟩ := h
  exact ⟨G', S, C, dx, fs, ws, e1, e2, R.go E', e3, e4, kx C fs q⟩
theorem run_cx {args : Args} (Fn : FnOk X.prog X.w X.K X.mg X.base (L2.CX X.prog X.w) k f fd ps (spX X.K F)) (hr : Room k X.A) (tk : Lk X EX G0 H0) (I : Inv X pins σ H s) (R : Rel G0 H0 G H σ S) (rl : RepL H H G H vs svs) (ha : ∀ sv ∈ svs, sv.isArg) (hF : F svs Qs Qx)
    (hb : BindsTo s fd args (ps.zip us)) (rv : Vals vs us) (kq : ∀ v H' G' sv, Ext G H G' H' → RepV H H G' H' v sv → sv.isRet → Qs sv → Q v H') (kx : ∀ C fs, Qx C fs → EX C fs S) :
    codeAny (model X.prog X.w) X.A (.call (.ref f) args) (fun r s' => match r with | .ok (.ret u) => EP X pins σ Q u s' | .ok _ => False | .error e => X.xe e s') s := by
  refine codeAny_mono (Fn.run X.A X.stack s H args us vs Q (XOf G H Qx) hr I.env0 hb rv ⟨G, svs, Qs, Qx, ⟨R.ok, tk.tt R (.refl R.ok)⟩, rl, ha, hF, kq, fun _ _ _ z => z⟩) fun r s' hq => ?_
  cases r with
  | error e => exact tk.takes e s' (XE.of_call I (xof_take tk R kx) hq)
  | ok fl =>
    cases fl with
    | ret u => exact I.after hq
    | next => exact False.elim hq
    | brk => exact False.elim hq
    | cont => exact False.elim hq
theorem call_of_code {fv : Value} {pos : List Value} {kw : List (Str × Value)} (h : codeAny (model X.prog X.w) X.A (.call fv ⟨pos, kw⟩) (fun r s' => match r with | .ok (.ret u) => EP X pins σ Q u s' | .ok _ => False | .error e => X.xe e s') s) : wpAny (model X.prog X.w) X.A (call fv pos kw) (EP X pins σ Q) X.xe s := by
  refine wpAny_call (codeAny_mono h fun r s' hq => ?_)
  cases r with
  | error e => exact hq
  | ok fl =>
    cases fl with
    | ret u => exact hq
    | next => exact False.elim hq
    | brk => exact False.elim hq
    | cont => exact False.elim hq
end
end VT

namespace VT
open PySem PySem.Spec PyProof.Rows L2

/-! ### arguments, positional and by keywords, then the call -/
/-- what the reader of a value that is called needs -/
def Keeps (X : Cx) (fv : Value) (P : Heap → Prop) : Prop := ∀ h, P h → ∃ k, (k = Keeper.frame ∨ k = Keeper.machine ∨ k = Keeper.boundFrame) ∧ PySem.W.Looks (model X.prog X.w) h (keeperOf fv) k
theorem keepsK {X : Cx} {fv : Value} (h : PySem.W.keepIn X.K fv = true) : Keeps X fv X.K.In := fun _ k => PySem.W.keeps_K h _ k
section
variable {X : Cx} {EX : EXT} {G0 G : Gh} {H0 H : Hp} {pins : List (Addr × Obj)} {σ : L2.St} {S : S} {s : Shared} {e : Expr} {es : List Expr} {kws : List Keyword} {ga gk : GA} {fv : Value} {first : List Value} {P : Heap → Prop} {pos : Pos} {ks : List Str} {Z : List SV → List SV → Prop} {Qv : Value → Shared → Prop}
theorem args_run (hP : Keeps X fv P) (ha : VA X EX (e :: es) ga) (hkw : VKw X EX kws gk) (hall : (backToKw pos (keywordEach kws X.env)).all (·.1.isSome) = true) (hks : (backToKw pos (keywordEach kws X.env)).filterMap (·.1) = ks)
    (he : starEach (e :: es) X.env = (false, eval e X.env) :: starEach es X.env) (hpl : ((backTo pos (starEach (e :: es) X.env)).any (·.1) || (backToKw pos (keywordEach kws X.env)).any (·.1.isNone)) = false)
    (tk : Lk X EX G0 H0) (I : Inv X pins σ H s) (R : Rel G0 H0 G H σ S) (q : ga S fun svs => gk S fun kvs => Z svs kvs)
    (hc : ∀ (us ws : List Value) (vs zs : List V) (svs kvs : List SV) (G1 G2 : Gh) (H1 H2 : Hp) (s2 : Shared), Ext G H G1 H1 → RepL H0 H G1 H1 vs svs → Ext G1 H1 G2 H2 → RepL H0 H1 G2 H2 zs kvs → Z svs kvs → Inv X pins σ H2 s2 → Vals vs us → Vals zs ws →
      P s2.heap ∧ wpAny (model X.prog X.w) X.A (call fv (first ++ us) (ks.zip ws)) Qv X.xe s2) :
    wpAny (model X.prog X.w) X.A (callWith pos fv first (backTo pos (starEach (e :: es) X.env)) (backToKw pos (keywordEach kws X.env))) Qv X.xe s := by
  refine PySem.W.callWith_of hpl hP (evalArgs_kw2 hall ?_ he)
  refine thn ((ha.pa G0 H0 tk).run pos pins s σ H (fun vs H1 => ∃ G1 svs, Ext G H G1 H1 ∧ RepL H0 H G1 H1 vs svs ∧ gk S fun kvs => Z svs kvs) I ⟨G, S, _, R, q, fun vs H1 G1 svs E1 r1 q1 => ⟨G1, svs, E1, r1, q1⟩⟩) fun us s1 ⟨vs, H1, I1, rv, G1, svs, E1, r1, q1⟩ => ?_
  refine thn ((hkw.pk G0 H0 tk).run pos pins s1 σ H1 (fun zs H2 => ∃ G2 kvs, Ext G1 H1 G2 H2 ∧ RepL H0 H1 G2 H2 zs kvs ∧ Z svs kvs) I1 ⟨G1, S, _, R.go E1, q1, fun zs H2 G2 kvs E2 r2 q2 => ⟨G2, kvs, E2, r2, q2⟩⟩) fun ws s2 ⟨zs, H2, I2, rz, G2, kvs, E2, r2, q2⟩ => ?_
  have z := hc us ws vs zs svs kvs G1 G2 H1 H2 s2 E1 r1 E2 r2 q2 I2 rv rz
  refine ⟨z.1, ?_⟩
  rw [hks]
  exact z.2
theorem args_run0 (hP : Keeps X fv P) (hkw : VKw X EX kws gk) (hall : (backToKw pos (keywordEach kws X.env)).all (·.1.isSome) = true) (hks : (backToKw pos (keywordEach kws X.env)).filterMap (·.1) = ks)
    (hpl : ((backTo pos (starEach [] X.env)).any (·.1) || (backToKw pos (keywordEach kws X.env)).any (·.1.isNone)) = false)
    (tk : Lk X EX G0 H0) (I : Inv X pins σ H s) (R : Rel G0 H0 G H σ S) (q : gk S fun kvs => Z [] kvs)
    (hc : ∀ (ws : List Value) (zs : List V) (kvs : List SV) (G2 : Gh) (H2 : Hp) (s2 : Shared), Ext G H G2 H2 → RepL H0 H G2 H2 zs kvs → Z [] kvs → Inv X pins σ H2 s2 → Vals zs ws →
      P s2.heap ∧ wpAny (model X.prog X.w) X.A (call fv (first ++ []) (ks.zip ws)) Qv X.xe s2) :
    wpAny (model X.prog X.w) X.A (callWith pos fv first (backTo pos (starEach [] X.env)) (backToKw pos (keywordEach kws X.env))) Qv X.xe s := by
  refine PySem.W.callWith_of hpl hP (evalArgs_kw2_nil hall ?_)
  refine thn ((hkw.pk G0 H0 tk).run pos pins s σ H (fun zs H2 => ∃ G2 kvs, Ext G H G2 H2 ∧ RepL H0 H G2 H2 zs kvs ∧ Z [] kvs) I ⟨G, S, _, R, q, fun zs H2 G2 kvs E2 r2 q2 => ⟨G2, kvs, E2, r2, q2⟩⟩) fun ws s2 ⟨zs, H2, I2, rz, G2, kvs, E2, r2, q2⟩ => ?_
  have z := hc ws zs kvs G2 H2 s2 E2 r2 q2 I2 rz
  refine ⟨z.1, ?_⟩
  rw [hks]
  exact z.2
end

/-- written values, and tuples of the program's own: a def's defaults -/
inductive Wrs (T : TBL) : List D → List V → Prop
  | nil : Wrs T [] []
  | cons {d : D} {v : V} {ds : List D} {vs : List V} : wrt d v → Wrs T ds vs → Wrs T (d :: ds) (v :: vs)
  | tup {a : Addr} {xs ds : List D} {vs : List V} : (a, xs) ∈ T.tups → Wrs T ds vs → Wrs T (.tup xs :: ds) (.ref a :: vs)
theorem Wrs.repl {T : TBL} {G : Gh} {H0 H Hs : Hp} (ok : OkG G H) (hT : G.T = T) : ∀ {ds : List D} {vs : List V}, Wrs T ds vs → RepL H0 Hs G H vs (ds.map SV.tr)
  | _, _, .nil => .nil
  | _, _, .cons h t => .cons h.rep (t.repl ok hT) fun _ o => o.elim
  | _, _, .tup hm t => .cons (by
      subst hT
      obtain ⟨o, vs, h1, h2, h3⟩ := ok.tabs.2 _ hm
      exact ⟨_, vs, rfl, .inr ⟨o, h2⟩, reps.mono (fun b o (z : (none : Option HO) = some o) => by cases z) _ _ h3⟩) (t.repl ok hT) fun _ o => o.elim
/-! ### f(..) -/
@[simp] def gCX (EX : EXT) (F : FXp) (n m : Nat) (ix : List Nat) (dd : List D) (ga gk : GA) : GE := fun S Q => ga S fun svs => gk S fun kvs => svs.length = n ∧ kvs.length = m ∧ F (arr ix (svs.map SV.arg ++ kvs.map SV.arg ++ dd.map SV.tr)) Q fun C fs => EX C fs S
section
variable {X : Cx} {EX : EXT} {G0 G G1 G2 : Gh} {H0 H H1 H2 : Hp} {pins : List (Addr × Obj)} {σ : L2.St} {S : S} {k n : Nat} {f : Addr} {fd : FuncData} {ps ks : List Str} {F : FXp} {dd : List D} {dvs : List V} {x : Str} {p pos : Pos} {e : Expr} {es : List Expr} {ga gk : GA} {kws : List Keyword} {ix : List Nat} {vs zs : List V} {svs kvs : List SV} {Qs : SV → Prop} {Q : VK}
/-- the arguments of a call, as the callee holds them -/
theorem args_at (hw : Wrs (TabsOf X.K) dd dvs) (hT : G2.T = TabsOf X.K) (E2 : Ext G1 H1 G2 H2) (r1 : RepL H0 H G1 H1 vs svs) (r2 : RepL H0 H1 G2 H2 zs kvs) : RepL H2 H2 G2 H2 (arr ix (vs ++ zs ++ dvs)) (arr ix (svs.map SV.arg ++ kvs.map SV.arg ++ dd.map SV.tr)) ∧ ∀ sv ∈ arr ix (svs.map SV.arg ++ kvs.map SV.arg ++ dd.map SV.tr), sv.isArg := by
  obtain ⟨a1, a2⟩ := (r1.ext E2).toArg
  obtain ⟨b1, b2⟩ := r2.toArg
  have dt : ∀ sv ∈ dd.map SV.tr, sv.isArg := fun sv h => by obtain ⟨d, _, rfl⟩ := List.mem_map.mp h; trivial
  have ab : ∀ sv ∈ svs.map SV.arg ++ kvs.map SV.arg, sv.isArg := fun sv h => (List.mem_append.mp h).elim (a2 sv) (b2 sv)
  exact ((a1.append b1 a2).append (hw.repl E2.ok hT) ab).arr (fun sv h => (List.mem_append.mp h).elim (ab sv) (dt sv)) ix
theorem kq_call (R : Rel G0 H0 G H σ S) (E : Ext G H G1 H1) (kq : KQ H0 G H Qs Q) : ∀ v H' G' sv, Ext G1 H1 G' H' → RepV H1 H1 G' H' v sv → sv.isRet → Qs sv → Q v H' := fun v H' G' sv E' r' ir q' =>
  kq v H' G' sv (E.trans E') (RepV.call (fun b z => E.dom z) ir r') q'
variable {d : He.DefD}
theorem ve_cx (Fn : FnX X.prog X.w X.K X.mg X.base d f k ps F) (hr : Room k X.A) (hm : X.mg x = some (.ref f)) (hb : ∀ fd cl, FG X.K d.name d.qual d.params d.body d.scope cl (d.dvs X.K) (d.kws X.K) f fd → KBi X.K fd ps n ks ix dvs) (hw : Wrs (TabsOf X.K) dd dvs) (hg : Gl X x)
    (ha : VA X EX (e :: es) ga) (hkw : VKw X EX kws gk) (hall : (backToKw pos (keywordEach kws X.env)).all (·.1.isSome) = true := by rfl) (hks : (backToKw pos (keywordEach kws X.env)).filterMap (·.1) = ks := by rfl)
    (hdb : (x == ("__debug__" : Str)) = false := by decide) (he : starEach (e :: es) X.env = (false, eval e X.env) :: starEach es X.env := by rfl)
    (hpl : ((backTo pos (starEach (e :: es) X.env)).any (·.1) || (backToKw pos (keywordEach kws X.env)).any (·.1.isNone)) = false := by rfl) :
    VE X EX (.Call (.Name x p) (e :: es) kws pos) (gCX EX F n ks.length ix dd ga gk) := by
  obtain ⟨fd, cl, hf, hF⟩ := Fn.ex
  obtain ⟨ds, rd, hto⟩ := (hb fd cl hf).to
  refine ⟨fun G0 H0 tk => ⟨fun pins s σ H Q I h => ?_⟩⟩
  obtain ⟨G, S, Qs, R, q, kq⟩ := h
  refine wpAny_Call_Name_kw (ld_glob I hg hm ?_ hdb)
  refine args_run (first := []) (keepsK hf.kp) ha hkw hall hks he hpl tk I R q fun us ws vs zs svs kvs G1 G2 H1 H2 s2 E1 r1 E2 r2 ⟨l1, l2, q2⟩ I2 rv rz => ⟨I2.kIn, ?_⟩
  obtain ⟨c1, c2⟩ := args_at (ix := ix) hw (tk.tt R (E1.trans E2)) E2 r1 r2
  exact call_of_code (run_cx hF hr tk I2 ((R.go E1).go E2) c1 c2 q2 (hto s2 us ws I2.kIn (rv.length.symm.trans (r1.length.trans l1)) (rz.length.symm.trans (r2.length.trans l2))) (vals_arr ix ((rv.append rz).append rd)) (kq_call R (E1.trans E2) kq) fun _ _ z => z)
theorem ve_cx0 (Fn : FnX X.prog X.w X.K X.mg X.base d f k ps F) (hr : Room k X.A) (hm : X.mg x = some (.ref f)) (hb : ∀ fd cl, FG X.K d.name d.qual d.params d.body d.scope cl (d.dvs X.K) (d.kws X.K) f fd → KBi X.K fd ps 0 ks ix dvs) (hw : Wrs (TabsOf X.K) dd dvs) (hg : Gl X x)
    (hkw : VKw X EX kws gk) (hall : (backToKw pos (keywordEach kws X.env)).all (·.1.isSome) = true := by rfl) (hks : (backToKw pos (keywordEach kws X.env)).filterMap (·.1) = ks := by rfl)
    (hdb : (x == ("__debug__" : Str)) = false := by decide)
    (hpl : ((backTo pos (starEach [] X.env)).any (·.1) || (backToKw pos (keywordEach kws X.env)).any (·.1.isNone)) = false := by rfl) :
    VE X EX (.Call (.Name x p) [] kws pos) (gCX EX F 0 ks.length ix dd gaNil gk) := by
  obtain ⟨fd, cl, hf, hF⟩ := Fn.ex
  obtain ⟨ds, rd, hto⟩ := (hb fd cl hf).to
  refine ⟨fun G0 H0 tk => ⟨fun pins s σ H Q I h => ?_⟩⟩
  obtain ⟨G, S, Qs, R, q, kq⟩ := h
  refine wpAny_Call_Name_kw (ld_glob I hg hm ?_ hdb)
  refine args_run0 (first := []) (Z := fun svs kvs => svs.length = 0 ∧ kvs.length = ks.length ∧ F (arr ix (svs.map SV.arg ++ kvs.map SV.arg ++ dd.map SV.tr)) Qs fun C fs => EX C fs S) (keepsK hf.kp) hkw hall hks hpl tk I R q fun ws zs kvs G2 H2 s2 E2 r2 ⟨_, l2, q2⟩ I2 rz => ⟨I2.kIn, ?_⟩
  obtain ⟨c1, c2⟩ := args_at (ix := ix) (vs := []) (svs := []) (H := H) hw (tk.tt R E2) E2 .nil r2
  exact call_of_code (run_cx hF hr tk I2 (R.go E2) c1 c2 q2 (hto s2 [] ws I2.kIn rfl (rz.length.symm.trans (r2.length.trans l2))) (vals_arr ix ((Vals.append (xs := []) (us := []) .nil rz).append rd)) (kq_call R E2 kq) fun _ _ z => z)
end
end VT

namespace VT
open PySem PySem.Spec PyProof.Rows L2

/-! ### __init__ that may raise -/
def spIniX (K : PySem.W.Frag) (C : Addr) (F : FXp) : Sp := fun vs H Q E => ∃ G H1 x dx vs' svs Qs Qx, H = upd (upd H1 dx (.own x)) x (.ins C dx []) ∧ H1 x = none ∧ H1 dx = none ∧ dx ≠ x ∧ (OkG G H1 ∧ G.T = TabsOf K) ∧ vs = .ref x :: vs' ∧ RepL H1 H1 G H1 vs' svs ∧ (∀ sv ∈ svs, sv.isArg) ∧ F svs Qs Qx ∧
  (∀ H' G' fs, Ext G H1 G' H' → RepV H1 H1 G' H' (.ref x) (.obj x C fs) → Qs (.tr (.ins C (frzF fs))) → Q .non H') ∧ ∀ cls d H', XOf G H1 Qx cls d H' → E cls d H'
structure IniX (P : Program) (w : World) (K : PySem.W.Frag) (mg : Str → Option Value) (base : Heap) (d : He.DefD) (C f : Addr) (k : Nat) (ps : List Str) (F : FXp) : Prop where
  ex : ∃ fd cl, FG K d.name d.qual d.params d.body d.scope cl (d.dvs K) (d.kws K) f fd ∧ FnOk P w K mg base (L2.CX P w) k f fd ps (spIniX K C F)
section
variable {P : Program} {w : World} {K : PySem.W.Frag} {mg : Str → Option Value} {base : Heap} {d : He.DefD} {C f : Addr} {j k : Nat} {N ps : List Str} {F F' : FXp} {g : EXT → GS}
theorem IniX.mono (h : IniX P w K mg base d C f j ps F) (hj : j ≤ k) : IniX P w K mg base d C f k ps F := by
  obtain ⟨fd, cl, hf, hk⟩ := h
  exact ⟨fd, cl, hf, hk.mono hj⟩
theorem IniX.imp (h : IniX P w K mg base d C f k ps F) (hF : ∀ svs Q Qx, F' svs Q Qx → F svs Q Qx) : IniX P w K mg base d C f k ps F' := by
  obtain ⟨fd, cl, hf, hk⟩ := h
  exact ⟨fd, cl, hf, hk.imp fun vs H Q E ⟨G, H1, x, dx, vs', svs, Qs, Qx, e1, e2, e3, e4, ok, ev, r, ha, q, z⟩ => ⟨G, H1, x, dx, vs', svs, Qs, Qx, e1, e2, e3, e4, ok, ev, r, ha, hF _ _ _ q, z⟩⟩
/-- what the body of an __init__ must come to -/
abbrev iniE (C xa : Addr) (Qs : SV → Prop) : VEnds := { nx := fun S => ∃ fs, S[0]? = some (some (.obj xa C fs)) ∧ Qs (.tr (.ins C (frzF fs))), rt := fun _ => False }
theorem inix_ok (hf : ∃ fd, FunD K d.name d.qual d.params d.body d.scope (d.dvs K) (d.kws K) f fd) (Sc : FnScope N ps d.scope)
    (hbody : ∀ (EX : EXT) (cdv : Value) (A : Around) (outer : List Env) (s : Shared) (H : Hp) (E : XK), Room k (A.deeper (envOfC d.qual d.scope s.heap.objs.size f cdv)) → VSs (cxOf (L2.CX P w) P w K mg base N d.qual d.scope f cdv A outer s H E) EX d.body (g EX))
    (len : ∀ svs Qs Qx, F svs Qs Qx → svs.length + 1 = ps.length) (spec : ∀ xa svs Qs Qx, F svs Qs Qx → g ⟨fun C fs _ => Qx C fs, TL0⟩ (iniE C xa Qs) (startS N (.obj xa C [] :: svs))) : IniX P w K mg base d C f (k + 1) ps F := by
  obtain ⟨fd, hf⟩ := hf
  refine ⟨fd, [], .of hf, hf.ok Sc (fun vs H Q E ⟨G, H1, xa, dx, vs', svs, Qs, Qx, _, _, _, _, _, ev, r, _, h, _⟩ => by rw [ev, List.length_cons, r.length]; exact len _ _ _ h) (fun cdv A outer s H vs Q E hr h => ?_)⟩
  obtain ⟨G, H1, xa, dx, vs', svs, Qs, Qx, eH, hx, hd, hne, ok, ev, r, ha, hF, z, zx⟩ := h
  have tk : Lk (cxOf (L2.CX P w) P w K mg base N d.qual d.scope f cdv A outer s H E) ⟨fun C fs _ => Qx C fs, TL0⟩ G H1 :=
    ⟨(takes_of rfl rfl rfl rfl).imp fun cls d σ H' ⟨G', S, C, dx, fs, ws, e1, e2, R, e3, e4, q⟩ => zx _ _ _ ⟨C, dx, fs, ws, G', e1, e2, R.ext, e3, e4, q⟩, ok.2, thk0⟩
  refine ⟨TSV G H1 (g _), (hbody _ cdv A outer s H E hr).pss _ _ tk, ?_⟩
  subst eH ev
  refine ⟨G, _, _, Rel.startI (N := N) ok.1 hx hd hne r ha, spec xa svs Qs Qx hF, fun σ' H' G' S' R' _ q => ?_, fun v H' G' sv E' r' ir q => q.elim, fun σ' H' G' S' R' _ q => q.elim, fun σ' H' G' S' R' _ q => q.elim⟩
  obtain ⟨fs, e0, q⟩ := q
  obtain ⟨v, ev, rv⟩ := R'.slot 0 _ e0
  have e1 : v = .ref xa := by
    obtain ⟨a, _, _, e, _, _, _, _, _, _, hq⟩ := rv
    rw [e, hq]
  rw [e1] at rv
  exact z H' G' fs R'.ext rv q
end
section
variable {X : Cx} {EX : EXT} {G0 G G1 G2 : Gh} {H0 H H1 H2 : Hp} {pins : List (Addr × Obj)} {σ : L2.St} {S : S} {s : Shared} {k n : Nat} {f C : Addr} {fd : FuncData} {ps ks : List Str} {F : FXp} {dd : List D} {dvs : List V} {x m : Str} {p pos apos : Pos} {e o : Expr} {es : List Expr} {ga gk : GA} {go : GE} {kws : List Keyword} {ix : List Nat} {vs : List V} {us ws : List Value} {svs : List SV} {Qs : SV → Prop} {Qx : XP} {Q : VK} {d : He.DefD}
/-- C(..) at what it is told: the object is frozen -/
theorem run_mx (M : Mk X.K C f) (Fn : FnOk X.prog X.w X.K X.mg X.base (L2.CX X.prog X.w) k f fd ps (spIniX X.K C F)) (hr : Room (k + 1) X.A) (tk : Lk X EX G0 H0) (I : Inv X pins σ H s) (R : Rel G0 H0 G H σ S) (rl : RepL H H G H vs svs) (ha : ∀ sv ∈ svs, sv.isArg) (hF : F svs Qs Qx) {us' : List Value}
    (hb : ∀ u, BindsTo { s with heap := (s.heap.push PySem.W.emptyDict).push (PySem.W.instObj C s.heap.objs.size) } fd ⟨u :: us, ks.zip ws⟩ (ps.zip (u :: us'))) (rv : Vals vs us') (kq : ∀ v H' G' sv, Ext G H G' H' → RepV H H G' H' v sv → sv.isRet → Qs sv → Q v H') (kx : ∀ C fs, Qx C fs → EX C fs S) :
    wpAny (model X.prog X.w) X.A (call (.ref C) us (ks.zip ws)) (EP X pins σ Q) X.xe s := by
  have hx : H (s.heap.objs.size + 1) = none := I.hok.fresh (Nat.le_succ _)
  have hd : H s.heap.objs.size = none := I.hok.fresh (Nat.le_refl _)
  have hne : s.heap.objs.size ≠ s.heap.objs.size + 1 := Nat.ne_of_lt (Nat.lt_succ_self _)
  have I2 := Inv.made (C := C) I
  obtain ⟨Em, rm⟩ := ext_made (C := C) R.ok hx hd hne
  refine wpAny_call (make_map (f := f) I.kIn M.makes M.init (beq_iff_eq.mp M.fn) (codeAny_mono (Fn.run _ X.stack _ _ ⟨Value.ref (s.heap.objs.size + 1) :: us, ks.zip ws⟩ (Value.ref (s.heap.objs.size + 1) :: us') (V.ref (s.heap.objs.size + 1) :: vs)
    (fun v H2 => v = .non ∧ Q (.ref (s.heap.objs.size + 1)) H2) (XOf G H Qx) (hr.make C us (ks.zip ws)) (I2.env0.make C us (ks.zip ws)) (hb _) (.cons rfl rv) ⟨G, H, _, _, vs, svs, Qs, Qx, rfl, hx, hd, hne, ⟨R.ok, tk.tt R (.refl R.ok)⟩, rfl, rl, ha, hF, fun H' G' fs E' r' q' => ⟨rfl, ?_⟩, fun _ _ _ z => z⟩) fun r s' hq' => ?_))
  · obtain ⟨G2, E2, _, r2⟩ := obj_freeze E' r'
    exact kq _ H' G2 (.tr (.ins C (frzF fs))) E2 r2 trivial q'
  cases r with
  | error e =>
    exact tk.takes e s' (XE.of_call I2 (fun cls d H' ⟨C', dx, fs, ws, G', e1, e2, E', e3, e4, q⟩ => ⟨G', S, C', dx, fs, ws, e1, e2, R.go E', e3, e4, kx C' fs q⟩) hq')
  | ok fl =>
    cases fl with
    | ret u =>
      obtain ⟨v, H', I3, rv, ev, q3⟩ := I2.after hq'
      subst ev
      exact ⟨rv, ⟨V.ref (s.heap.objs.size + 1), H', I3, rfl, q3⟩⟩
    | next => exact False.elim hq'
    | brk => exact False.elim hq'
    | cont => exact False.elim hq'
end
end VT

namespace VT
open PySem PySem.Spec PyProof.Rows L2

/-! ### C(..), o.m(..) -/
theorem arr_self {α : Type} (a : α) (l : List α) (ix : List Nat) : arr (0 :: ix.map (· + 1)) (a :: l) = a :: arr ix l := arr_zero a l ix
/-- one class that a method's object may be of -/
structure MAlt (X : Cx) (m : Str) (k n : Nat) (ks : List Str) (ix : List Nat) (dd : List D) (C : Addr) (F : FXp) : Prop where
  cls : Cls X.K C
  ex : ∃ f d ps dvs, Meth X.K C m f ∧ FnX X.prog X.w X.K X.mg X.base d f k ps F ∧ (∀ fd cl, FG X.K d.name d.qual d.params d.body d.scope cl (d.dvs X.K) (d.kws X.K) f fd → KBi X.K fd ps (n + 1) ks (0 :: ix.map (· + 1)) dvs) ∧ Wrs (TabsOf X.K) dd dvs
/-- alts: the classes and what the method answers there -/
def gMX (EX : EXT) (m : Str) (alts : List (Addr × FXp)) (n l : Nat) (ix : List Nat) (dd : List D) (go : GE) (ga gk : GA) : GE := fun S Q => go S fun so => ∃ C fs F, so.ins? = some (C, fs) ∧ (C, F) ∈ alts ∧ fs.lookup m = none ∧
  ga S fun svs => gk S fun kvs => svs.length = n ∧ kvs.length = l ∧ F (so.arg :: arr ix (svs.map SV.arg ++ kvs.map SV.arg ++ dd.map SV.tr)) Q fun C fs => EX C fs S
section
variable {X : Cx} {EX : EXT} {k n : Nat} {f C : Addr} {ps ks : List Str} {F : FXp} {dd : List D} {dvs : List V} {x m : Str} {p pos apos : Pos} {e o : Expr} {es : List Expr} {ga gk : GA} {go : GE} {kws : List Keyword} {ix : List Nat} {d : He.DefD} {alts : List (Addr × FXp)}
theorem ve_mkx (M : Mk X.K C f) (Fn : IniX X.prog X.w X.K X.mg X.base d C f k ps F) (hr : Room (k + 1) X.A) (hm : X.mg x = some (.ref C)) (hb : ∀ fd cl, FG X.K d.name d.qual d.params d.body d.scope cl (d.dvs X.K) (d.kws X.K) f fd → KBi X.K fd ps (n + 1) ks (0 :: ix.map (· + 1)) dvs) (hw : Wrs (TabsOf X.K) dd dvs) (hg : Gl X x)
    (ha : VA X EX (e :: es) ga) (hkw : VKw X EX kws gk) (hps : ∃ p0 r, ps = p0 :: r := by exact ⟨_, _, rfl⟩) (hall : (backToKw pos (keywordEach kws X.env)).all (·.1.isSome) = true := by rfl) (hks : (backToKw pos (keywordEach kws X.env)).filterMap (·.1) = ks := by rfl)
    (hdb : (x == ("__debug__" : Str)) = false := by decide) (he : starEach (e :: es) X.env = (false, eval e X.env) :: starEach es X.env := by rfl)
    (hpl : ((backTo pos (starEach (e :: es) X.env)).any (·.1) || (backToKw pos (keywordEach kws X.env)).any (·.1.isNone)) = false := by rfl) :
    VE X EX (.Call (.Name x p) (e :: es) kws pos) (gCX EX F n ks.length ix dd ga gk) := by
  obtain ⟨fd, cl, hf, hF⟩ := Fn.ex
  obtain ⟨ds, rd, hto⟩ := (hb fd cl hf).to
  refine ⟨fun G0 H0 tk => ⟨fun pins s σ H Q I h => ?_⟩⟩
  obtain ⟨G, S, Qs, R, q, kq⟩ := h
  refine wpAny_Call_Name_kw (ld_glob I hg hm ?_ hdb)
  refine args_run (first := []) (keepsK M.kp) ha hkw hall hks he hpl tk I R q fun us ws vs zs svs kvs G1 G2 H1 H2 s2 E1 r1 E2 r2 ⟨l1, l2, q2⟩ I2 rv rz => ⟨I2.kIn, ?_⟩
  obtain ⟨c1, c2⟩ := args_at (ix := ix) hw (tk.tt R (E1.trans E2)) E2 r1 r2
  refine run_mx M hF hr tk I2 ((R.go E1).go E2) c1 c2 q2 (us' := arr ix (us ++ ws ++ ds)) (fun u => ?_) (vals_arr ix ((rv.append rz).append rd)) (kq_call R (E1.trans E2) kq) fun _ _ z => z
  have h3 := hto { s2 with heap := (s2.heap.push PySem.W.emptyDict).push (PySem.W.instObj C s2.heap.objs.size) } (u :: us) ws (Inv.made (C := C) I2).kIn (by rw [List.length_cons, rv.length.symm.trans (r1.length.trans l1)]) (rz.length.symm.trans (r2.length.trans l2))
  rw [show (u :: us) ++ ws ++ ds = u :: (us ++ ws ++ ds) from rfl, arr_self] at h3
  exact h3
theorem ve_mkx0 (M : Mk X.K C f) (Fn : IniX X.prog X.w X.K X.mg X.base d C f k ps F) (hr : Room (k + 1) X.A) (hm : X.mg x = some (.ref C)) (hb : ∀ fd cl, FG X.K d.name d.qual d.params d.body d.scope cl (d.dvs X.K) (d.kws X.K) f fd → KBi X.K fd ps (0 + 1) ks (0 :: ix.map (· + 1)) dvs) (hw : Wrs (TabsOf X.K) dd dvs) (hg : Gl X x)
    (hkw : VKw X EX kws gk) (hall : (backToKw pos (keywordEach kws X.env)).all (·.1.isSome) = true := by rfl) (hks : (backToKw pos (keywordEach kws X.env)).filterMap (·.1) = ks := by rfl)
    (hdb : (x == ("__debug__" : Str)) = false := by decide)
    (hpl : ((backTo pos (starEach [] X.env)).any (·.1) || (backToKw pos (keywordEach kws X.env)).any (·.1.isNone)) = false := by rfl) :
    VE X EX (.Call (.Name x p) [] kws pos) (gCX EX F 0 ks.length ix dd gaNil gk) := by
  obtain ⟨fd, cl, hf, hF⟩ := Fn.ex
  obtain ⟨ds, rd, hto⟩ := (hb fd cl hf).to
  refine ⟨fun G0 H0 tk => ⟨fun pins s σ H Q I h => ?_⟩⟩
  obtain ⟨G, S, Qs, R, q, kq⟩ := h
  refine wpAny_Call_Name_kw (ld_glob I hg hm ?_ hdb)
  refine args_run0 (first := []) (Z := fun svs kvs => svs.length = 0 ∧ kvs.length = ks.length ∧ F (arr ix (svs.map SV.arg ++ kvs.map SV.arg ++ dd.map SV.tr)) Qs fun C fs => EX C fs S) (keepsK M.kp) hkw hall hks hpl tk I R q fun ws zs kvs G2 H2 s2 E2 r2 ⟨_, l2, q2⟩ I2 rz => ⟨I2.kIn, ?_⟩
  obtain ⟨c1, c2⟩ := args_at (ix := ix) (vs := []) (svs := []) (H := H) hw (tk.tt R E2) E2 .nil r2
  refine run_mx M hF hr tk I2 (R.go E2) c1 c2 q2 (us' := arr ix ([] ++ ws ++ ds)) (fun u => ?_) (vals_arr ix ((Vals.append (xs := []) (us := []) .nil rz).append rd)) (kq_call R E2 kq) fun _ _ z => z
  have h3 := hto { s2 with heap := (s2.heap.push PySem.W.emptyDict).push (PySem.W.instObj C s2.heap.objs.size) } [u] ws (Inv.made (C := C) I2).kIn rfl (rz.length.symm.trans (r2.length.trans l2))
  rw [show [u] ++ ws ++ ds = u :: ([] ++ ws ++ ds) from rfl, arr_self] at h3
  exact h3
/-- the object and the arguments, as the callee holds them -/
theorem self_at {H0 Ha H1 H2 : Hp} {G1 G2 : Gh} {v : V} {sv : SV} {vs : List V} {svs : List SV} (r : RepV H0 Ha G1 H1 v sv) (E : Ext G1 H1 G2 H2) (c1 : RepL H2 H2 G2 H2 vs svs) (c2 : ∀ sv ∈ svs, sv.isArg) : RepL H2 H2 G2 H2 (v :: vs) (sv.arg :: svs) ∧ ∀ s ∈ sv.arg :: svs, s.isArg := by
  obtain ⟨a1, a2⟩ := (r.ext E).toArg
  refine ⟨.cons a1 c1 fun b o => (a2.none o).elim, fun s h => ?_⟩
  rcases List.mem_cons.mp h with rfl | h
  · exact a2
  · exact c2 s h
theorem ve_mtx {pl : Sem Bool} (hal : ∀ C F, (C, F) ∈ alts → MAlt X m k n ks ix dd C F) (hr : Room k X.A) (ho : VE X EX o go) (ha : VA X EX (e :: es) ga) (hkw : VKw X EX kws gk) (hall : (backToKw pos (keywordEach kws X.env)).all (·.1.isSome) = true := by rfl)
    (hks : (backToKw pos (keywordEach kws X.env)).filterMap (·.1) = ks := by rfl) (he : starEach (e :: es) X.env = (false, eval e X.env) :: starEach es X.env := by rfl)
    (hpl : ((backTo pos (starEach (e :: es) X.env)).any (·.1) || (backToKw pos (keywordEach kws X.env)).any (·.1.isNone)) = false := by rfl)
    (ht : eval (.Call (.Attribute o m apos) (e :: es) kws pos) X.env = (do
      let ov ← eval o X.env
      standAt apos.atName
      let (f, first) ← holding [ov] (getMethod ov m pl)
      callWith pos f first (backTo pos (starEach (e :: es) X.env)) (backToKw pos (keywordEach kws X.env))) := by rfl) :
    VE X EX (.Call (.Attribute o m apos) (e :: es) kws pos) (gMX EX m alts n ks.length ix dd go ga gk) := by
  refine ⟨fun G0 H0 tk => ⟨fun pins s σ H Q I h => ?_⟩⟩
  obtain ⟨G, S, Qs, R, q, kq⟩ := h
  refine PySem.W.methodCall_KW (pl := pl) (thn ((ho.pe G0 H0 tk).run pins s σ H (fun v H1 => ∃ G1 so, Ext G H G1 H1 ∧ RepV H0 H G1 H1 v so ∧ ∃ C fs F, so.ins? = some (C, fs) ∧ (C, F) ∈ alts ∧ fs.lookup m = none ∧
    ga S fun svs => gk S fun kvs => svs.length = n ∧ kvs.length = ks.length ∧ F (so.arg :: arr ix (svs.map SV.arg ++ kvs.map SV.arg ++ dd.map SV.tr)) Qs fun C fs => EX C fs S) I ⟨G, S, _, R, q, fun v H1 G1 so E1 r1 q1 => ⟨G1, so, E1, r1, q1⟩⟩) fun u s1 ⟨v, H1, I1, rv1, Ga, so, Ea, ra, C, fs, F, hi, hA, hn, q1⟩ => ?_) ht
  obtain ⟨hc, f, d, ps, dvs, hmt, Fn, hb, hw⟩ := hal C F hA
  obtain ⟨fd, cl, hf, hF⟩ := Fn.ex
  obtain ⟨ds, rd, hto⟩ := (hb fd cl hf).to
  obtain ⟨a, dx, wf, ev, ea, hl⟩ := ra.insNone Ea.ok hi hn
  subst ev
  obtain rfl : u = Value.ref a := rv1
  refine getmeth_ok I1 ea hc hmt hl ?_
  refine args_run (first := [.ref a]) (keepsK hmt.kp) ha hkw hall hks he hpl tk I1 (R.go Ea) q1 fun us ws vs zs svs kvs G1 G2 H1' H2 s2 E1 r1 E2 r2 ⟨l1, l2, q2⟩ I2 rv rz => ⟨I2.kIn, ?_⟩
  obtain ⟨c1, c2⟩ := args_at (ix := ix) hw (tk.tt R (Ea.trans (E1.trans E2))) E2 r1 r2
  obtain ⟨e1, e2⟩ := self_at ra (E1.trans E2) c1 c2
  have h3 := hto s2 (.ref a :: us) ws I2.kIn (by rw [List.length_cons, rv.length.symm.trans (r1.length.trans l1)]) (rz.length.symm.trans (r2.length.trans l2))
  rw [show (Value.ref a :: us) ++ ws ++ ds = Value.ref a :: (us ++ ws ++ ds) from rfl, arr_self] at h3
  exact call_of_code (run_cx hF hr tk I2 (((R.go Ea).go E1).go E2) e1 e2 q2 h3 (.cons rfl (vals_arr ix ((rv.append rz).append rd))) (kq_call R (Ea.trans (E1.trans E2)) kq) fun _ _ z => z)
theorem ve_mtx0 {pl : Sem Bool} (hal : ∀ C F, (C, F) ∈ alts → MAlt X m k 0 ks ix dd C F) (hr : Room k X.A) (ho : VE X EX o go) (hkw : VKw X EX kws gk) (hall : (backToKw pos (keywordEach kws X.env)).all (·.1.isSome) = true := by rfl)
    (hks : (backToKw pos (keywordEach kws X.env)).filterMap (·.1) = ks := by rfl)
    (hpl : ((backTo pos (starEach [] X.env)).any (·.1) || (backToKw pos (keywordEach kws X.env)).any (·.1.isNone)) = false := by rfl)
    (ht : eval (.Call (.Attribute o m apos) [] kws pos) X.env = (do
      let ov ← eval o X.env
      standAt apos.atName
      let (f, first) ← holding [ov] (getMethod ov m pl)
      callWith pos f first (backTo pos (starEach [] X.env)) (backToKw pos (keywordEach kws X.env))) := by rfl) :
    VE X EX (.Call (.Attribute o m apos) [] kws pos) (gMX EX m alts 0 ks.length ix dd go gaNil gk) := by
  refine ⟨fun G0 H0 tk => ⟨fun pins s σ H Q I h => ?_⟩⟩
  obtain ⟨G, S, Qs, R, q, kq⟩ := h
  refine PySem.W.methodCall_KW (pl := pl) (thn ((ho.pe G0 H0 tk).run pins s σ H (fun v H1 => ∃ G1 so, Ext G H G1 H1 ∧ RepV H0 H G1 H1 v so ∧ ∃ C fs F, so.ins? = some (C, fs) ∧ (C, F) ∈ alts ∧ fs.lookup m = none ∧
    gaNil S fun svs => gk S fun kvs => svs.length = 0 ∧ kvs.length = ks.length ∧ F (so.arg :: arr ix (svs.map SV.arg ++ kvs.map SV.arg ++ dd.map SV.tr)) Qs fun C fs => EX C fs S) I ⟨G, S, _, R, q, fun v H1 G1 so E1 r1 q1 => ⟨G1, so, E1, r1, q1⟩⟩) fun u s1 ⟨v, H1, I1, rv1, Ga, so, Ea, ra, C, fs, F, hi, hA, hn, q1⟩ => ?_) ht
  obtain ⟨hc, f, d, ps, dvs, hmt, Fn, hb, hw⟩ := hal C F hA
  obtain ⟨fd, cl, hf, hF⟩ := Fn.ex
  obtain ⟨ds, rd, hto⟩ := (hb fd cl hf).to
  obtain ⟨a, dx, wf, ev, ea, hl⟩ := ra.insNone Ea.ok hi hn
  subst ev
  obtain rfl : u = Value.ref a := rv1
  refine getmeth_ok I1 ea hc hmt hl ?_
  refine args_run0 (first := [.ref a]) (Z := fun svs kvs => svs.length = 0 ∧ kvs.length = ks.length ∧ F (so.arg :: arr ix (svs.map SV.arg ++ kvs.map SV.arg ++ dd.map SV.tr)) Qs fun C fs => EX C fs S) (keepsK hmt.kp) hkw hall hks hpl tk I1 (R.go Ea) q1 fun ws zs kvs G2 H2 s2 E2 r2 ⟨_, l2, q2⟩ I2 rz => ⟨I2.kIn, ?_⟩
  obtain ⟨c1, c2⟩ := args_at (ix := ix) (vs := []) (svs := []) (H := H1) hw (tk.tt R (Ea.trans E2)) E2 .nil r2
  obtain ⟨e1, e2⟩ := self_at ra E2 c1 c2
  have h3 := hto s2 [.ref a] ws I2.kIn rfl (rz.length.symm.trans (r2.length.trans l2))
  rw [show [Value.ref a] ++ ws ++ ds = Value.ref a :: ([] ++ ws ++ ds) from rfl, arr_self] at h3
  exact call_of_code (run_cx hF hr tk I2 ((R.go Ea).go E2) e1 e2 q2 h3 (.cons rfl (vals_arr ix ((Vals.append (xs := []) (us := []) .nil rz).append rd))) (kq_call R (Ea.trans E2) kq) fun _ _ z => z)
end
@[simp] theorem gMX_eq (EX : EXT) (m : Str) (alts : List (Addr × FXp)) (n l : Nat) (ix : List Nat) (dd : List D) (go : GE) (ga gk : GA) (S : S) (Q : SV → Prop) : gMX EX m alts n l ix dd go ga gk S Q = go S fun so => ∃ C fs F, so.ins? = some (C, fs) ∧ (C, F) ∈ alts ∧ fs.lookup m = none ∧
  ga S fun svs => gk S fun kvs => svs.length = n ∧ kvs.length = l ∧ F (so.arg :: arr ix (svs.map SV.arg ++ kvs.map SV.arg ++ dd.map SV.tr)) Q fun C fs => EX C fs S := rfl
end VT

namespace VT
open PySem PySem.Spec PyProof.Rows L2

/-! ### defs that say super(): their class stands in a cell -/
structure SupScope (N ps : List Str) (sc : Scope) : Prop where
  kind : sc.kind = .function
  co : sc.isCoroutine = false
  gen : sc.isGenerator = false
  nd : N.Nodup
  pre : N.take ps.length = ps
  par : ∀ x ∈ ps, sc.names.lookup x = some .local
  nocell : ∀ y ∈ sc.names, y.2 ≠ .cell
  free : ∀ y ∈ sc.names, y.2 = .free → y.1 = ("__class__" : Str)
abbrev envS (qual : Str) (scope : Scope) (L f : Addr) (cd : Value) (cc : Addr) : Env := PySem.W.ksEnv qual scope L f cd cc
def cxS (CX : CXT) (P : Program) (w : World) (K : PySem.W.Frag) (mg : Str → Option Value) (base : Heap) (N : List Str) (qual : Str) (scope : Scope) (f : Addr) (cd : Value) (cc : Addr) (A : Around) (outer : List Env) (s : Shared) (H : Hp) (E : XK) : Cx :=
  { prog := P, w := w, K := K, mg := mg, base := base, A := A.deeper (envS qual scope s.heap.objs.size f cd cc), N := N, s_0 := s, H_0 := H, env := envS qual scope s.heap.objs.size f cd cc, outer := outer, stack := envS qual scope s.heap.objs.size f cd cc :: outer,
    ex := [], calm := true, fn := fun _ => false, pn := [],
    xe := fun e s' => wpAny (model P w) (A.deeper (envS qual scope s.heap.objs.size f cd cc)) (leaving (envS qual scope s.heap.objs.size f cd cc) e) (fun _ s'' => CX outer H s E e s'') (fun e' s'' => CX outer H s E e' s'') s' }
theorem look_mem {x : Str} {u : Value} : ∀ {l : List (Str × Value)}, (l.map (·.1)).Nodup → (x, u) ∈ l → l.lookup x = some u
  | [], _, h => nomatch h
  | (y, v) :: l, nd, h => by
    obtain ⟨n1, n2⟩ := List.nodup_cons.mp (show (y :: l.map (·.1)).Nodup from nd)
    rcases List.mem_cons.mp h with e | h
    · cases e
      simp [List.lookup]
    · have hne : (x == y) = false := by
        simp only [beq_eq_false_iff_ne]
        intro z
        exact n1 (List.mem_map.mpr ⟨_, h, z⟩)
      rw [List.lookup, hne]
      exact look_mem n2 h
theorem inv_startS {CX : CXT} {P : Program} {w : World} {K : PySem.W.Frag} {mg : Str → Option Value} {base : Heap} {N ps : List Str} {qual : Str} {scope : Scope} {f cc : Addr} {cd : Value} {A : Around} {outer : List Env} {s : Shared} {H : Hp} {E : XK} {us : List Value} {vs : List V} {h₁ : Heap} {tk : Nat} {oc : Obj} {cv : Option Value}
    (S : SupScope N ps scope) (hd : A.handled = none) (e0 : Env0 P w K mg base A outer s H) (hl : vs.length = ps.length) (r : Vals vs us) (hcc : K.lookup cc = some oc) (hcd : oc.data = .cell cv)
    (hns : h₁.Ns s.heap.objs.size (fun x => (ps.zip us).reverse.lookup x)) (kp : ∀ b o, s.heap.get? b = some o → h₁.get? b = some o) : Inv (cxS CX P w K mg base N qual scope f cd cc A outer s H E) [] (L2.start N vs) H { s with heap := h₁, toks := tk } := by
  have hpl : ps.length ≤ N.length := by have := congrArg List.length S.pre; rw [List.length_take] at this; omega
  have bcc := e0.bs cc oc (e0.mod.kin cc oc hcc)
  have noA : ∀ b : Addr, b ∉ (cxS CX P w K mg base N qual scope f cd cc A outer s H E).ex := fun b z => absurd (show b ∈ ([] : List Addr) from z) (by simp)
  have one : ∀ {y : Str} {c : Addr}, ([("__class__", cc)] : List (Str × Addr)).lookup y = some c → y = "__class__" ∧ c = cc := fun {y c} h => by
    have hm := PySem.mem_of_lookup h
    rw [List.mem_singleton] at hm
    cases hm
    exact ⟨rfl, rfl⟩
  refine ⟨⟨e0.mod, S.kind, rfl, rfl, Nat.le_refl _, fun y z c h1 h2 => ?_, fun y hy => ?_, fun y c z _ => ?_, fun _ => hd, Around.frames_deeper e0.frames, .inr ⟨rfl, rfl⟩, fun b z => absurd z (noA b), e0.bs, e0.bsz, fun b _ _ => noA b, fun b z => absurd z (noA b), e0.funs, e0.frf⟩,
    rfl, e0.bare, Un.kept kp, ⟨_, hns, fun i y v h1 h2 h3 => ?_⟩, fun y c h => ?_, e0.hok.fresh (Nat.le_refl _), fun y c h => ?_, fun p hp => absurd (show p ∈ ([] : List (Addr × Obj)) from hp) (by simp), e0.hok.kept kp, ?_⟩
  · exact (one h1).1.trans (one h2).1.symm
  · have hy : scope.names.lookup y = some .cell ∨ scope.names.lookup y = some .free := hy
    rcases hy with hy | hy
    · exact absurd rfl (S.nocell _ (PySem.mem_of_lookup hy))
    · have e := S.free _ (PySem.mem_of_lookup hy) rfl
      dsimp only at e
      subst e
      exact ⟨cc, rfl⟩
  · cases z
  · have hi : i < vs.length := by
      unfold L2.start at h2
      by_cases hi : i < vs.length
      · exact hi
      · rw [List.getElem?_append_right (by simpa using hi), List.getElem?_replicate] at h2
        split at h2 <;> cases h2
    have ha : vs[i]? = some v := by
      unfold L2.start at h2
      rw [List.getElem?_append_left (by simpa using hi), List.getElem?_map] at h2
      cases e : vs[i]? with
      | none => rw [e] at h2; cases h2
      | some a => rw [e] at h2; cases h2; rfl
    obtain ⟨u, hu, rv⟩ := r.get ha
    have hp : ps[i]? = some y := by
      rw [← S.pre, List.getElem?_take_of_lt (by omega)]
      exact h1
    have ndP : ps.Nodup := by rw [← S.pre]; exact S.nd.sublist (List.take_sublist _ _)
    have hul : us.length = ps.length := r.length.symm.trans hl
    refine ⟨u, rv, .inl ⟨S.par y (List.mem_of_getElem? hp), look_mem ?_ ?_⟩⟩
    · rw [List.map_reverse, List.map_fst_zip (by omega)]
      exact List.pairwise_reverse.mpr (ndP.imp fun h => Ne.symm h)
    · rw [List.mem_reverse]
      refine List.mem_iff_getElem?.mpr ⟨i, ?_⟩
      rw [List.getElem?_zip_eq_some]
      exact ⟨hp, hu⟩
  · obtain ⟨_, rfl⟩ := one h
    exact ⟨cv, oc, kp _ _ bcc.1, hcd⟩
  · obtain ⟨_, rfl⟩ := one h
    exact bcc.2
  · unfold L2.start
    show _ = N.length
    rw [List.length_append, List.length_map, List.length_replicate]
    omega

/-! ### where the running def is known -/
structure PEA (X : Cx) (c : List Stmt) (e : Expr) (t : TE) : Prop where
  run : ∀ (pins : List (Addr × Obj)) (s : Shared) (σ : L2.St) (H : Hp) (Q : VK), Inv X pins σ H s → t σ H Q → PySem.wpAt (model X.prog X.w) X.A (.func c X.env) (eval e X.env) (EP X pins σ Q) X.xe s
structure PSA (X : Cx) (c : List Stmt) (st : Stmt) (t : TS) : Prop where
  run : ∀ (pins : List (Addr × Obj)) (s : Shared) (σ : L2.St) (H : Hp) (D : Ends), Inv X pins σ H s → t D σ H → PySem.wpAt (model X.prog X.w) X.A (.func c X.env) (exec st X.env) (SP X pins D) X.xe s
structure PSsA (X : Cx) (c : List Stmt) (st : List Stmt) (t : TS) : Prop where
  run : ∀ (pins : List (Addr × Obj)) (s : Shared) (σ : L2.St) (H : Hp) (D : Ends), Inv X pins σ H s → t D σ H → PySem.wpAt (model X.prog X.w) X.A (.func c X.env) (execs st X.env) (SP X pins D) X.xe s
section
variable {X : Cx} {c : List Stmt} {st : Stmt} {sts : List Stmt} {e : Expr} {t u : TS} {te : TE} {pos : Pos}
theorem pea_of (h : PE X e te) : PEA X c e te := ⟨fun pins s σ H Q I q => wpAt_of_wpAny (h.run pins s σ H Q I q)⟩
theorem psa_of (h : PS X st t) : PSA X c st t := ⟨fun pins s σ H D I q => wpAt_of_wpAny (h.run pins s σ H D I q)⟩
theorem pssa_of (h : PSs X sts t) : PSsA X c sts t := ⟨fun pins s σ H D I q => wpAt_of_wpAny (h.run pins s σ H D I q)⟩
theorem pssa_cons (h1 : PSA X c st t) (h2 : PSsA X c sts u) : PSsA X c (st :: sts) (tSeq t u) := by
  refine ⟨fun pins s σ H D I q => ks_wpAt_execs_cons (ks_wpAt_mono (h1.run pins s σ H _ I q) (fun fl s' hs => ?_) fun _ _ z => z)⟩
  cases fl with
  | next =>
    obtain ⟨σ', H', J, z⟩ := hs
    exact h2.run pins s' σ' H' D J z
  | ret _ => exact hs
  | brk => exact hs
  | cont => exact hs
theorem psa_expr (he : PEA X c e te) (hs : swapsWith e none pos.line X.env = pure false := by rfl) : PSA X c (.Expr e pos) (tDrop te) :=
  ⟨fun pins s σ H D I q => ks_wpAt_Expr_any (ks_wpAt_mono (he.run pins s σ H _ I q) (fun v s' ⟨_, H', J, _, z⟩ => ⟨σ, H', J, z⟩) fun _ _ z => z) I.quiet hs⟩
theorem psa_ret (he : PEA X c e te) : PSA X c (.Return (some e) pos) (tRet te) :=
  ⟨fun pins s σ H D I q => ks_wpAt_Return_some (ks_wpAt_mono (he.run pins s σ H _ I q) (fun v s' ⟨x, H', J, r, z⟩ => ⟨x, σ, H', J, r, z⟩) fun _ _ z => z)⟩
end
/-- THE RULE for such a def -/
theorem fn_ofS {CX : CXT} {P : Program} {w : World} {K : PySem.W.Frag} {mg : Str → Option Value} {base : Heap} {x qual : Str} {params : Arguments} {body : List Stmt} {scope : Scope} {dvs : List V} {kws : List (Str × V)} {f cc : Addr} {fd : FuncData} {N ps : List Str} {k : Nat} {sp : Sp} {oc : Obj} {cv : Option Value}
    (F : FG K x qual params body scope [("__class__", cc)] dvs kws f fd) (hcc : K.lookup cc = some oc) (hcd : oc.data = .cell cv) (S : SupScope N ps scope) (len : ∀ vs H Q E, sp vs H Q E → vs.length = ps.length)
    (hbody : ∀ (cdv : Value) (A : Around) (outer : List Env) (s : Shared) (H : Hp) (vs : List V) (Q : VK) (E : XK), PySem.W.codeIn K cdv qual = true → (∃ oc od osl, K.lookup f = some ⟨oc, od, .func fd, osl⟩) → fd.params = params → fd.code = cdv → Room k (A.deeper (envS qual scope s.heap.objs.size f cdv cc)) → sp vs H Q E →
      ∃ t, PSsA (cxS CX P w K mg base N qual scope f cdv cc A outer s H E) body body t ∧ t { nx := fun _ H' => Q .non H', rt := Q } (L2.start N vs) H) : FnOk P w K mg base CX (k + 1) f fd ps sp := by
  obtain ⟨osl, od, an, ocl, dV, kV, doc, pm, cdv, ct, rfl, lk, hc, _, _⟩ := F.ex
  refine ⟨len, fun A outer s H args us vs Q E hr e0 hb r hsp => ?_⟩
  have hl := len _ _ _ _ hsp
  have KX : K.In s.heap := e0.mod.kin.keeps fun b o e => (e0.bs b o e).1
  have lim : s.heap.NoLimit := e0.mod.nolimit.keeps fun b o e => (e0.bs b o e).1
  refine ks_codeAny_call_defAt hr.depth (KX _ _ lk) rfl lim (PySem.W.codeRec_of KX hc) rfl hb S.nocell (fun y hy => S.par y.1 (List.of_mem_zip hy).1) (fun h₁ hns kp => ?_) S.co S.gen S.kind
  obtain ⟨t, ht, hq⟩ := hbody cdv A outer s H vs Q E hc ⟨_, _, _, lk⟩ rfl rfl (hr.deeper _) hsp
  have I : Inv (cxS CX P w K mg base N qual scope f cdv cc A outer s H E) [] (L2.start N vs) H { s with heap := h₁, toks := s.toks + (ps.zip us).length } := inv_startS S hr.hd e0 hl r hcc hcd hns kp
  refine ks_wpAt_mono (ht.run [] _ _ H _ I hq) (fun fl s' hs => ?_) fun e s' hs => hs
  have fin : ∀ {σ' : L2.St} {H' : Hp} {v : V} {u : Value}, Inv (cxS CX P w K mg base N qual scope f cdv cc A outer s H E) [] σ' H' s' → RelV v u → Q v H' → CE outer P w H s Q u s' :=
    fun {σ' H' v u} J rv q => ⟨v, H', J.os, J.bare, J.base, J.hok, rv, q⟩
  cases fl with
  | ret u =>
    obtain ⟨v, σ', H', J, rv, q⟩ := hs
    exact fin J rv q
  | next =>
    obtain ⟨σ', H', J, q⟩ := hs
    exact fin (v := V.non) (u := Value.none) J rfl q
  | brk =>
    obtain ⟨_, _, _, q⟩ := hs
    exact False.elim q
  | cont =>
    obtain ⟨_, _, _, q⟩ := hs
    exact False.elim q
end VT

namespace VT
open PySem PySem.Spec PyProof.Rows L2

/-! ### super() -/
structure SupX (X : Cx) (D : Addr) (sf : Str) : Prop where
  ks : X.env.kindOf "super" = some .globalImplicit
  kc : X.env.kindOf "__class__" = some .free
  ka : X.env.kindOf sf = some .local
  n0 : X.N[0]? = some sf
  def_ : ∃ f of fd ar, X.env.func = some f ∧ X.K.lookup f = some of ∧ of.data = .func fd ∧ (fd.params.posonlyargs ++ fd.params.args).head? = some ar ∧ ar.arg = sf
  code : ∃ cda oc vs file tf, X.env.code = .ref cda ∧ X.K.lookup cda = some oc ∧ oc.data = .fields vs ∧ vs[2]? = some (.str file tf) ∧ ((X.prog.main.file : Str) == file) = true
  cell : ∃ cc oc, X.env.cells.lookup ("__class__" : Str) = some cc ∧ X.K.lookup cc = some oc ∧ oc.data = .cell (some (.ref D))
  top : (X.prog.main.scope.names.lookup ("super" : Str)).isSome = false
  mg : X.mg "super" = none
  cls : (PySem.W.clsIn X.K D).isSome = true
  opq : PySem.W.nsIn X.K cStatics "thirdparty.any" = some none
section
variable {X : Cx} {pins : List (Addr × Obj)} {σ : L2.St} {H : Hp} {s : Shared} {c : List Stmt} {D x C : Addr} {self attr : Str} {ox : Obj} {p0 p1 : Pos} {whole : Sem Value} {Q : Value → Shared → Prop} {E : Value → Shared → Prop}
/-- super(), at an object of the class at C -/
theorem sup_base (T : SupX X D self) (I : Inv X pins σ H s) (hx : s.heap.get? x = some ox) (hxc : ox.cls = .ref C) (hnc : ∀ k, ox.data ≠ .cls k) (hsub : PySem.W.mroIn X.K C (.ref D) = some true) (h0 : σ[0]? = some (some (.ref x))) (hat : (attr == ("__class__" : Str)) = false)
    (h : ∀ so s', Inv X ((so, PySem.W.ks_superObj D x C) :: pins) σ H s' → (∀ b o, s.heap.get? b = some o → s'.heap.get? b = some o) → Q (.ref so) s') :
    PySem.wpAt (model X.prog X.w) X.A (.func c X.env) (attributeBase (.Call (.Name "super" p0) [] [] p1) attr X.env whole) Q E s := by
  obtain ⟨f, of, fd, ar, ef, lf, df, hp, ha⟩ := T.def_
  obtain ⟨cda, oc, vs, file, tf, ec, lc, dc, hv, hfile⟩ := T.code
  obtain ⟨cc, ocl, el, lcl, dcl⟩ := T.cell
  obtain ⟨cd, hcd⟩ := Option.isSome_iff_exists.mp T.cls
  obtain ⟨oD, hD1, hD2⟩ : ∃ oD, s.heap.get? D = some oD ∧ oD.data = .cls cd := by
    unfold PySem.W.clsIn at hcd
    split at hcd
    · rename_i c d cd' sl ho
      cases hcd
      exact ⟨_, I.kIn _ _ ho, rfl⟩
    · cases hcd
  obtain ⟨mL, hns, hl⟩ := I.loc
  obtain ⟨u, ru, lk⟩ := hl 0 self (.ref x) T.n0 h0 (.inl T.ka)
  obtain rfl : u = Value.ref x := ru
  have hself : mL self = some (.ref x) := by
    rcases lk with ⟨_, e⟩ | ⟨k, _⟩
    · exact e
    · rw [T.ka] at k
      rcases k with k | k <;> cases k
  obtain ⟨mb, hb1, hb2⟩ := I.mod.blt
  refine ks_wpAt_super_base T.ks T.kc hat ef (I.kIn _ _ lf) df hp ec (I.kIn _ _ lc) dc hv hfile T.top ?_
  refine PySem.W.ks_loadName_global I.ok.kind T.ks (Calls.loadGlobal_builtin (by rw [I.ok.glob]; exact I.mod.glob.keeps I.bk) T.mg (by rw [I.ok.blt]; exact hb1.keeps I.bk) ((hb2 _ (by decide +kernel)).trans (show bootBuiltins "super" = some (.type "super") by decide +kernel)) ⟨rfl, ?_⟩)
  refine wpAny_loadName_free I.ok.kind T.kc el ⟨_, I.kIn _ _ lcl, dcl⟩ ?_
  rw [ha]
  refine wpAny_loadName_local I.ok.kind T.ka hns hself ?_
  obtain ⟨hh, g, d, t, os⟩ := s
  refine ks_wpAny_isType_cls hD1 hD2 ⟨rfl, ?_⟩
  refine ks_wpAny_call_super hD1 hD2 hx hxc hnc (PySem.W.looks_mroIn I.kIn hsub) fun h' e k => ?_
  exact h _ _ (ClX.pin_new (t' := t) I k (Nat.le_refl _) e fun v z => by cases z) k
end

/-! ### exceptions being made -/
/-- a built-in base -/
structure XBase (B newId initId : String) (bmB : List Value) : Prop where
  sf : StoreFacts B bmB "object.__setattr__" "object"
  fb : ExcBaseFacts B newId initId bmB
  kf : PySem.W.KxsFacts B initId
theorem xb_VE : XBase "ValueError" "ValueError.__new__" "ValueError.__init__" [.type "ValueError", .type "Exception", .type "BaseException", .type "object"] := ⟨PySem.F.store_ValueError, PySem.F.excBase_ValueError, PySem.W.kxs_ValueError⟩
theorem xb_LE : XBase "LookupError" "LookupError.__new__" "LookupError.__init__" [.type "LookupError", .type "Exception", .type "BaseException", .type "object"] := ⟨PySem.F.store_LookupError, PySem.F.excBase_LookupError, PySem.W.kxs_LookupError⟩
theorem xb_IE : XBase "IndexError" "IndexError.__new__" "IndexError.__init__" [.type "IndexError", .type "LookupError", .type "Exception", .type "BaseException", .type "object"] := ⟨PySem.F.store_IndexError, PySem.F.excBase_IndexError, PySem.W.kxs_IndexError⟩
/-- an own class over it -/
structure XCls (K : PySem.W.Frag) (B newId initId : String) (bmB : List Value) (C : Addr) : Prop where
  ini : PySem.W.excInitIn K C bmB newId = true
  over : PySem.W.excOver K C bmB = true
  sa : PySem.W.findIn K (.ref C) "__setattr__" = some (some (.builtin "object.__setattr__"))
  sub : PySem.W.subIn K (.ref C) (.type "BaseException") = some true
  subB : PySem.W.subIn K (.ref C) (.type B) = some true
  ty : PySem.W.typeIn K (.ref C) = some (.type "type")
  keep : PySem.W.keepIn K (.ref C) = true
  dict : ∃ cd, PySem.W.clsIn K C = some cd ∧ cd.hasDict = true
section
variable {X : Cx} {pins : List (Addr × Obj)} {σ : L2.St} {H : Hp} {s : Shared} {a C D u dx : Addr} {us : List Value} {Q : Value → Shared → Prop} {E : Value → Shared → Prop} {A : Around} {B newId initId : String} {bmB : List Value} {f : Str} {y : V} {uv : Value} {fs : List (Str × V)}
theorem xinst (I : Inv X pins σ H s) (e : H a = some (exo a C none)) : ∃ t1 : Addr, s.heap.get? a = some (PySem.W.excRec (.ref C) t1 none .none .none (.bool false)) ∧ PySem.W.InstAt s.heap a (PySem.W.excRec (.ref C) t1 none .none .none (.bool false)) C none := by
  obtain ⟨t1, ho⟩ := exo_at I.hok e
  exact ⟨t1, ho, ho, rfl, rfl, trivial⟩
/-- super().__init__, bound to the exception, called -/
theorem xinit_ok (xb : XBase B newId initId bmB) (T : XCls X.K B newId initId bmB C) (I : Inv X ((u, PySem.W.kxs_mw initId a) :: pins) σ H s) (e : H a = some (exo a C none)) (hl : us.length ≤ sizeLine) (h : ∀ s', Inv X pins σ H s' → Q .none s') :
    wpAny (model X.prog X.w) A (call (.ref u) us) Q E s := by
  obtain ⟨nm, N, qn, bs, bm, hdct, sn, sub, ab, col, dd, k0, k1, k2, k3, k5, hC, hT⟩ := PySem.W.excInit_of I.kIn T.ini
  have hu := ClX.pin_at I
  obtain ⟨t1, ho, _⟩ := xinst I e
  have I0 := ClX.unpin I
  obtain ⟨hp, g, d, t, os⟩ := s
  have mw : ∀ z : Value, ((Value.type "method-wrapper" == Value.type "method") = false) ∧ ((Value.type "method-wrapper" == Value.type "builtin_function_or_method") = false) ∧ ((Value.type "method-wrapper" == Value.type "method-wrapper") = true) := fun _ => ⟨by decide, by decide, by decide⟩
  refine wpAny_call (codeAny_of_tree ?_)
  show wpAny _ _ (callAny (.ref u) ⟨us, []⟩) _ _ _
  simp only [callAny]
  refine wpAny_bind (wpAny_load hu ?_)
  simp only [PySem.W.kxs_mw, (mw .none).1, (mw .none).2.1, (mw .none).2.2, Bool.false_or, Bool.or_true, if_true]
  refine PySem.W.KFB.if_so (by decide) ?_
  refine wpAny_bind (PySem.W.check_bound_init xb.fb.toExcCallFacts hC ho rfl (wpAny_bind (wpAny_pure (wpAny_pure ?_))))
  refine ⟨plainId_quiet xb.fb.init.plain _, codeAny_builtin xb.fb.initEntry ?_⟩
  refine PySem.W.exc_init_tree ho hl fun h' k e' _ => ?_
  have J := I0.write (t' := t) (x := a) (e := a) (o := exo a C none) (by rw [e]; exact True.intro) (.inl rfl) k ⟨_, e'⟩ (exo_ok e')
  have eu : upd H a (exo a C none) = H := by
    funext b
    by_cases hb : b = a
    · rw [hb, upd_same, e]
    · rw [upd_ne hb]
  rw [eu] at J
  exact h _ J
end
end VT

namespace VT
open PySem PySem.Spec PyProof.Rows L2

section
variable {X : Cx} {pins : List (Addr × Obj)} {σ : L2.St} {H : Hp} {s : Shared} {a C D u dx : Addr} {us : List Value} {E : Value → Shared → Prop} {A : Around} {B newId initId : String} {bmB : List Value} {f self : Str} {y : V} {uv : Value} {fs : List (Str × V)} {c : List Stmt} {e o : Expr} {es : List Expr} {ta : TA} {te to : TE} {p0 p1 apos pos p p' : Pos}
/-! ### super().__init__(..) of an exception -/
def tXs (K : PySem.W.Frag) (D : Addr) (ta : TA) : TE := fun σ H Q => ∃ (a C : Addr) (B newId initId : String) (bmB : List Value), XBase B newId initId bmB ∧ XCls K B newId initId bmB C ∧ PySem.W.mroIn K C (.ref D) = some true ∧ PySem.W.ks_superIn K C D "__init__" = some (some (.builtin initId)) ∧
  σ[0]? = some (some (.ref a)) ∧ H a = some (exo a C none) ∧ ta σ H fun vs H1 => H1 a = some (exo a C none) ∧ vs.length ≤ 1000 ∧ Q .non H1
theorem keepsMw {i : String} : Keeps X (.ref u) (fun h => h.get? u = some (PySem.W.kxs_mw i a)) := fun h k => by
  refine ⟨.machine, .inr (.inl rfl), (PySem.W.Looks.ld (part := none) k).andThen ?_⟩
  exact .now
theorem pea_xsup {pl : Sem Bool} (T : SupX X D self) (ha : PA X (e :: es) ta) (he : starEach (e :: es) X.env = (false, eval e X.env) :: starEach es X.env := by rfl) (hpl : (backTo pos (starEach es X.env)).any (·.1) = false := by rfl)
    (ht : eval (.Call (.Attribute (.Call (.Name "super" p0) [] [] p1) "__init__" apos) (e :: es) [] pos) X.env = (do
      let ov ← attributeBase (.Call (.Name "super" p0) [] [] p1) "__init__" X.env (eval (.Call (.Name "super" p0) [] [] p1) X.env)
      standAt apos.atName
      let (f, first) ← holding [ov] (getMethod ov "__init__" pl)
      callWith pos f first (backTo pos (starEach (e :: es) X.env)) []) := by rfl) :
    PEA X c (.Call (.Attribute (.Call (.Name "super" p0) [] [] p1) "__init__" apos) (e :: es) [] pos) (tXs X.K D ta) := by
  refine ⟨fun pins s σ H Q I h => ?_⟩
  obtain ⟨a, C, B, newId, initId, bmB, xb, T2, hsub, hm, h0, ea, hta⟩ := h
  obtain ⟨t1, ho, _⟩ := xinst I ea
  refine ks_wpAt_MethodCall ?_ ht
  refine sup_base T I ho rfl (fun k z => by cases z) hsub h0 rfl fun so s1 I1 _ => ?_
  obtain ⟨t2, _, J⟩ := xinst I1 ea
  have hu := ClX.pin_at I1
  obtain ⟨hh, g, d, t, os⟩ := s1
  cases hc : PySem.W.clsIn X.K C with
  | none => unfold PySem.W.ks_superIn at hm; rw [hc] at hm; cases hm
  | some cd =>
    unfold PySem.W.ks_superIn at hm
    rw [hc] at hm
    have hI : PySem.W.Looks (model X.prog X.w) hh (isInstance (.ref a) (.type B)) true := J.type.andThen (PySem.W.looks_subIn I1.kIn T2.subB)
    refine PySem.W.kxs_getMethod xb.kf hu (PySem.W.looks_opaque I1.kIn T.opq) (l₀ := cd.mro) ?_ rfl I1.kIn hm hI (PySem.W.ks_ne I1.kIn J hc) rfl ?_
    · exact fun A Q E s k q => wpAny_bind ((PySem.W.looks_clsIn I1.kIn hc) A _ E s k (wpAny_pure q))
    have I2 := ClX.pin_new (t' := t + 1) (o := PySem.W.kxs_mw initId a) (h' := hh.push (PySem.W.kxs_mw initId a)) I1 (fun b o z => Heap.get?_push_of_some _ z) (Nat.le_refl _) (Heap.get?_push_at rfl rfl) (fun v z => by cases z)
    show wpAny _ _ (callWith pos (.ref hh.objs.size) [] (backTo pos (starEach (e :: es) X.env)) []) _ _ _
    rw [he]
    refine PySem.W.callWith_of (P := fun h => h.get? hh.objs.size = some (PySem.W.kxs_mw initId a)) (by show ((false || (backTo pos (starEach es X.env)).any (·.1)) || false) = false; rw [hpl]; rfl) (keepsMw (X := X)) (Calls.evalArgs_plain ?_)
    have r := ha.run pos _ _ σ H _ I2 hta
    rw [he] at r
    refine thn r fun us s3 ⟨vs, H1, I3, rv, e3, hl, q⟩ => ⟨ClX.pin_at I3, ?_⟩
    exact xinit_ok xb T2 I3 e3 (by show us.length ≤ sizeLine; rw [← rv.length, sizeLine_eq]; omega) fun s' J => ⟨.non, H1, ClX.unpin J, rfl, q⟩

/-! ### self.f = e of an exception -/
theorem xd_new {h' : Heap} {t1 tk : Nat} (I : Inv X pins σ H s) (ea : H a = some (exo a C none)) (ry : RelV y uv) (k : ∀ b o, b ≠ a → s.heap.get? b = some o → h'.get? b = some o) (dn : s.heap.objs.size ≤ dx) (dne : dx ≠ a)
    (hx : h'.get? a = some (PySem.W.excRec (.ref C) t1 (some dx) .none .none (.bool false))) (hn : h'.Ns1 dx (fun z => if z = f then some uv else none)) :
    Inv X pins σ (upd (upd H dx (exd dx [(f, y)])) a (exo a C (some dx))) { s with heap := h', toks := tk } := by
  have hnd : H dx = none := I.hok.fresh dn
  have old : ∀ {b : Addr} {o : Obj}, s.heap.get? b = some o → b ≠ dx := fun {b o} q => Nat.ne_of_lt (Nat.lt_of_lt_of_le (Heap.lt_size q) dn)
  have off : ∀ {b : Addr}, H b = none → b ≠ a := fun {b} n z => by
    rw [z, ea] at n
    cases n
  have keepT : ∀ {b : Addr} {u : HO}, H b = some u → exo a C none ≠ u → upd (upd H dx (exd dx [(f, y)])) a (exo a C (some dx)) b = some u := fun {b u} q n => by
    rw [upd_ne (at_ne ea q n), upd_ne (ne_of_none q hnd)]
    exact q
  refine I.un (t' := tk) ⟨fun b o q n _ _ => k b o (off n) q, fun b o q n _ _ => ⟨o.slots, k b o (off n) q⟩, fun b o q n _ => ?_, fun b o q _ => ?_, fun b xs q => keepT q exo_tup, fun b o v q => keepT q exo_frz, fun b ps q => ⟨#[], by rw [keepT q exo_tbl]; simp⟩⟩ fun b o q => ?_
  · rw [upd_ne (off n), upd_ne (old q)]
    exact n
  · by_cases hb : b = a
    · exact ⟨_, by rw [hb]; exact hx⟩
    · exact ⟨o, k b o hb q⟩
  · by_cases hb : b = a
    · subst hb
      rw [upd_same] at q
      cases q
      exact exo_ok hx
    rw [upd_ne hb] at q
    by_cases hd : b = dx
    · subst hd
      rw [upd_same] at q
      cases q
      exact exd_ok hn (relO_put (fs := []) ry fun g => True.intro)
    rw [upd_ne hd] at q
    refine (I.hok b o q).stay (fun c v hc z => k c v ?_ z) (fun c hc => keepT hc exo_own) fun c xs hc => keepT hc exo_tup
    rcases hc with hc | hc
    · rw [hc]
      exact hb
    · exact at_ne ea hc exo_own
theorem xst_new {Q : Unit → Shared → Prop} (xb : XBase B newId initId bmB) (T : XCls X.K B newId initId bmB C) (I : Inv X pins σ H s) (ea : H a = some (exo a C none)) (hno : PySem.W.findIn X.K (.ref C) f = some none) (ry : RelV y uv)
    (h : ∀ dx s', H dx = none → dx ≠ a → Inv X pins σ (upd (upd H dx (exd dx [(f, y)])) a (exo a C (some dx))) s' → Q () s') : wpAny (model X.prog X.w) A (setAttr (.ref a) f uv) Q E s := by
  obtain ⟨cd, hcd, hh⟩ := T.dict
  obtain ⟨t1, ho, J⟩ := xinst I ea
  have KX := I.kIn
  obtain ⟨hp, g, d, t, os⟩ := s
  refine PySem.W.set_plain KX J T.sa (PySem.W.osa_openX xb.sf KX J T.over (r := none) (by unfold PySem.W.takerIn; rw [hno]; rfl) fun b => ?_)
  have hcls : PySem.W.Looks (model X.prog X.w) hp (classData C) cd := PySem.W.looks_clsIn KX hcd
  have hxs : a ≠ hp.objs.size := Nat.ne_of_lt (Heap.lt_size ho)
  obtain ⟨nm, bs, mro, ns, qn, hd, sn, sb, ab, col, dl⟩ := cd
  dsimp only at hh
  subst hh
  dsimp only
  unfold Builtin.ObjectAttr.storeInOwnDict Builtin.ObjectAttr.ownDictForStores
  repeat (first | with_reducible refine PySem.HandSPX.store_in_new ?_ ?_ | with_reducible refine wpAny_loadPart_at ho ?_ | with_reducible refine hcls.at ?_ | wp_step)
  · exact ⟨_, #[], _, (Heap.get?_update_ne _ _ _ _ hxs.symm).trans (Heap.get?_push_at rfl rfl), rfl, fun e he => absurd he (by simp), fun _ => rfl⟩
  · intro h' tk' hn' hs
    have ho1 : (hp.push { cls := .type "dict", data := .dict #[] }).get? a = some (PySem.W.excRec (.ref C) t1 none .none .none (.bool false)) := Heap.get?_push_of_some _ ho
    refine h hp.objs.size _ (I.hok.fresh (Nat.le_refl _)) hxs.symm (xd_new (t1 := t1) (tk := tk') I ea ry (fun b o hb hbo => ?_) (Nat.le_refl _) hxs.symm ?_ hn')
    · exact (hs.2 b (Nat.ne_of_lt (Heap.lt_size hbo))).trans ((Heap.get?_update_ne _ _ _ _ hb).trans (Heap.get?_push_of_some _ hbo))
    · exact (hs.2 a hxs).trans (Heap.get?_update_self _ ho1 rfl)
theorem xst_old {Q : Unit → Shared → Prop} (xb : XBase B newId initId bmB) (T : XCls X.K B newId initId bmB C) (I : Inv X pins σ H s) (ea : H a = some (exo a C (some dx))) (ed : H dx = some (exd dx fs)) (hl : fs.length ≤ 900) (hno : PySem.W.findIn X.K (.ref C) f = some none) (ry : RelV y uv)
    (h : ∀ s', Inv X pins σ (upd H dx (exd dx ((f, y) :: fs))) s' → Q () s') : wpAny (model X.prog X.w) A (setAttr (.ref a) f uv) Q E s := by
  obtain ⟨cd, hcd, hh⟩ := T.dict
  obtain ⟨t1, ho⟩ := exo_at I.hok ea
  obtain ⟨mA, hns, rel⟩ := exd_at I.hok ed
  have hw := within_of rel
  have KX := I.kIn
  obtain ⟨hp, g, d, t, os⟩ := s
  obtain ⟨oD, _, _, hoD, _, _⟩ := hns.count hw
  have J : PySem.W.InstAt hp a (PySem.W.excRec (.ref C) t1 (some dx) .none .none (.bool false)) C (some oD) := ⟨ho, rfl, rfl, hoD⟩
  refine PySem.W.set_plain KX J T.sa (PySem.W.osa_openX xb.sf KX J T.over (r := none) (by unfold PySem.W.takerIn; rw [hno]; rfl) fun b => ?_)
  have hcls : PySem.W.Looks (model X.prog X.w) hp (classData C) cd := PySem.W.looks_clsIn KX hcd
  obtain ⟨nm, bs, mro, ns, qn, hd, sn, sb, ab, col, dl⟩ := cd
  dsimp only at hh
  subst hh
  dsimp only
  unfold Builtin.ObjectAttr.storeInOwnDict Builtin.ObjectAttr.ownDictForStores
  repeat (first | with_reducible refine PySem.OEX.store_in_old hns hw (by rw [List.length_map]; omega) ?_ | with_reducible refine wpAny_loadPart_at ho ?_ | with_reducible refine hcls.at ?_ | wp_step)
  intro h' tk' hn hs
  have there : ∃ o, h'.get? dx = some o := by
    obtain ⟨o, _, _, e', _⟩ := hn
    exact ⟨o, e'⟩
  exact h _ (I.write (t' := tk') (x := dx) (e := dx) (o := exd dx ((f, y) :: fs)) (by rw [ed]; exact True.intro) (.inl rfl) (fun b o hb hbo => (hs.2 b hb).trans hbo) there (exd_ok hn (relO_put ry rel)))
/-- an own exception class over some base -/
def XC (K : PySem.W.Frag) (C : Addr) : Prop := ∃ B newId initId bmB, XBase B newId initId bmB ∧ XCls K B newId initId bmB C
def tXst (K : PySem.W.Frag) (f : Str) (to te : TE) : TS := fun D σ H => te σ H fun y H1 => to σ H1 fun x H2 => ∃ a C : Addr, x = .ref a ∧ XC K C ∧ PySem.W.findIn K (.ref C) f = some none ∧
  ((H2 a = some (exo a C none) ∧ ∀ dx, H2 dx = none → dx ≠ a → D.nx σ (upd (upd H2 dx (exd dx [(f, y)])) a (exo a C (some dx)))) ∨
    ∃ (dx : Addr) (fs : List (Str × V)), H2 a = some (exo a C (some dx)) ∧ H2 dx = some (exd dx fs) ∧ fs.length ≤ 900 ∧ D.nx σ (upd H2 dx (exd dx ((f, y) :: fs))))
theorem ps_xst (ho : PE X o to) (he : PE X e te) (hs : swapsWith e (some (.Attribute o f p')) pos.line X.env = pure false := by rfl) : PS X (.Assign [.Attribute o f p'] e pos) (tXst X.K f to te) := by
  refine ⟨fun pins s σ H D I h => plainObj_wpAny_Assign_Attribute (thn (he.run pins s σ H _ I h) fun v s1 ⟨y, H1, I1, r1, q1⟩ => thn (ho.run pins s1 σ H1 _ I1 q1) fun u s2 ⟨x, H2, I2, r2, a, C, ex, ⟨B, newId, initId, bmB, xb, T⟩, hno, q⟩ => ?_) hs⟩
  subst ex
  obtain rfl : u = Value.ref a := r2
  rcases q with ⟨ea, q⟩ | ⟨dx, fs, ea, ed, hl, q⟩
  · exact xst_new xb T I2 ea hno r1 fun dx s' n ne J => ⟨σ, _, J, q dx n ne⟩
  · exact xst_old xb T I2 ea ed hl hno r1 fun s' J => ⟨σ, _, J, q⟩
end
end VT

namespace VT
open PySem PySem.Spec PyProof.Rows L2

/-! ### what the written part says of a def that says super() -/
def ccA (K : PySem.W.Frag) (f : Addr) : Addr := match K.lookup f with
  | some ⟨_, _, .func fd, _⟩ => (match fd.closure with
    | [(_, c)] => c
    | _ => 0)
  | _ => 0
def valS (d : He.DefD) (cc : Addr) : He.FnW := some (d.name, d.qual, d.params, .stmts d.body, d.scope, mainGlobals, [("__class__", cc)], builtinsNs)
theorem fgS {K : PySem.W.Frag} {d : He.DefD} {a : Addr} (e : fnA K a = valS d (ccA K a)) (c : okA K d a = true) : ∃ fd, FG K d.name d.qual d.params d.body d.scope [("__class__", ccA K a)] (d.dvs K) (d.kws K) a fd := by
  unfold okA at c
  rw [Bool.and_eq_true] at c
  obtain ⟨kp, c2⟩ := c
  unfold fnA at e
  cases q : K.lookup a with
  | none => rw [q] at c2; cases c2
  | some ob =>
    obtain ⟨oc, od, dt, osl⟩ := ob
    rw [q] at c2 e
    cases dt with
    | func fd =>
      generalize ccA K a = cc at e
      obtain ⟨m1, m2, m3, m4, m5, m6, m7, m8, m9, m10, m11, m12, m13, m14, m15⟩ := fd
      have e2 : (some (m1, m2, m3, m4, m5, m6, m7, m15) : He.FnW) = some (d.name, d.qual, d.params, FuncBody.stmts d.body, d.scope, mainGlobals, [(("__class__" : Str), cc)], builtinsNs) := e
      simp only [Option.some.injEq, Prod.mk.injEq] at e2
      obtain ⟨rfl, rfl, rfl, rfl, rfl, rfl, rfl, rfl⟩ := e2
      have c3 : (PySem.W.codeIn K m13 d.qual && (He.dflB K m8 (d.dvs K) && He.kwdB K m9 (d.kws K))) = true := c2
      rw [Bool.and_eq_true, Bool.and_eq_true] at c3
      obtain ⟨k1, k3, k4⟩ := c3
      exact ⟨_, ⟨osl, od, m12, oc, m8, m9, m10, m11, m13, m14, rfl, q, k1, He.dflB_ok k3, He.kwdB_ok k4⟩, kp⟩
    | _ => cases c2
/-- the code object's file -/
def fileB (P : Program) (K : PySem.W.Frag) (cd : Value) : Bool := match cd with
  | .ref c => (match K.lookup c with
    | some ⟨_, _, .fields vs, _⟩ => (match vs[2]? with
      | some (Value.str file _) => ((P.main.file : Str) == file)
      | _ => false)
    | _ => false)
  | _ => false
theorem fileB_ok {P : Program} {K : PySem.W.Frag} {cd : Value} (h : fileB P K cd = true) : ∃ cda oc vs file tf, cd = .ref cda ∧ K.lookup cda = some oc ∧ oc.data = .fields vs ∧ vs[2]? = some (.str file tf) ∧ ((P.main.file : Str) == file) = true := by
  unfold fileB at h
  split at h
  · rename_i c
    split at h
    · rename_i vs _ lk
      split at h
      · rename_i file tf hv
        exact ⟨c, _, vs, file, tf, rfl, lk, rfl, hv, h⟩
      · cases h
    · cases h
  · cases h
def supB (P : Program) (K : PySem.W.Frag) (f D : Addr) : Bool := (match K.lookup f with
    | some ⟨_, _, .func fd, _⟩ => fileB P K fd.code
    | _ => false) && ((match K.lookup (ccA K f) with
    | some ⟨_, _, .cell (some (.ref D')), _⟩ => D' == D
    | _ => false) && ((PySem.W.clsIn K D).isSome && (decide (PySem.W.nsIn K cStatics "thirdparty.any" = some none) && !(P.main.scope.names.lookup ("super" : Str)).isSome)))
/-- what a super() in the def at f, of the class at D, wants -/
structure SupK (P : Program) (K : PySem.W.Frag) (mg : Str → Option Value) (f D : Addr) : Prop where
  ok : supB P K f D = true
  mg : mg "super" = none
theorem SupK.cell {P : Program} {K : PySem.W.Frag} {mg : Str → Option Value} {f D : Addr} (T : SupK P K mg f D) : ∃ oc, K.lookup (ccA K f) = some oc ∧ oc.data = .cell (some (.ref D)) := by
  have h := T.ok
  unfold supB at h
  simp only [Bool.and_eq_true] at h
  obtain ⟨_, h2, _⟩ := h
  split at h2
  · rename_i D' _ lk
    rw [beq_iff_eq] at h2
    rw [← h2]
    exact ⟨_, lk, rfl⟩
  · cases h2
theorem supx_of {CX : CXT} {P : Program} {w : World} {K : PySem.W.Frag} {mg : Str → Option Value} {base : Heap} {N : List Str} {qual self : Str} {scope : Scope} {f D : Addr} {cdv : Value} {A : Around} {outer : List Env} {s : Shared} {H : Hp} {E : XK} {params : Arguments} {fd : FuncData} {ar : Arg}
    (T : SupK P K mg f D) (lk : ∃ oc od osl, K.lookup f = some ⟨oc, od, .func fd, osl⟩) (hp : fd.params = params) (hcd : fd.code = cdv) (hh : (params.posonlyargs ++ params.args).head? = some ar) (ha : ar.arg = self)
    (ks : scope.names.lookup ("super" : Str) = some .globalImplicit) (kc : scope.names.lookup ("__class__" : Str) = some .free) (ka : scope.names.lookup self = some .local) (n0 : N[0]? = some self) :
    SupX (cxS CX P w K mg base N qual scope f cdv (ccA K f) A outer s H E) D self := by
  obtain ⟨oc, od, osl, lk⟩ := lk
  have hok := T.ok
  unfold supB at hok
  rw [lk] at hok
  simp only [Bool.and_eq_true, decide_eq_true_eq, Bool.not_eq_true'] at hok
  obtain ⟨h1, _, h3, h4, h5⟩ := hok
  subst hp hcd
  obtain ⟨ocl, e1, e2⟩ := T.cell
  exact ⟨ks, kc, ka, n0, ⟨f, _, fd, ar, rfl, lk, rfl, hh, ha⟩, fileB_ok h1, ⟨_, ocl, rfl, e1, e2⟩, h5, T.mg, h3, h4⟩

/-! ### an exception's __init__ -/
/-- what it makes of the exception at a: its dict's fields -/
def spXin (C : Addr) (np : Nat) (mk : List V → List (Str × V)) : Sp := fun vs H Q _ => ∃ a ws, vs = .ref a :: ws ∧ ws.length = np ∧ H a = some (exo a C none) ∧
  ∀ dx H', H dx = none → dx ≠ a → H' a = some (exo a C (some dx)) → H' dx = some (exd dx (mk ws)) → (∀ b, b ≠ a → b ≠ dx → H' b = H b) → Q .non H'
section
variable {P : Program} {w : World} {K : PySem.W.Frag} {mg : Str → Option Value} {base : Heap} {d : He.DefD} {f C D : Addr} {fl cn t : Str} {j j2 : Nat} {p0 p1 p2 p3 p4 p5 p6 p7 p8 p9 p10 p11 p12 p13 : Pos} {ar : Arg}
/-- what the written part says of the class at C, whose __init__ (at f) stands in the class at D -/
structure XKind (K : PySem.W.Frag) (C D f : Addr) : Prop where
  xc : ∃ B newId initId bmB, XBase B newId initId bmB ∧ XCls K B newId initId bmB C ∧ PySem.W.ks_superIn K C D "__init__" = some (some (.builtin initId))
  sub : PySem.W.mroIn K C (.ref D) = some true
  code : PySem.W.findIn K (.ref C) "code" = some none
  init : PySem.W.findIn K (.ref C) "__init__" = some (some (.ref f))
  fn : PySem.W.typeIn K (.ref f) = some (.type "function")
theorem XKind.xcls {K : PySem.W.Frag} {C D f : Addr} (h : XKind K C D f) : XC K C := by
  obtain ⟨B, newId, initId, bmB, xb, T, _⟩ := h.xc
  exact ⟨B, newId, initId, bmB, xb, T⟩
theorem xin_ok1 (X : XKind K C D f) (hfl : PySem.W.findIn K (.ref C) fl = some none) (T : SupK P K mg f D) (F : ∃ fd, FG K d.name d.qual d.params d.body d.scope [("__class__", ccA K f)] [] [] f fd) (S : SupScope ["self", fl] ["self", fl] d.scope)
    (hb : d.body = [.Expr (.Call (.Attribute (.Call (.Name "super" p0) [] [] p1) "__init__" p2) [.Constant (.str t) j p3] [] p4) p5, .Assign [.Attribute (.Name "self" p6) "code" p7] (.Constant (.str cn) j2 p8) p9, .Assign [.Attribute (.Name "self" p10) fl p11] (.Name fl p12) p13])
    (ht : ∀ env : Env, ∃ pl : Sem Bool, eval (.Call (.Attribute (.Call (.Name "super" p0) [] [] p1) "__init__" p2) [.Constant (.str t) j p3] [] p4) env = (do
      let ov ← attributeBase (.Call (.Name "super" p0) [] [] p1) "__init__" env (eval (.Call (.Name "super" p0) [] [] p1) env)
      standAt p2.atName
      let (f, first) ← holding [ov] (getMethod ov "__init__" pl)
      callWith p4 f first (backTo p4 (starEach [.Constant (.str t) j p3] env)) []))
    (hh : (d.params.posonlyargs ++ d.params.args).head? = some ar) (ha : ar.arg = "self") (ks : d.scope.names.lookup ("super" : Str) = some .globalImplicit) (kc : d.scope.names.lookup ("__class__" : Str) = some .free) (hne : (fl == ("__debug__" : Str)) = false) (hne2 : (fl == ("__classdict__" : Str)) = false) :
    ∃ fd, FG K d.name d.qual d.params d.body d.scope [("__class__", ccA K f)] [] [] f fd ∧ FnOk P w K mg base CX0 1 f fd ["self", fl] (spXin C 1 fun ws => [(fl, ws.getD 0 .non), ("code", .str cn)]) := by
  obtain ⟨fd, F⟩ := F
  obtain ⟨oc, e1, e2⟩ := T.cell
  obtain ⟨B, newId, initId, bmB, xb, TC, hm⟩ := X.xc
  refine ⟨fd, F, fn_ofS F e1 e2 S (fun vs H Q E ⟨a, ws, ev, hl, _⟩ => by rw [ev, List.length_cons, hl]; rfl) fun cdv A outer s H vs Q E hc lk hp hcd hr hsp => ?_⟩
  obtain ⟨a, ws, rfl, hl, ea, hq⟩ := hsp
  obtain ⟨y, rfl⟩ : ∃ y, ws = [y] := by
    match ws, hl with
    | [y], _ => exact ⟨y, rfl⟩
  have SX : SupX (cxS CX0 P w K mg base ["self", fl] d.qual d.scope f cdv (ccA K f) A outer s H E) D "self" := supx_of T lk hp hcd hh ha ks kc (S.par _ (List.mem_cons_self ..)) rfl
  have vs0 : Vis d.scope "self" := .inl (S.par _ (List.mem_cons_self ..))
  have vs1 : Vis d.scope fl := .inl (S.par _ (List.mem_cons_of_mem _ (List.mem_cons_self ..)))
  obtain ⟨pl, ht⟩ := ht (cxS CX0 P w K mg base _ d.qual d.scope f cdv (ccA K f) A outer s H E).env
  rw [hb]
  refine ⟨_, pssa_cons (psa_expr (pea_xsup SX (pa_cons pe_str pa_nil) (ht := ht))) (pssa_of (pss_cons (ps_xst (pe_var (i := 0) rfl vs0) pe_str) (pss_one (ps_xst (pe_var (i := 0) rfl vs0) (pe_var (i := 1) rfl vs1 hne hne2))))), ?_⟩
  refine ⟨a, C, B, newId, initId, bmB, xb, TC, X.sub, hm, rfl, ea, ea, by show 1 ≤ 1000; decide, _, rfl, a, C, rfl, X.xcls, X.code, .inl ⟨ea, fun dx hdx hda => ?_⟩⟩
  have e3 : (upd (upd H dx (exd dx [("code", .str cn)])) a (exo a C (some dx))) dx = some (exd dx [("code", .str cn)]) := by rw [upd_ne hda, upd_same]
  refine ⟨y, rfl, _, rfl, a, C, rfl, X.xcls, hfl, .inr ⟨dx, _, upd_same, e3, by show 1 ≤ 900; decide, ?_⟩⟩
  refine hq dx _ hdx hda ?_ upd_same fun b h1 h2 => ?_
  · rw [upd_ne (Ne.symm hda), upd_same]
  · rw [upd_ne h2, upd_ne h1, upd_ne h2]
theorem xin_ok0 (X : XKind K C D f) (T : SupK P K mg f D) (F : ∃ fd, FG K d.name d.qual d.params d.body d.scope [("__class__", ccA K f)] [] [] f fd) (S : SupScope ["self"] ["self"] d.scope)
    (hb : d.body = [.Expr (.Call (.Attribute (.Call (.Name "super" p0) [] [] p1) "__init__" p2) [.Constant (.str t) j p3] [] p4) p5, .Assign [.Attribute (.Name "self" p6) "code" p7] (.Constant (.str cn) j2 p8) p9])
    (ht : ∀ env : Env, ∃ pl : Sem Bool, eval (.Call (.Attribute (.Call (.Name "super" p0) [] [] p1) "__init__" p2) [.Constant (.str t) j p3] [] p4) env = (do
      let ov ← attributeBase (.Call (.Name "super" p0) [] [] p1) "__init__" env (eval (.Call (.Name "super" p0) [] [] p1) env)
      standAt p2.atName
      let (f, first) ← holding [ov] (getMethod ov "__init__" pl)
      callWith p4 f first (backTo p4 (starEach [.Constant (.str t) j p3] env)) []))
    (hh : (d.params.posonlyargs ++ d.params.args).head? = some ar) (ha : ar.arg = "self") (ks : d.scope.names.lookup ("super" : Str) = some .globalImplicit) (kc : d.scope.names.lookup ("__class__" : Str) = some .free) :
    ∃ fd, FG K d.name d.qual d.params d.body d.scope [("__class__", ccA K f)] [] [] f fd ∧ FnOk P w K mg base CX0 1 f fd ["self"] (spXin C 0 fun _ => [("code", .str cn)]) := by
  obtain ⟨fd, F⟩ := F
  obtain ⟨oc, e1, e2⟩ := T.cell
  obtain ⟨B, newId, initId, bmB, xb, TC, hm⟩ := X.xc
  refine ⟨fd, F, fn_ofS F e1 e2 S (fun vs H Q E ⟨a, ws, ev, hl, _⟩ => by rw [ev, List.length_cons, hl]; rfl) fun cdv A outer s H vs Q E hc lk hp hcd hr hsp => ?_⟩
  obtain ⟨a, ws, rfl, hl, ea, hq⟩ := hsp
  obtain rfl : ws = [] := List.eq_nil_of_length_eq_zero hl
  have SX : SupX (cxS CX0 P w K mg base ["self"] d.qual d.scope f cdv (ccA K f) A outer s H E) D "self" := supx_of T lk hp hcd hh ha ks kc (S.par _ (List.mem_cons_self ..)) rfl
  have vs0 : Vis d.scope "self" := .inl (S.par _ (List.mem_cons_self ..))
  obtain ⟨pl, ht⟩ := ht (cxS CX0 P w K mg base _ d.qual d.scope f cdv (ccA K f) A outer s H E).env
  rw [hb]
  refine ⟨_, pssa_cons (psa_expr (pea_xsup SX (pa_cons pe_str pa_nil) (ht := ht))) (pssa_of (pss_one (ps_xst (pe_var (i := 0) rfl vs0) pe_str))), ?_⟩
  refine ⟨a, C, B, newId, initId, bmB, xb, TC, X.sub, hm, rfl, ea, ea, by show 1 ≤ 1000; decide, _, rfl, a, C, rfl, X.xcls, X.code, .inl ⟨ea, fun dx hdx hda => ?_⟩⟩
  refine hq dx _ hdx hda upd_same ?_ fun b h1 h2 => ?_
  · rw [upd_ne hda, upd_same]
  · rw [upd_ne h1, upd_ne h2]
end
end VT

namespace VT
open PySem PySem.Spec PyProof.Rows L2

/-! ### an exception is made, raised -/
/-- the class x, at C, whose __init__ takes np values: the exception's fields -/
structure XMk (P : Program) (w : World) (K : PySem.W.Frag) (mg : Str → Option Value) (base : Heap) (x : Str) (C : Addr) (np : Nat) (mkD : List D → List (Str × D)) : Prop where
  gl : mg x = some (.ref C)
  ex : ∃ D f fd ps mk, XKind K C D f ∧ FnOk P w K mg base CX0 1 f fd ps (spXin C np mk) ∧ (∀ (s : Shared) (us : List Value), us.length = np + 1 → BindsTo s fd ⟨us, []⟩ (ps.zip us)) ∧ ∀ F ds vs, reps F ds vs → ds.length = np → repf F (mkD ds) (mk vs)
section
variable {P : Program} {w : World} {K : PySem.W.Frag} {mg : Str → Option Value} {base : Heap} {d : He.DefD} {f C D : Addr} {fl cn x : Str}
theorem xmk_1 (X : XKind K C D f) (hm : mg x = some (.ref C)) (hc : okS cn) (h : ∃ fd, FG K d.name d.qual d.params d.body d.scope [("__class__", ccA K f)] [] [] f fd ∧ FnOk P w K mg base CX0 1 f fd ["self", fl] (spXin C 1 fun ws => [(fl, ws.getD 0 .non), ("code", .str cn)]))
    (hb : ∀ (cl : List (Str × Addr)) (kV doc pm cdv ct : Value) (an : Option Addr) (us : List Value), us.length = 2 → bindArgs (PySem.W.fnX d.name d.qual d.params d.body d.scope cl .none kV doc pm an cdv ct) ⟨us, []⟩ = pure ((["self", fl] : List Str).zip us)) :
    XMk P w K mg base x C 1 fun ds => [(fl, ds.getD 0 .non), ("code", .str cn)] := by
  obtain ⟨fd, F, hF⟩ := h
  obtain ⟨osl, od, an, oc, dV, kV, doc, pm, cdv, ct, rfl, lk, hcd, hD, hK⟩ := F.ex
  refine ⟨hm, D, f, _, _, _, X, hF, fun s us hl => ?_, fun F ds vs r hl => ?_⟩
  · rcases hD with ⟨_, rfl⟩ | ⟨e, _⟩
    · exact .of_eq (hb _ kV doc pm cdv ct an us hl)
    · exact absurd rfl e
  · match ds, hl with
    | [y], _ =>
      obtain ⟨v, t, rfl, rv, rt⟩ := r
      exact ⟨_, _, rfl, rv, _, _, rfl, ⟨rfl, hc⟩, rfl⟩
theorem xmk_0 (X : XKind K C D f) (hm : mg x = some (.ref C)) (hc : okS cn) (h : ∃ fd, FG K d.name d.qual d.params d.body d.scope [("__class__", ccA K f)] [] [] f fd ∧ FnOk P w K mg base CX0 1 f fd ["self"] (spXin C 0 fun _ => [("code", .str cn)]))
    (hb : ∀ (cl : List (Str × Addr)) (kV doc pm cdv ct : Value) (an : Option Addr) (us : List Value), us.length = 1 → bindArgs (PySem.W.fnX d.name d.qual d.params d.body d.scope cl .none kV doc pm an cdv ct) ⟨us, []⟩ = pure ((["self"] : List Str).zip us)) :
    XMk P w K mg base x C 0 fun _ => [("code", .str cn)] := by
  obtain ⟨fd, F, hF⟩ := h
  obtain ⟨osl, od, an, oc, dV, kV, doc, pm, cdv, ct, rfl, lk, hcd, hD, hK⟩ := F.ex
  refine ⟨hm, D, f, _, _, _, X, hF, fun s us hl => ?_, fun F ds vs r hl => ?_⟩
  · rcases hD with ⟨_, rfl⟩ | ⟨e, _⟩
    · exact .of_eq (hb _ kV doc pm cdv ct an us hl)
    · exact absurd rfl e
  · exact ⟨_, _, rfl, ⟨rfl, hc⟩, rfl⟩
end
section
variable {X : Cx} {EX : EXT} {pins : List (Addr × Obj)} {σ : L2.St} {H : Hp} {s : Shared} {C D f : Addr} {fd : FuncData} {ps : List Str} {np : Nat} {mk : List V → List (Str × V)} {mkD : List VT.D → List (Str × VT.D)} {x : Str} {p pos pos2 : Pos} {e : Expr} {es : List Expr} {ta : TA} {ga : GA} {vs : List V} {us : List Value} {Q : XK}
theorem run_xmk (XD : XKind X.K C D f) (Fn : FnOk X.prog X.w X.K X.mg X.base CX0 1 f fd ps (spXin C np mk)) (hb : ∀ (s : Shared) (us : List Value), us.length = np + 1 → BindsTo s fd ⟨us, []⟩ (ps.zip us)) (hr : Room 2 X.A) (I : Inv X pins σ H s) (rv : Vals vs us) (hl : vs.length = np) (hz : np ≤ 1000)
    (q : ∀ dx, H dx = none → Q (.ref C) (some dx) (upd H dx (.xd (mk vs)))) : wpAny (model X.prog X.w) X.A (call (.ref C) us) (MkP X pins σ Q) X.xe s := by
  obtain ⟨B, newId, initId, bmB, xb, T, _⟩ := XD.xc
  obtain ⟨nm, N, qn, bs, bm, hdct, sn, sub, ab, col, dd, k0, k1, k2, k3, k5, hC, hT⟩ := PySem.W.excInit_of I.kIn T.ini
  have hi := XD.init
  have hty := XD.fn
  obtain ⟨hp, g, dr, tk, os⟩ := s
  have hsz : hp.objs.size ≤ hp.objs.size + 1 := Nat.le_succ _
  have hn : H (hp.objs.size + 1) = none := I.hok.fresh hsz
  have hul : us.length ≤ sizeLine := by rw [← rv.length, sizeLine_eq, hl]; omega
  have kk : ∀ b o, hp.get? b = some o → ((hp.push (PySem.W.kdv_tup us)).push (PySem.HandSPX.excO C hp.objs.size)).get? b = some o := fun b o e => Heap.get?_push_of_some _ (Heap.get?_push_of_some _ e)
  have hget : ((hp.push (PySem.W.kdv_tup us)).push (PySem.HandSPX.excO C hp.objs.size)).get? (hp.objs.size + 1) = some (PySem.HandSPX.excO C hp.objs.size) := Heap.get?_push_at (Heap.size_push _ _).symm rfl
  have I2 : Inv X pins σ (upd H (hp.objs.size + 1) (exo (hp.objs.size + 1) C none)) ⟨(hp.push (PySem.W.kdv_tup us)).push (PySem.HandSPX.excO C hp.objs.size), g, dr, tk, os⟩ := I.laid (t' := tk) kk hsz (exo_ok hget)
  have n1 : (Value.ref (hp.objs.size + 1) :: us).length = np + 1 := by rw [List.length_cons, ← rv.length, hl]
  refine wpAny_call (PySem.HandSPX.call_own xb.fb hT hC (PySem.W.looks_findIn I.kIn hi) (fun self => PySem.W.bind_fn I.kIn self hty) hul
    (codeAny_mono (Fn.run _ X.stack _ _ ⟨Value.ref (hp.objs.size + 1) :: us, []⟩ (Value.ref (hp.objs.size + 1) :: us) (V.ref (hp.objs.size + 1) :: vs)
      (fun v H2 => v = .non ∧ ∃ dx, H dx = none ∧ dx ≠ hp.objs.size + 1 ∧ H2 (hp.objs.size + 1) = some (exo (hp.objs.size + 1) C (some dx)) ∧ H2 dx = some (exd dx (mk vs)) ∧ ∀ b, b ≠ hp.objs.size + 1 → b ≠ dx → H2 b = H b) (fun _ _ _ => False)
      (hr.make C us []) (I2.env0.make C us []) (hb _ _ n1) (.cons rfl rv) ⟨_, vs, rfl, hl, upd_same, fun dx H' h1 h2 h3 h4 h5 => ⟨rfl, dx, ?_, h2, h3, h4, fun b b1 b2 => (h5 b b1 b2).trans (upd_ne b1)⟩⟩) fun r s' hq => ?_))
  · rw [upd_ne h2] at h1
    exact h1
  cases r with
  | error er => exact (show False from hq).elim
  | ok fl =>
    cases fl with
    | ret u =>
      obtain ⟨v, H2, os2, bare2, un2, hok2, rv2, ev, dx, hdx, hne, ea, ed, off⟩ := hq
      subst ev
      obtain ⟨h2, g2, d2, t2, os'⟩ := s'
      have eH : upd (L2.del H2 (hp.objs.size + 1)) dx (.xd (mk vs)) = upd H dx (.xd (mk vs)) := by
        funext b
        by_cases h1 : b = dx
        · rw [h1, upd_same, upd_same]
        rw [upd_ne h1, upd_ne h1]
        by_cases h3 : b = hp.objs.size + 1
        · rw [h3, L2.del_same, hn]
        · rw [L2.del_ne h3, off b h3 h1]
      exact ⟨rv2, mk_end (raises_own T.sub T.ty) I hsz kk un2 hok2 os2 bare2 ea ed hdx (by rw [eH]; exact q dx hdx)⟩
    | next => exact False.elim hq
    | brk => exact False.elim hq
    | cont => exact False.elim hq
def tXmk (C : Addr) (np : Nat) (mk : List V → List (Str × V)) (ta : TA) : L2.St → Hp → XK → Prop := fun σ H Q => ta σ H fun vs H1 => vs.length = np ∧ np ≤ 1000 ∧ ∀ dx, H1 dx = none → Q (.ref C) (some dx) (upd H1 dx (.xd (mk vs)))
@[simp] def gRaise (EX : EXT) (C : Addr) (np : Nat) (mkD : List VT.D → List (Str × VT.D)) (ga : GA) : GS := fun _ S => ga S fun svs => onTrs svs fun ds => ds.length = np ∧ np ≤ 1000 ∧ EX C (mkD ds) S
theorem wv_new {G0 G : Gh} {H0 : Hp} {S : S} {dx : Addr} {fs : List (Str × VT.D)} {ws : List (Str × V)} (R : Rel G0 H0 G H σ S) (hdx : H dx = none) (r : repf G.F fs ws) (q : EX C fs S) : WV EX G0 H0 (.ref C) (some dx) σ (upd H dx (.xd ws)) := by
  have E := ext_frz R.ok hdx (.xd ws)
  exact ⟨_, S, C, dx, fs, ws, rfl, rfl, R.go E, upd_same, repf.mono (upd_mono (R.ok.nF hdx)) _ _ r, q⟩
theorem vs_raise (M : XMk X.prog X.w X.K X.mg X.base x C np mkD) (hr : Room 2 X.A) (hc : X.calm = true) (hg : Gl X x) (ha : VA X EX (e :: es) ga) (hdb : (x == ("__debug__" : Str)) = false := by decide) (he : starEach (e :: es) X.env = (false, eval e X.env) :: starEach es X.env := by rfl)
    (hpl : (backTo pos (starEach es X.env)).any (·.1) = false := by rfl) : VS X EX (.Raise (some (.Call (.Name x p) (e :: es) [] pos)) none pos2) (gRaise EX C np mkD ga) := by
  obtain ⟨D, f, fd, ps, mk, XD, Fn, hb, hrel⟩ := M.ex
  obtain ⟨_, _, _, _, _, T, _⟩ := XD.xc
  refine ⟨fun G0 H0 tk => psMono (ps_raise (t := tXmk C np mk (TAV G0 H0 ga)) hc tk.takes fun pins s σ H Q I h => ?_) fun D' σ H ⟨G, S, DV, R, q, k⟩ => ⟨G, S, _, R, q, fun vs H1 G1 svs E1 r1 q1 => ?_⟩⟩
  · refine wpAny_Call_Name_kw (ld_glob I hg M.gl ?_ hdb)
    refine PySem.W.callWith_K (h₀ := X.base) I.ok.mod.kin T.keep (thn ((ha.pa G0 H0 tk).run pos pins s σ H _ I h) fun us s1 ⟨vs, H1, I1, rv, hl, hz, q⟩ => ⟨I1.kIn, ?_⟩) he hpl
    exact run_xmk XD Fn hb hr I1 rv hl hz q
  · obtain ⟨ds, rd, hl, hz, q2⟩ := onTrs_of r1 q1
    exact ⟨rd.length.trans hl, hz, fun dx hdx => wv_new (R.go E1) hdx (hrel _ _ _ rd hl) q2⟩
theorem vs_raise0 (M : XMk X.prog X.w X.K X.mg X.base x C 0 mkD) (hr : Room 2 X.A) (hc : X.calm = true) (hg : Gl X x) (hdb : (x == ("__debug__" : Str)) = false := by decide) :
    VS X EX (.Raise (some (.Call (.Name x p) [] [] pos)) none pos2) (gRaise EX C 0 mkD gaNil) := by
  obtain ⟨D, f, fd, ps, mk, XD, Fn, hb, hrel⟩ := M.ex
  obtain ⟨_, _, _, _, _, T, _⟩ := XD.xc
  refine ⟨fun G0 H0 tk => psMono (ps_raise (t := tXmk C 0 mk tNil) hc tk.takes fun pins s σ H Q I h => ?_) fun D' σ H ⟨G, S, DV, R, q, k⟩ => ?_⟩
  · refine wpAny_Call_Name_kw (ld_glob I hg M.gl ?_ hdb)
    exact PySem.W.callWith_K0 I.kIn T.keep (run_xmk (us := []) (vs := []) XD Fn hb hr I .nil rfl (by decide) h.2.2)
  · obtain ⟨_, _, q2⟩ := q
    exact ⟨rfl, by decide, fun dx hdx => wv_new R hdx (hrel _ [] [] rfl rfl) q2⟩
end
end VT

namespace VT
open PySem PySem.Spec PyProof.Rows L2

/-! ### which exceptions a clause takes -/
/-- the clause's expression: b tells whether an exception of the class cls is taken -/
structure ExT (X : Cx) (tx : Expr) (mt : Value → Option Bool) : Prop where
  run : ∀ (a : Addr) (oe : Obj) (pn pins : List (Addr × Obj)) (σ : L2.St) (H : Hp) (s : Shared) (cls : Value) (b : Bool) (Q : Bool → Shared → Prop) (E : Value → Shared → Prop), Inv (X.suite a ((a, oe) :: pn)) pins σ H s → PySem.W.Looks (model X.prog X.w) s.heap (typeOf (.ref a)) cls → mt cls = some b →
    (∀ h' t', Inv (X.suite a ((a, oe) :: pn)) pins σ H { s with heap := h', toks := t' } → (∀ c o, s.heap.get? c = some o → h'.get? c = some o) → Q b { s with heap := h', toks := t' }) →
    wpAny (model X.prog X.w) (X.A.mark (some (.ref a))) (eval tx X.env) (fun c s1 => wpAny (model X.prog X.w) (X.A.mark (some (.ref a))) (excMatches (.ref a) c) Q E s1) E s
section
variable {X : Cx} {x x2 x3 : Str} {c c2 c3 : Value} {p p2 p3 pos : Pos} {k : Nat}
theorem look_suite {a : Addr} {oe : Obj} {pn pins : List (Addr × Obj)} {σ : L2.St} {H : Hp} {s : Shared} {Q : Value → Shared → Prop} {E : Value → Shared → Prop} (I : Inv (X.suite a ((a, oe) :: pn)) pins σ H s) (hc : Names X x c) (q : Q c s) : wpAny (model X.prog X.w) (X.A.mark (some (.ref a))) (eval (.Name x p) X.env) Q E s := by
  obtain ⟨hg, hdbg, hm | ⟨hm, hv, hnn⟩⟩ := hc
  · exact ld_glob (X := X.suite a ((a, oe) :: pn)) I hg hm q hdbg
  · exact ld_blt (X := X.suite a ((a, oe) :: pn)) I hg hm hv q hnn hdbg
theorem ext_name (hc : Names X x c) : ExT X (.Name x p) (fun cls => PySem.W.exmOne X.K cls c) :=
  ⟨fun a oe pn pins σ H s cls b Q E I LT hb hq => look_suite I hc ((PySem.W.exm_one (M := model X.prog X.w) I.kIn LT hb).here (hq s.heap s.toks I fun _ _ z => z))⟩
theorem ext_tup3 (h1 : Names X x c) (h2 : Names X x2 c2) (h3 : Names X x3 c3)
    (hs1 : starEach [.Name x p, .Name x2 p2, .Name x3 p3] X.env = (false, eval (.Name x p) X.env) :: starEach [.Name x2 p2, .Name x3 p3] X.env := by rfl) (hs2 : starEach [.Name x2 p2, .Name x3 p3] X.env = (false, eval (.Name x2 p2) X.env) :: starEach [.Name x3 p3] X.env := by rfl)
    (hs3 : starEach [.Name x3 p3] X.env = (false, eval (.Name x3 p3) X.env) :: starEach [] X.env := by rfl) : ExT X (.Tuple [.Name x p, .Name x2 p2, .Name x3 p3] k pos) (fun cls => PySem.W.exmAny X.K cls [c, c2, c3]) := by
  refine ⟨fun a oe pn pins σ H s cls b Q E I LT hb hq => ?_⟩
  refine wpAny_Tuple_spliced ?_
  rw [hs1]
  refine Calls.spliced_cons (look_suite I h1 ?_)
  rw [hs2]
  refine Calls.spliced_cons (look_suite I h2 ?_)
  rw [hs3]
  refine Calls.spliced_cons (look_suite I h3 (Calls.spliced_nil ⟨by show 3 ≤ sizeLine; decide, ?_⟩))
  have J := I.kept (t' := s.toks) (h' := s.heap.push { cls := .type "tuple", data := .seq [c, c2, c3].toArray }) fun b u e => Heap.get?_push_of_some _ e
  have kp : ∀ (b : Addr) (u : Obj), s.heap.get? b = some u → (s.heap.push ({ cls := .type "tuple", data := .seq [c, c2, c3].toArray } : Obj)).get? b = some u := fun b u e => Heap.get?_push_of_some _ e
  have LT' := LT.keeps kp
  exact (PySem.W.exm_tup3 (M := model X.prog X.w) J.kIn LT' (Heap.get?_push_size _ rfl) hb).here (hq _ s.toks J kp)
end

/-! ### try: body, except tx as n: suite -/
/-- an exception in flight stays so where the heap grows -/
theorem flying_keeps {B h h' : Heap} {l : List Env} {a : Addr} {Z : Obj → Prop} (f : HandSPX.FlyingZ B l a Z h) (k : ∀ b o, h.get? b = some o → h'.get? b = some o) : HandSPX.FlyingZ B l a Z h' := by
  obtain ⟨h1, h2, h3, oe, vs, T, oT, ts, e1, e2, e3, e4, e5, e6, e7, e8, e9⟩ := f
  exact ⟨fun b o e => k b o (h1 b o e), h2, Heap.FunFrames.of_keeps (fun b o e _ => ⟨o, k b o e, rfl⟩) h3, oe, vs, T, oT, ts, k _ _ e1, e2, e3, e4, e5, e6, k _ _ e7, e8, e9⟩
/-- the exception's wish at the clause: slot i is n's -/
def wCl (mt : Value → Option Bool) (i : Nat) (ts : Addr → Value → Option Addr → TS) (Wout : WX) (D : Ends) : WX := fun cls d σ H => ∃ b, mt cls = some b ∧
  (b = true → ∀ a, H a = none → ts a cls d { nx := fun σ' H' => D.nx (σ'.set i none) H', rt := D.rt, bk := fun σ' H' => D.bk (σ'.set i none) H', ct := fun σ' H' => D.ct (σ'.set i none) H' } (σ.set i (some (.ref a))) H) ∧ (b = false → Wout cls d σ H)
section
variable {X : Cx} {n : Str} {tx : Expr} {mt : Value → Option Bool} {i : Nat} {body suite : List Stmt} {b0 : Stmt} {pos pos' : Pos} {tb : WX → TS} {ts : Addr → Value → Option Addr → TS} {Wout : WX}
theorem ps_try_cl (hs : X.stack = X.env :: X.outer) (hf : X.env.frame = some X.env.locals) (hN : X.N.Nodup) (hi : X.N[i]? = some n) (hln : X.env.kindOf n = some .local) (hT : ExT X tx mt) (tk : Takes X Wout)
    (hb : ∀ (W : WX) (pn : List (Addr × Obj)) (xe : Value → Shared → Prop), Takes (X.tr pn xe) W → PassesOwn (model X.prog X.w) X.A X.env xe → PSs (X.tr pn xe) body (tb W))
    (hsu : ∀ (a : Addr) (oe : Obj) (cls : Value) (d : Option Addr) (pn : List (Addr × Obj)), Zc cls d oe → (∃ vs, oe.data = .fields vs) → X.base.get? a = none → PSs (X.suite a ((a, oe) :: pn)) (b0 :: suite) (ts a cls d)) :
    PS X (.Try body [.ExceptHandler (some tx) (some n) (b0 :: suite) pos'] [] [] pos) (fun D σ H => tb (wCl mt i ts Wout D) D σ H) := by
  refine ⟨fun pins s σ H D I h => ?_⟩
  have ok := I.ok
  have hfr : X.A.frames = some (X.env :: X.outer) := by rw [ok.frames, hs]
  have hloc : Loc X.env.scope n := .inl hln
  refine wpAny_Try_except (wpAny_mono ((hb (wCl mt i ts Wout D) (X.pn ++ pins) (fun e s1 => wpAny (model X.prog X.w) X.A (noteFrame e X.env) (fun _ s2 => wpAny (model X.prog X.w) X.A (setFlight e none) (fun _ s3 =>
    wpAny (model X.prog X.w) X.A (handleBy e X.env [.ExceptHandler (some tx) (some n) (b0 :: suite) pos']) (SP X pins D) X.xe s3) X.xe s2) X.xe s1) (fun u s' xx => ?_) PassesOwn.looking).run [] s σ H D (I.toTry _) h) (fun f s1 hsp => ?_) (fun e s1 he => he))
  · obtain ⟨a, B, sI, pins', σ', H', cls, d, rfl, J', nb, up, sky, na, os, ag, b, hb1, hyes, hno⟩ := xx
    have J : Inv X pins σ' H' sI := J'.ofTry ok
    have sky' : Sky B (X.env :: X.outer) a (Zc cls d) X.env.locals s'.heap := by rw [← hs]; exact sky
    show wpAny (model X.prog X.w) X.A (noteFrame (.ref a) X.env) _ _ _
    refine Sky.land Zc.steady hfr hf sky' fun h3 fl3 up3 => ?_
    have J3 : Inv X pins σ' H' { s' with heap := h3 } := J.landed nb fl3.1 (up.trans up3) os ag
    have hbase : X.base.get? a = none := by
      cases e : X.base.get? a with
      | none => rfl
      | some o =>
        have z := nb a o (J.bk a o e) fun hm => by
          obtain ⟨_, o', e', hnf⟩ := J.stack.mem hm
          have e2 := fl3.1
          rw [J.bk a o e] at e'
          cases e'
          obtain ⟨oe3, vs3, he3, _, hd3⟩ := fl3.there
          have hfl := fl3.2.1
          have q1 := (J3.bk a o e)
          rw [show ({ s' with heap := h3 } : Shared).heap.get? a = some oe3 from he3] at q1
          cases q1
          exact hnf _ hd3
        rw [fl3.2.1] at z
        cases z
    obtain ⟨oe3, vs3, he3, hz3, hd3⟩ := fl3.there
    have nfr : a ∉ frs (X.env :: X.outer) := fun hm => by
      obtain ⟨_, o', e', hnf⟩ := fl3.2.2.1.mem hm
      rw [he3] at e'
      cases e'
      exact hnf _ hd3
    have nL : a ≠ X.env.locals := fun z => nfr (List.mem_filterMap.mpr ⟨X.env, List.mem_cons_self, by rw [hf, z]⟩)
    have nF : a ∉ X.fs := fun hm => by
      obtain ⟨e, he, q⟩ := List.mem_filterMap.mp hm
      exact nfr (List.mem_filterMap.mpr ⟨e, List.mem_cons_of_mem _ he, q⟩)
    have S3 := J3.suite he3 hd3 na nL nF
    refine wpAny_handleBy_cons (codeAny_handlers_test ?_) (by intro q; cases q)
    have LT : PySem.W.Looks (model X.prog X.w) h3 (typeOf (.ref a)) cls := fun A Q E s k q => wpAny_typeOf_ref (k _ _ he3) (by rw [hz3.1]; exact q)
    refine hT.run a oe3 (X.pn ++ pins) [] σ' H' _ cls b _ _ S3 LT hb1 fun h5 t5 S5 kp => ?_
    have fl5 := flying_keeps fl3 kp
    have up5 : s'.heap.UpToSlots h5 := up3.trans (Heap.UpToSlots.of_keeps kp)
    cases b with
    | true =>
      refine codeAny_handlers_suite_as (HandSPX.lands_againZ (s := { s' with heap := h5, toks := t5 }) fl5 fun h4 fl4 up4 => ?_)
      have J4 : Inv X pins σ' H' { s' with heap := h4, toks := t5 } := J.landed nb fl4.1 ((up.trans up5).trans up4) os ag
      obtain ⟨oe4, vs4, he4, hz4, hd4⟩ := fl4.there
      have S4 := J4.suite he4 hd4 na nL nF
      refine store_ok (X := X.suite a ((a, oe4) :: (X.pn ++ pins))) (v := .ref a) S4 hN hi hloc rfl (fun s6 S6 => ?_) (.inr hln)
      refine wpAny_mono ((hsu a oe4 cls d (X.pn ++ pins) hz4 ⟨_, hd4⟩ hbase).run [] s6 _ H' _ S6 (hyes rfl a na)) (fun f s7 hsp => ?_) (fun _ _ z => False.elim z)
      have back : ∀ {σ7 : L2.St} {H7 : Hp} {Q : Shared → Prop}, Inv (X.suite a ((a, oe4) :: (X.pn ++ pins))) [] σ7 H7 s7 → (∀ s8, Inv X pins (σ7.set i none) H7 s8 → Q s8) →
          wpAny (model X.prog X.w) X.A (do bindName X.env n .none; unbindBehindTheSuite X.env n pos') (fun _ s8 => Q s8) X.xe s7 := fun {σ7 H7 Q} S7 hq => gone_ok (S7.unsuite ok) hN hi hln hq
      cases f with
      | next =>
        obtain ⟨_, _, S7, q7⟩ := hsp
        exact back S7 fun _ J8 => ⟨_, _, J8, q7⟩
      | brk =>
        obtain ⟨_, _, S7, q7⟩ := hsp
        exact back S7 fun _ J8 => ⟨_, _, J8, q7⟩
      | cont =>
        obtain ⟨_, _, S7, q7⟩ := hsp
        exact back S7 fun _ J8 => ⟨_, _, J8, q7⟩
      | ret u =>
        obtain ⟨_, _, _, S7, r7, q7⟩ := hsp
        exact back S7 fun _ J8 => ⟨_, _, _, J8, r7, q7⟩
    | false =>
      show wpAny _ X.A (handleBy (.ref a) X.env []) _ _ _
      refine wpAny_handleBy_nil ?_
      obtain ⟨_, _, _, oe, vs, T, oT, ts', he, _, hd, h1, _⟩ := id fl5
      unfold PySem.passOn
      refine wpAny_bind (wpAny_field he hd h1 ?_)
      rw [if_neg (show ¬ ((Value.ref T == Value.none) = true) from by simp)]
      have fin : wpAny (model X.prog X.w) X.A (setFlight (.ref a) X.env.frame) (fun _ s4 => wpAny (model X.prog X.w) X.A (throw (.ref a) : Sem Flow) (SP X pins D) X.xe s4) X.xe { s' with heap := h5, toks := t5 } := by
        rw [hf]
        refine HandSPX.setFlight_upZ fl5 fun h4 hh4 up4 => wpAny_throw (tk _ _ ?_)
        exact ⟨a, B, sI, pins, σ', H', cls, d, rfl, J, nb, (up.trans up5).trans up4, .inr (.inr (by rw [hs]; exact hh4)), na, os, ag, hno rfl⟩
      first
        | exact wpAny_bind (wpAny_pure (wpAny_bind fin))
        | exact wpAny_bind fin
  · cases f with
    | next =>
      obtain ⟨_, _, J', q⟩ := hsp
      exact wpAny_execs_nil ⟨_, _, J'.ofTry ok, q⟩
    | brk =>
      obtain ⟨_, _, J', q⟩ := hsp
      exact ⟨_, _, J'.ofTry ok, q⟩
    | cont =>
      obtain ⟨_, _, J', q⟩ := hsp
      exact ⟨_, _, J'.ofTry ok, q⟩
    | ret u =>
      obtain ⟨_, _, _, J', r, q⟩ := hsp
      exact ⟨_, _, _, J'.ofTry ok, r, q⟩
end
end VT

namespace VT
open PySem PySem.Spec PyProof.Rows L2

/-! ### try, with trees -/
section
variable {G0 G G' : Gh} {H0 H H' : Hp} {σ : L2.St} {S : S}
theorem ext_rebase (E : Ext G0 H0 G H) : Ext ⟨G.F, G0.pb, G0.T⟩ H0 G H := ⟨E.ok, E.same, E.tbl, E.tt, E.pb, E.pnew, fun _ _ h => h, fun _ _ h => .inl h⟩
theorem ext_unbase (E : Ext G0 H0 G H) (E' : Ext ⟨G.F, G0.pb, G0.T⟩ H0 G' H') : Ext G0 H0 G' H' :=
  ⟨E'.ok, E'.same, E'.tbl, E'.tt, E'.pb, E'.pnew, fun b o h => E'.frz b o (E.frz b o h), fun b o h => (E'.new b o h).elim (fun z => E.new b o z) .inr⟩
theorem rel_rebase (R : Rel G0 H0 G H σ S) : Rel ⟨G.F, G0.pb, G0.T⟩ H0 G H σ S := ⟨ext_rebase R.ext, R.len, R.slot, R.sep, R.nopk⟩
theorem rel_unbase {σ' : L2.St} {S' : VT.S} (E : Ext G0 H0 G H) (R : Rel ⟨G.F, G0.pb, G0.T⟩ H0 G' H' σ' S') : Rel G0 H0 G' H' σ' S' := ⟨ext_unbase E R.ext, R.len, R.slot, R.sep, R.nopk⟩
end
/-- the caught exception goes into slot i, the slot is empty behind the suite -/
def gTryEX (mt : Value → Option Bool) (i : Nat) (gs : Addr → Addr → Addr → GS) (EX : EXT) (D : VEnds) : EXT := ⟨fun C fs S' => ∃ b, mt (.ref C) = some b ∧
  (b = true → ∀ a dx, gs a C dx { nx := fun S2 => D.nx (S2.set i none), rt := D.rt, bk := fun S2 => D.bk (S2.set i none), ct := fun S2 => D.ct (S2.set i none) } (S'.set i (some (.exc a C dx fs)))) ∧ (b = false → EX C fs S'), EX.tl⟩
@[simp] def gTry (mt : Value → Option Bool) (i : Nat) (gb : EXT → GS) (gs : Addr → Addr → Addr → GS) (EX : EXT) : GS := fun D S => gb (gTryEX mt i gs EX D) D S
section
variable {X : Cx} {EX : EXT} {n : Str} {tx e : Expr} {mt : Value → Option Bool} {i : Nat} {body suite : List Stmt} {b0 : Stmt} {pos pos' : Pos} {gb : EXT → GS} {gs : Addr → Addr → Addr → GS} {ge : GE} {f : Str} {a C dx : Addr} {oe : Obj} {pn : List (Addr × Obj)}
theorem vs_try (hT : ExT X tx mt) (hN : X.N.Nodup) (hi : X.N[i]? = some n) (hs : X.stack = X.env :: X.outer) (hf : X.env.frame = some X.env.locals) (hln : X.env.kindOf n = some .local)
    (hbody : ∀ (EX' : EXT) (pn : List (Addr × Obj)) (xe : Value → Shared → Prop), PassesOwn (model X.prog X.w) X.A X.env xe → VSs (X.tr pn xe) EX' body (gb EX'))
    (hsuite : ∀ (a : Addr) (oe : Obj) (C dx : Addr) (pn : List (Addr × Obj)), Zc (.ref C) (some dx) oe → (∃ vs, oe.data = .fields vs) → X.base.get? a = none → VSs (X.suite a ((a, oe) :: pn)) EX.off (b0 :: suite) (gs a C dx)) :
    VS X EX (.Try body [.ExceptHandler (some tx) (some n) (b0 :: suite) pos'] [] [] pos) (gTry mt i gb gs EX) := by
  refine ⟨fun G0 H0 tk => psMono (ps_try_cl (mt := mt) (i := i) (n := n) (Wout := WV EX G0 H0)
    (tb := fun W D σ H => ∃ (EX' : EXT) (B : Gh), (∀ cls d σ H, WV EX' B H0 cls d σ H → W cls d σ H) ∧ B.T = TabsOf X.K ∧ ThkOk X.prog X.w X.K X.mg X.base EX'.tl B H0 ∧ TSV B H0 (gb EX') D σ H) (ts := fun a cls d D σ H => ∃ C dx, cls = .ref C ∧ d = some dx ∧ TSV G0 H0 (gs a C dx) D σ H) hs hf hN hi hln hT tk.takes
    (fun W pn xe tkW hp => ⟨fun pins s σ H D I ⟨EX', B, hW, hB, hk, q⟩ => ((hbody EX' pn xe hp).pss B H0 ⟨tkW.imp hW, hB, hk⟩).run pins s σ H D I q⟩)
    (fun a oe cls d pn hz hd hb => ⟨fun pins s σ H D I ⟨C, dx, e1, e2, q⟩ => ((hsuite a oe C dx pn (by rw [← e1, ← e2]; exact hz) hd hb).pss G0 H0 ⟨takesE0, tk.tabs, tk.thk⟩).run pins s σ H D I q⟩)) fun D σ H ⟨G, S, DV, R, q, k⟩ => ?_⟩
  refine ⟨gTryEX mt i gs EX DV, ⟨G.F, G0.pb, G0.T⟩, fun cls d σ' H' ⟨G2, S2, C, dx, fs, ws, e1, e2, R2, e3, e4, b, hb, hy, hn⟩ => ?_, tk.tabs, ?_, G, S, DV, rel_rebase R, q, ?_⟩
  · subst e1 e2
    have R3 := rel_unbase R.ext R2
    have mo : Mono G G2 := R2.ext.frz
    refine ⟨b, hb, fun hbt a na => ⟨C, dx, rfl, rfl, G2, S2.set i (some (.exc a C dx fs)), _, ?_, hy hbt a dx, ?_⟩, fun hbf => ⟨G2, S2, C, dx, fs, ws, rfl, rfl, R3, e3, e4, hn hbf⟩⟩
    · exact R3.setE (.refl R3.ok) i (v := .ref a) (sv := .exc a C dx fs) ⟨rfl, ws, e3, e4⟩ trivial
    · have k2 := k.go mo
      exact ⟨fun σ3 H3 G3 S3 R4 m q => k2.nx _ _ _ _ (R4.forget i) m q, k2.rt, fun σ3 H3 G3 S3 R4 m q => k2.bk _ _ _ _ (R4.forget i) m q, fun σ3 H3 G3 S3 R4 m q => k2.ct _ _ _ _ (R4.forget i) m q⟩
  · exact ⟨tk.thk.mono, fun f b G1 H1 A1 outer1 s1 Q E Qs Qx E1 => tk.thk.run f b G1 H1 A1 outer1 s1 Q E Qs Qx (ext_unbase R.ext E1)⟩
  · exact ⟨fun σ3 H3 G3 S3 R4 m q => k.nx _ _ _ _ (rel_unbase R.ext R4) m q, fun v H3 G3 sv E4 r ir q => k.rt _ _ _ _ (ext_unbase R.ext E4) r ir q, fun σ3 H3 G3 S3 R4 m q => k.bk _ _ _ _ (rel_unbase R.ext R4) m q, fun σ3 H3 G3 S3 R4 m q => k.ct _ _ _ _ (rel_unbase R.ext R4) m q⟩
/-! ### in the suite: e.f, g(e) -/
theorem repf_get {F : Hp} {f : Str} {d : VT.D} : ∀ {fs : List (Str × VT.D)} {ws : List (Str × V)}, repf F fs ws → fs.lookup f = some d → ∃ v, ws.lookup f = some v ∧ rep F d v
  | [], _, _, h => by cases h
  | (g, d') :: fs, _, ⟨v, t, e, r, z⟩, h => by
    rw [e]
    by_cases hg : f = g
    · subst hg
      have h2 : some d' = some d := by simpa [List.lookup] using h
      cases h2
      exact ⟨v, by simp [List.lookup], r⟩
    · have hb : (f == g) = false := by simpa using hg
      rw [List.lookup, hb] at h
      obtain ⟨v2, e2, r2⟩ := repf_get z h
      exact ⟨v2, by rw [List.lookup, hb]; exact e2, r2⟩
def gXf (a C dx : Addr) (Cs : List Addr) (f : Str) (g : GE) : GE := fun S Q => g S fun sv => ∃ fs d, sv = .exc a C dx fs ∧ C ∈ Cs ∧ fs.lookup f = some d ∧ Q (.tr d)
@[simp] theorem gXf_eq (a C dx : Addr) (Cs : List Addr) (f : Str) (g : GE) (S : S) (Q : SV → Prop) : gXf a C dx Cs f g S Q = g S fun sv => ∃ fs d, sv = .exc a C dx fs ∧ C ∈ Cs ∧ fs.lookup f = some d ∧ Q (.tr d) := rfl
theorem ve_xf (Cs : List Addr) (hc : ∀ C ∈ Cs, XfC X.K C ∧ PySem.W.findIn X.K (.ref C) f = some none) (hz : Zc (.ref C) (some dx) oe) (hd : ∃ vs, oe.data = .fields vs) (he : VE (X.suite a ((a, oe) :: pn)) EX e ge) (hb : attributeBase e f X.env (eval e X.env) = eval e X.env := by rfl) :
    VE (X.suite a ((a, oe) :: pn)) EX (.Attribute e f pos) (gXf a C dx Cs f ge) := by
  refine ⟨fun G0 H0 tk => ⟨fun pins s σ H Q I h => ?_⟩⟩
  obtain ⟨G, S, Qs, R, q, kq⟩ := h
  refine attr_of hb (thn ((he.pe G0 H0 tk).run pins s σ H (fun v H1 => ∃ G1 fs d ws, Ext G H G1 H1 ∧ v = .ref a ∧ C ∈ Cs ∧ G1.F dx = some (.xd ws) ∧ repf G1.F fs ws ∧ fs.lookup f = some d ∧ Qs (.tr d)) I
    ⟨G, S, _, R, q, fun v H1 G1 sv E1 r1 ⟨fs, d, e, hC, hl, q1⟩ => ?_⟩) fun u s1 ⟨v, H1, I1, rv, G1, fs, d, ws, E1, ev, hC, e3, e4, hl, q1⟩ => ?_)
  · subst e
    obtain ⟨ev, ws, e3, e4⟩ := r1
    exact ⟨G1, fs, d, ws, E1, ev, hC, e3, e4, hl, q1⟩
  · subst ev
    obtain rfl : u = Value.ref a := rv
    obtain ⟨T, hno⟩ := hc C hC
    obtain ⟨ha, _⟩ := I1.pin (a, oe) (List.mem_append_left _ List.mem_cons_self)
    obtain ⟨vs, hd⟩ := hd
    have hx : ObjOk X.prog X.w H1 s1.heap dx (.xd ws) := I1.hok dx _ (E1.ok.sub _ _ e3)
    obtain ⟨mA, hns, hr⟩ := hx
    obtain ⟨v, hv, r⟩ := repf_get e4 hl
    obtain ⟨od, ho, hlo⟩ := lookIn_ns hns
    obtain ⟨u, hu, ru⟩ := RelO.some_of (v := v) (o := mA f) (by rw [← hv]; exact hr f)
    have J : PySem.W.InstAt s1.heap a oe C (some od) := ⟨ha, hz.1, by unfold PySem.W.notCls; rw [hd] <;> rfl, by rw [hz.2]; exact ho⟩
    exact HandSPX.exc_get I1.kIn J T.ga T.gg T.exC (PySem.W.findObj_own T.hdC hno rfl (by rw [hlo, hu])) (handed_of ru) ⟨v, H1, I1.tok _, ru, kq v H1 G1 (.tr d) E1 r q1⟩
end
end VT

namespace VT
open PySem PySem.Spec PyProof.Rows L2

@[simp] theorem sd_tz (ds : List D) : (SV.d (SV.tz ds)) = .tup ds := rfl
@[simp] theorem slook_tz (ds : List D) : (SV.look (SV.tz ds)) = .tz ds := rfl
@[simp] theorem slet_tz (ds : List D) : (SV.let_ (SV.tz ds)) = .tr (.tup ds) := rfl
@[simp] theorem sok_tz (ds : List D) : (SV.ok (SV.tz ds)) = True := rfl
@[simp] theorem sarg_tz (ds : List D) : (SV.arg (SV.tz ds)) = .tr (.tup ds) := rfl
@[simp] theorem sisret_tz (ds : List D) : (SV.isRet (SV.tz ds)) = False := rfl
@[simp] theorem sstays_tz (c : Bool) (ds : List D) : (SV.stays c (SV.tz ds)) = True := rfl
/-! ### bool(x) -/
def gBoolOf : List D → (SV → Prop) → Prop
  | [.bl b], Q => Q (.tr (.bl b))
  | [.int i], Q => Q (.tr (.bl (i != 0)))
  | [.lst xs], Q => Q (.tr (.bl (!xs.isEmpty)))
  | _, _ => False
@[simp] theorem gBoolOf_bl (b : Bool) (Q : SV → Prop) : gBoolOf [.bl b] Q = Q (.tr (.bl b)) := rfl
@[simp] theorem gBoolOf_int (i : Int) (Q : SV → Prop) : gBoolOf [.int i] Q = Q (.tr (.bl (i != 0))) := rfl
@[simp] theorem gBoolOf_lst (xs : List D) (Q : SV → Prop) : gBoolOf [.lst xs] Q = Q (.tr (.bl (!xs.isEmpty))) := rfl
section
variable {X : Cx} {EX : EXT}
theorem cw_bool : CallW X (.type "bool") gBoolOf := by
  intro H0 Hs G H vs svs Qs Q ok r q k
  unfold gBoolOf at q
  split at q
  · rename_i b h
    obtain ⟨v, sv, rfl, rfl, e, rv⟩ := repl1 r h
    cases rv.bl e
    exact ⟨_, call_bool1, .inr ⟨b, rfl, kq_tr (d := .bl _) k ok rfl q⟩⟩
  · rename_i i h
    obtain ⟨v, sv, rfl, rfl, e, rv⟩ := repl1 r h
    cases rv.int e
    exact ⟨_, call_bool1, .inl ⟨i, rfl, kq_tr (d := .bl _) k ok rfl q⟩⟩
  · rename_i xs h
    obtain ⟨v, sv, rfl, rfl, e, rv⟩ := repl1 r h
    obtain ⟨a, ws, rfl, ea, rw_⟩ := rv.lst ok e
    refine ⟨_, call_boolL, a, ws, rfl, .of ea, ?_⟩
    rw [isEmpty_len rw_.length]
    exact kq_tr (d := .bl _) k ok rfl q
  · exact q.elim
end
/-! ### tuple(x), the new object known -/
theorem kq_tz {H0 : Hp} {G : Gh} {H : Hp} {Qs : SV → Prop} {Q : VK} {p : Addr} {o : Obj} {ds : List D} {vs : List V} (k : KQ H0 G H Qs Q) (ok : OkG G H) (hp : H p = none) (ho : o.dict = none) (r : reps G.F ds vs) (q : Qs (.tz ds)) : Q (.ref p) (upd H p (.frz o (.tup vs))) :=
  k _ _ ⟨upd G.F p (.frz o (.tup vs)), G.pb, G.T⟩ (.tz ds) (ext_frz ok hp _) ⟨p, o, vs, rfl, ho, upd_same, reps.mono (upd_mono (ok.nF hp)) _ _ r⟩ q
section
variable {prog : Program} {w : World} {A : Around} {E : Value → Shared → Prop} {s : Shared}
theorem new_tupS {x : Str} {t : Tok} {Q1 : Value → Shared → Prop} (hh : A.handled = none) (hn : x.cps.size ≤ sizeLine)
    (h : ∀ (s' : Shared) (acc : Array Value), (∀ b o, s.heap.get? b = some o → s'.heap.get? b = some o) → s'.gens = s.gens → s'.drawn = s.drawn → s'.os = s.os → ItemsOf (SignAt x) acc x.cps.size →
      Q1 (.ref s'.heap.objs.size) { s' with heap := s'.heap.push { cls := .type "tuple", data := .seq acc } }) :
    codeAny (model prog w) A (.call (.builtin "tuple.__new__") ⟨[.type "tuple", .str x t], []⟩) (wants Q1 E) s := by
  refine codeAny_of_tree ?_
  show wpAny _ A.in1 (do checkBuiltinCall "tuple.__new__" ⟨[.type "tuple", .str x t], []⟩; again (.builtin "tuple.__new__" ⟨[.type "tuple", .str x t], []⟩)) _ _ s
  refine wpAny_bind (wpAny_of_eq (F.newCall_tuple_1 _) (wpAny_pure ⟨plainId_quiet F.plain_tuple_new _, codeAny_builtin F.entry_tuple_new ?_⟩))
  rw [Around.under_plainId F.plain_tuple_new _]
  have z1 := sub_tuple_self
  have z2 := init_tuple_lookup
  have z3 := madeHere_tuple
  have z4 : A.in1.handled = none := hh
  have z5 : s.TypeIs (.str x t) "str" := rfl
  wp_walk using wpAny_typeOf z5, wpAny_collect_str (A := A.in1) z4 x t
  intro s' acc hk hg hd hos hacc
  show wpAny _ _ (Builtin.Tuple.tupleExact acc.toList.toArray >>= fun v => ret v) _ _ _
  unfold Builtin.Tuple.tupleExact
  refine wpAny_bind (wpAny_newObj_type ?_ (by show acc.toList.toArray.size ≤ sizeLine; simp only [Array.toArray_toList]; rw [hacc.1]; exact hn))
  refine wpAny_pure ?_
  rw [Array.toArray_toList]
  exact h s' acc hk hg hd hos hacc
theorem call_tupS {x : Str} {t : Tok} {Q : Value → Shared → Prop} (hh : A.handled = none) (hn : x.cps.size ≤ sizeLine)
    (h : ∀ (s' : Shared) (acc : Array Value), (∀ b o, s.heap.get? b = some o → s'.heap.get? b = some o) → s'.gens = s.gens → s'.drawn = s.drawn → s'.os = s.os → ItemsOf (SignAt x) acc x.cps.size →
      Q (.ref s'.heap.objs.size) { s' with heap := s'.heap.push { cls := .type "tuple", data := .seq acc } }) :
    wpAny (model prog w) A (call (.type "tuple") [.str x t]) Q E s := by
  refine callType_codes (Q₁ := fun obj s₁ => s₁.TypeIs obj "tuple" ∧ Q obj s₁) F.called_tuple (F.typeCall_tuple_1 _) F.entry_object_init
    (new_tupS (A := A.in1) hh hn fun s' acc hk hg hd hos hacc => ⟨⟨_, Heap.get?_push_size _ rfl, rfl⟩, h s' acc hk hg hd hos hacc⟩) fun obj s1 h1 => ?_
  exact ⟨h1.1, F.args_object_init_2 obj _, object_init_meets F.called_tuple.init.lookup F.called_tuple.made (by decide) prog w A.in1 _ s1 ⟨h1.1, rfl, h1.2⟩⟩
end
theorem signs_rel {x : Str} {acc : Array Value} (h : ItemsOf (SignAt x) acc x.cps.size) : Vals (x.cps.toList.map fun c => V.str ⟨#[c]⟩) acc.toList := by
  refine vals_of_at (by simp [h.1]) fun j y u e1 e2 => ?_
  have e3 : acc[j]? = some u := by simpa using e2
  obtain ⟨c, tk, hc, rfl⟩ := h.2 j u e3
  have e4 : x.cps.toList[j]? = some c := by simpa using hc
  rw [List.getElem?_map, e4] at e1
  cases e1
  exact ⟨tk, rfl⟩
section
variable {X : Cx} {EX : EXT}
theorem call_tupL : CallR X (.type "tuple") (fun xs H Q => ∃ p ys, xs = [.ref p] ∧ H p = some (.lst ys) ∧ ∀ l o, H l = none → o.dict = none → Q (.ref l) (upd H l (.frz o (.tup ys)))) := by
  intro pins s σ H xs us Q I r h
  obtain ⟨p, ys, rfl, hq, q⟩ := h
  obtain ⟨u, rfl, rx⟩ := vals1 r
  cases rx
  obtain ⟨its, r', pl, hz⟩ := I.list (.of hq)
  have hlen := r'.length
  refine call_tuple_list pl.isList (fun h' kp => ?_) (by simp only [List.size_toArray] <;> omega)
  have I1 : Inv X pins σ H { s with heap := h' } := I.kept (t' := s.toks) kp
  exact ⟨.ref h'.objs.size, _, I1.laid (t' := s.toks) (o := .frz { cls := .type "tuple", data := .seq its.toArray } (.tup ys)) (fun b o e => Heap.get?_push_of_some _ e) (Nat.le_refl _) ⟨Heap.get?_push_size _ rfl, hz, its, r', IsTup.new _ _⟩, rfl, q _ _ (I1.hok.fresh (Nat.le_refl _)) rfl⟩
theorem call_tupT (hc : X.calm = true) : CallR X (.type "tuple") (fun xs H Q => ∃ x : Str, xs = [.str x] ∧ x.length ≤ sizeLine ∧ ∀ l o, H l = none → o.dict = none → Q (.ref l) (upd H l (.frz o (.tup (x.cps.toList.map fun c => V.str ⟨#[c]⟩))))) := by
  intro pins s σ H xs us Q I r h
  obtain ⟨x, rfl, hx, q⟩ := h
  obtain ⟨u, rfl, rx⟩ := vals1 r
  obtain ⟨t, rfl⟩ := rx
  refine call_tupS (I.ok.hd hc) hx fun s' acc hk hg hd hos hacc => ?_
  obtain ⟨hp, g, d, tk, os⟩ := s'
  obtain ⟨hp0, g0, d0, tk0, os0⟩ := s
  simp only at hg hd hos
  subst hg hd hos
  have I1 : Inv X pins σ H _ := I.kept (t' := tk) hk
  have rv := signs_rel hacc
  refine ⟨.ref hp.objs.size, _, I1.laid (t' := tk) (o := .frz { cls := .type "tuple", data := .seq acc } (.tup (x.cps.toList.map fun c => V.str ⟨#[c]⟩))) (fun b o e => Heap.get?_push_of_some _ e) (Nat.le_refl _) ⟨Heap.get?_push_size _ rfl, ?_, acc.toList, rv, ?_⟩, rfl, q _ _ (I1.hok.fresh (Nat.le_refl _)) rfl⟩
  · rw [List.length_map, Array.length_toList]; exact hx
  · rw [Array.toArray_toList]; exact IsTup.new _ _
def gTupZ : List D → (SV → Prop) → Prop
  | [.lst xs], Q => Q (.tz xs)
  | [.str z], Q => Q (.tz (z.cps.toList.map fun c => .str ⟨#[c]⟩))
  | _, _ => False
theorem reps_signs {F : Hp} {z : Str} (h : okS z) : reps F (z.cps.toList.map fun c => D.str ⟨#[c]⟩) (z.cps.toList.map fun c => V.str ⟨#[c]⟩) := by
  have go : ∀ l : List Nat, (∀ c ∈ l, c < 0x110000) → reps F (l.map fun c => D.str ⟨#[c]⟩) (l.map fun c => V.str ⟨#[c]⟩) := by
    intro l
    induction l with
    | nil => intro _; rfl
    | cons c l ih =>
      intro hc
      refine ⟨_, _, rfl, ⟨rfl, ?_, by show 1 ≤ sizeLine; decide⟩, ih fun d hd => hc d (List.mem_cons_of_mem _ hd)⟩
      have := hc c (List.mem_cons_self ..)
      show (#[c] : Array Nat).all (· < 0x110000) = true
      simp [this]
  refine go _ fun c hc => ?_
  have h1 : z.cps.all (· < 0x110000) = true := h.1
  rw [Array.all_eq_true_iff_forall_mem] at h1
  have := h1 c (by simpa using hc)
  simpa using this
theorem cw_tupZ (hc : X.calm = true) : CallW X (.type "tuple") gTupZ := by
  intro H0 Hs G H vs svs Qs Q ok r q k
  unfold gTupZ at q
  split at q
  · rename_i xs h
    obtain ⟨v, sv, rfl, rfl, e, rv⟩ := repl1 r h
    obtain ⟨a, ws, rfl, ea, rw_⟩ := rv.lst ok e
    exact ⟨_, call_tupL, a, ws, rfl, ea, fun p o hp ho => kq_tz k ok hp ho rw_ q⟩
  · rename_i z h
    obtain ⟨v, sv, rfl, rfl, e, rv⟩ := repl1 r h
    obtain ⟨rfl, hz⟩ := rv.str e
    exact ⟨_, call_tupT hc, z, rfl, hz.2, fun p o hp ho => kq_tz k ok hp ho (reps_signs hz) q⟩
  · exact q.elim
@[simp] theorem gTupZ_lst (xs : List D) (Q : SV → Prop) : gTupZ [.lst xs] Q = Q (.tz xs) := rfl
@[simp] theorem gTupZ_str (z : Str) (Q : SV → Prop) : gTupZ [.str z] Q = Q (.tz (z.cps.toList.map fun c => .str ⟨#[c]⟩)) := rfl
/-! ### t.index(x) of a known tuple -/
theorem pe_tmeth {o e : Expr} {es : List Expr} {to : TE} {t : TA} {name : Str} {apos cpos : Pos} {id : String} {r : V → List V → Hp → VK → Prop} (slot : Slot "tuple" name id) (hty : typeOf (.builtin id) = pure (.type "method_descriptor")) (hm : MtR X id r) (ho : PE X o to) (ha : PA X (e :: es) t)
    (hb : attributeBase o name X.env (eval o X.env) = eval o X.env)
    (hf : ((backTo cpos (starEach (e :: es) X.env)).all (fun x => !x.1) && (backToKw cpos (keywordEach [] X.env)).all (fun x => x.1.isSome) && decide ((e :: es).length + ([] : List Keyword).length + (if ([] : List Keyword).isEmpty then 0 else 1) < 30)) = true)
    (hl : (apos.endLine == cpos.line) = true) (hs : starEach (e :: es) X.env = (false, eval e X.env) :: starEach es X.env) (hpl : (backTo cpos (starEach es X.env)).any (·.1) = false) :
    PE X (.Call (.Attribute o name apos) (e :: es) [] cpos) (fun σ H Q => to σ H fun x H1 => (∃ p ob ws, x = .ref p ∧ ob.dict = none ∧ H1 p = some (.frz ob (.tup ws))) ∧ t σ H1 fun xs H2 => r x xs H2 Q) := by
  refine ⟨fun pins s σ H Q I h => wpAny_Call_method_late hb hf hl rfl (thn (ho.run pins s σ H _ I h) fun v s1 ⟨x, H1, I1, r1, ⟨p, ob, ws, ex, hd, hp⟩, q1⟩ => ?_)⟩
  subst ex
  obtain rfl : v = Value.ref p := r1
  obtain ⟨e1, _, its, _, o2, e2, hc2, _⟩ := I1.hok p _ hp
  refine ⟨"tuple", id, PySem.F.plainAttrs_tuple, slot, hty, ⟨o2, e2, hc2⟩, fun a ea => ?_, ?_⟩
  · cases ea
    exact ⟨ob, e1, hd⟩
  have hA := ha.run cpos pins s1 σ H1 _ I1 q1
  rw [hs] at hA ⊢
  refine Calls.callWith_builtin (by show (false || (backTo cpos (starEach es X.env)).any (·.1)) = false; rw [hpl] <;> rfl) (Calls.evalArgs_plain ?_)
  exact thn hA fun us s2 ⟨vs, H2, I2, r2, q2⟩ => hm pins s2 σ H2 (.ref p) vs (.ref p) us Q I2 rfl r2 q2
def gTix (go : GE) (ga : GA) : GE := fun S Q => go S fun so => ∃ ds, so = .tz ds ∧ ga S fun svs => ∃ z ys j, svs.map SV.d = [.str z] ∧ strsD ds = some ys ∧ ys[j]? = some z ∧ (∀ m, m < j → ys[m]? ≠ some z) ∧ Q (.tr (.int (j : Nat)))
theorem ve_tix {o e : Expr} {go : GE} {ga : GA} {apos cpos : Pos} (ho : VE X EX o go) (ha : VA X EX [e] ga) (hb : attributeBase o "index" X.env (eval o X.env) = eval o X.env := by rfl)
    (hf : ((backTo cpos (starEach [e] X.env)).all (fun x => !x.1) && (backToKw cpos (keywordEach [] X.env)).all (fun x => x.1.isSome) && decide ([e].length + ([] : List Keyword).length + (if ([] : List Keyword).isEmpty then 0 else 1) < 30)) = true := by rfl)
    (hl : (apos.endLine == cpos.line) = true := by rfl) (hs : starEach [e] X.env = (false, eval e X.env) :: starEach [] X.env := by rfl) :
    VE X EX (.Call (.Attribute o "index" apos) [e] [] cpos) (gTix go ga) := by
  refine ⟨fun G0 H0 tk => peMono (pe_tmeth PySem.F.slot_tuple_index PySem.F.type_tuple_index mt_tup_index (ho.pe G0 H0 tk) (ha.pa G0 H0 tk) hb hf hl hs rfl) fun σ H Q ⟨G, S, Qs, R, q, k⟩ => ?_⟩
  refine ⟨G, S, _, R, q, fun v H1 G1 so E1 r1 q1 => ?_⟩
  obtain ⟨ds, rfl, q1⟩ := q1
  obtain ⟨a, ob, ws, rfl, hd, hF, rr⟩ := r1
  refine ⟨⟨a, ob, ws, rfl, hd, E1.ok.sub _ _ hF⟩, G1, S, _, R.go E1, q1, fun vs H2 G2 svs E2 r2 q2 => ?_⟩
  obtain ⟨z, ys, j, hz, hy, h1, h2, q2⟩ := q2
  obtain ⟨v, sv, rfl, rfl, e, rv⟩ := repl1 r2 hz
  obtain ⟨rfl, _⟩ := rv.str e
  rw [strsD_eq hy] at rr
  rw [rr.map_str.1] at hF
  exact ⟨a, ys, z, j, rfl, rfl, .inl (.inr ⟨ob, E2.ok.sub _ _ (E2.frz _ _ hF)⟩), h1, h2, kq_tr (d := .int _) (kq_back (E1.trans E2) k) E2.ok rfl q2⟩
@[simp] theorem gTix_eq (go : GE) (ga : GA) (S : S) (Q : SV → Prop) : gTix go ga S Q = go S fun so => ∃ ds, so = .tz ds ∧ ga S fun svs => ∃ z ys j, svs.map SV.d = [.str z] ∧ strsD ds = some ys ∧ ys[j]? = some z ∧ (∀ m, m < j → ys[m]? ≠ some z) ∧ Q (.tr (.int (j : Nat))) := rfl
end
end VT

namespace VT
open PySem PySem.Spec PyProof.Rows L2

/-! ### f'..' -/
theorem okS_ofString (x : String) (h : (Str.ofString x).length ≤ sizeLine) : okS (Str.ofString x) := by
  refine ⟨?_, h⟩
  show (Str.ofString x).cps.all (· < 0x110000) = true
  rw [Array.all_eq_true_iff_forall_mem]
  intro c hc
  have hc : c ∈ (Str.ofString x).cps.toList := by simpa using hc
  have e : (Str.ofString x).cps.toList = x.toList.map Char.toNat := by
    unfold Str.ofString
    exact cpsOfBytes_string x
  rw [e] at hc
  obtain ⟨d, _, rfl⟩ := List.mem_map.mp hc
  have hv := d.valid
  have : d.toNat < 0x110000 := by
    rcases hv with h | ⟨_, h⟩
    · have : d.toNat < 0xd800 := h
      omega
    · exact h
  simpa using this
def gFmtD : D → (SV → Prop) → Prop
  | .str z, Q => Q (.tr (.str z))
  | .int i, Q => i.natAbs.log2 < 1920 ∧ Q (.tr (.str (Str.ofString (toString i))))
  | _, _ => False
@[simp] theorem gFmtD_str (z : Str) (Q : SV → Prop) : gFmtD (.str z) Q = Q (.tr (.str z)) := rfl
@[simp] theorem gFmtD_int (i : Int) (Q : SV → Prop) : gFmtD (.int i) Q = (i.natAbs.log2 < 1920 ∧ Q (.tr (.str (Str.ofString (toString i))))) := rfl
@[simp] def gFmt (g : GE) : GE := fun S Q => g S fun sv => gFmtD sv.d Q
abbrev GJ := S → Str → (Str → Prop) → Prop
@[simp] def gjNil : GJ := fun _ acc Q => Q acc
@[simp] def gjCons (g : GE) (gj : GJ) : GJ := fun S acc Q => g S fun sv => ∃ z, sv.d = .str z ∧ (acc ++ z).length ≤ sizeLine ∧ gj S (acc ++ z) Q
@[simp] def gJs (gj : GJ) : GE := fun S Q => gj S Str.empty fun out => Q (.tr (.str out))
structure VJ (X : Cx) (EX : EXT) (es : List Expr) (g : GJ) : Prop where
  pj : ∀ G0 H0, Lk X EX G0 H0 → ∃ ts, PJ X es ts ∧ ∀ (acc : Str) (σ : L2.St) (H : Hp) (Q : Str → Hp → Prop) (G : Gh) (S : S) (Qs : Str → Prop), okS acc → Rel G0 H0 G H σ S → g S acc Qs → (∀ out H' G', okS out → Ext G H G' H' → Qs out → Q out H') → tJs ts acc σ H Q
section
variable {X : Cx} {EX : EXT} {e : Expr} {es : List Expr} {ge : GE} {gj : GJ} {pos : Pos}
theorem ve_fmt (he : VE X EX e ge) : VE X EX (.FormattedValue e (-1) none pos) (gFmt ge) := by
  refine ⟨fun G0 H0 tk => peMono (pe_fmt (he.pe G0 H0 tk)) fun σ H Q ⟨G, S, Qs, R, q, k⟩ => ?_⟩
  refine ⟨G, S, _, R, q, fun v H1 G1 sv E1 r1 q1 => ?_⟩
  cases hd : sv.d with
  | str z =>
    rw [hd] at q1
    obtain ⟨rfl, hz⟩ := r1.str hd
    exact .inl ⟨z, rfl, hz.2, kq_tr (d := .str _) (kq_back E1 k) E1.ok ⟨rfl, hz⟩ q1⟩
  | int i =>
    rw [hd] at q1
    cases r1.int hd
    exact .inr ⟨i, rfl, q1.1, kq_tr (d := .str _) (kq_back E1 k) E1.ok ⟨rfl, okS_ofString _ (int_text_fits q1.1)⟩ q1.2⟩
  | _ => rw [hd] at q1; exact q1.elim
theorem vj_nil : VJ X EX [] gjNil := ⟨fun G0 H0 tk => ⟨[], .nil, fun acc σ H Q G S Qs ha R q k => k acc H G ha (.refl R.ok) q⟩⟩
theorem vj_cons (he : VE X EX e ge) (hr : VJ X EX es gj) : VJ X EX (e :: es) (gjCons ge gj) := ⟨fun G0 H0 tk => by
  obtain ⟨ts, ht, hk⟩ := hr.pj G0 H0 tk
  refine ⟨_ :: ts, .cons (he.pe G0 H0 tk) ht, fun acc σ H Q G S Qs ha R q k => ?_⟩
  refine ⟨G, S, _, R, q, fun v H1 G1 sv E1 r1 q1 => ?_⟩
  obtain ⟨z, hz, hl, q1⟩ := q1
  obtain ⟨rfl, oz⟩ := r1.str hz
  exact ⟨z, rfl, hl, hk (acc ++ z) σ H1 Q G1 S Qs ⟨strOk_append ha.1 oz.1, hl⟩ (R.go E1) q1 fun out H' G' ho E' q' => k out H' G' ho (E1.trans E') q'⟩⟩
theorem ve_js {v1 v2 : Expr} {rest : List Expr} (h : VJ X EX (v1 :: v2 :: rest) gj) : VE X EX (.JoinedStr (v1 :: v2 :: rest) pos) (gJs gj) := ⟨fun G0 H0 tk => by
  obtain ⟨ts, ht, hk⟩ := h.pj G0 H0 tk
  refine peMono (pe_joined ht) fun σ H Q ⟨G, S, Qs, R, q, k⟩ => ?_
  exact hk Str.empty σ H _ G S _ ⟨by decide +kernel, Nat.zero_le _⟩ R q fun out H' G' ho E' q' => kq_tr (d := .str _) (kq_back E' k) E'.ok ⟨rfl, ho⟩ q'⟩
end
/-! ### dict(pairs) -/
def mergeD (kvs more : List (Key × D)) : List (Key × D) := more.foldl (fun acc kv => putD acc kv.1 kv.2) kvs
@[simp] theorem mergeD_nil (kvs : List (Key × D)) : mergeD kvs [] = kvs := rfl
@[simp] theorem mergeD_cons (kvs more : List (Key × D)) (k : Key) (d : D) : mergeD kvs ((k, d) :: more) = mergeD (putD kvs k d) more := rfl
theorem repk_merge {F : Hp} : ∀ {more : List (Key × D)} {ms : List (Key × V)} {kvs : List (Key × D)} {ws : List (Key × V)}, repk F more ms → repk F kvs ws → repk F (mergeD kvs more) (mergeK ws ms)
  | [], _, _, _, e, r => by rw [show _ = _ from e]; exact r
  | (k, d) :: more, _, kvs, ws, ⟨v, t, e, rv, q⟩, r => by
    rw [e]
    exact repk_merge (kvs := putD kvs k d) (ws := putK ws k v) q (repk_put r rv)
def pairsD : List D → Option (List (Key × D))
  | [] => some []
  | .tup [k, d] :: r => match keyD k, pairsD r with
    | some k, some m => some ((k, d) :: m)
    | _, _ => none
  | _ => none
theorem key_rep {F : Hp} {d : D} {v : V} {k : Key} (r : rep F d v) (e : keyD d = some k) : v = kV k := by
  cases d with
  | int i => cases e; exact r
  | str x => cases e; exact r.1
  | _ => cases e
theorem pairs_at {K : PySem.W.Frag} {F H : Hp} (hF : ∀ b o, F b = some o → H b = some o) : ∀ {xs : List D} {kds : List (Key × D)} {ws : List V}, pairsD xs = some kds → reps F xs ws → ∃ ps kvs, ws = ps.map V.ref ∧ repk F kds kvs ∧ Paired (fun p (kv : Key × V) => SqT K H p [kV kv.1, kv.2]) ps kvs
  | [], _, _, h, r => by
    cases h
    rw [show _ = _ from r]
    exact ⟨[], [], rfl, rfl, .nil⟩
  | x :: xs, kds, ws, h, ⟨v, t, e, rx, rr⟩ => by
    unfold pairsD at h
    split at h
    · rename_i h1
      cases h1
    · rename_i k d r h1
      cases h1
      split at h
      · rename_i kk m hk hm
        cases h
        obtain ⟨ps, kvs, rfl, h2, h3⟩ := pairs_at hF hm rr
        obtain ⟨a, vs, rfl, ea, w1, r1, rfl, hw1, w2, r2, rfl, hw2, e3⟩ := rx
        rw [show r2 = [] from e3, key_rep hw1 hk] at ea
        exact ⟨a :: ps, (kk, w2) :: kvs, by rw [e]; rfl, ⟨w2, kvs, rfl, hw2, h2⟩, .cons (.inl (rdUp hF ea)) h3⟩
      · cases h
    · cases h
def gDictP : List D → (SV → Prop) → Prop
  | [.lst xs], Q => ∃ kds, pairsD xs = some kds ∧ Q (.own (.dic (mergeD [] kds)))
  | _, _ => False
@[simp] theorem gDictP_lst (xs : List D) (Q : SV → Prop) : gDictP [.lst xs] Q = ∃ kds, pairsD xs = some kds ∧ Q (.own (.dic (mergeD [] kds))) := rfl
section
variable {X : Cx} {EX : EXT}
theorem cw_dictP (hc : X.calm = true) : CallW X (.type "dict") gDictP := by
  intro H0 Hs G H vs svs Qs Q ok r q k
  unfold gDictP at q
  split at q
  · rename_i xs h
    obtain ⟨kds, hk, q⟩ := q
    obtain ⟨v, sv, rfl, rfl, e, rv⟩ := repl1 r h
    obtain ⟨a, ws, rfl, ea, rw_⟩ := rv.lst ok e
    obtain ⟨ps, kvs, rfl, h2, h3⟩ := pairs_at (K := X.K) ok.sub hk rw_
    exact ⟨_, call_dictP hc, a, ps, kvs, rfl, .of ea, h3, fun p hp => kq_dic k ok hp (repk_merge h2 (show repk G.F [] [] from rfl)) q⟩
  · exact q.elim
/-! ### {k: v, ..} -/
abbrev GP := S → (List (Key × D) → Prop) → Prop
@[simp] def gpNil : GP := fun _ Q => Q []
@[simp] def gpCons (gk gv : GE) (gp : GP) : GP := fun S Q => gk S fun sk => ∃ k, keyD sk.d = some k ∧ gv S fun sv => ∃ d, sv = .tr d ∧ gp S fun kds => Q ((k, d) :: kds)
@[simp] def gDisp (gp : GP) : GE := fun S Q => gp S fun kds => kds.length ≤ 15 ∧ Q (.own (.dic (mergeD [] kds)))
structure VP (X : Cx) (EX : EXT) (pos : Pos) (keys : List (Option Expr)) (values : List Expr) (g : GP) : Prop where
  pp : ∀ G0 H0, Lk X EX G0 H0 → ∃ trs, PPs X pos keys values trs ∧ ∀ (σ : L2.St) (H : Hp) (Q : List (V × V) → Hp → Prop) (G : Gh) (S : S) (Qs : List (Key × D) → Prop), Rel G0 H0 G H σ S → g S Qs →
    (∀ kds kvs H' G', Ext G H G' H' → repk G'.F kds kvs → Qs kds → Q (kvs.map fun kv => (kV kv.1, kv.2)) H') → tPairs trs σ H Q
variable {pos : Pos} {ke ve : Expr} {keys : List (Option Expr)} {values : List Expr} {gk gv : GE} {gp : GP}
theorem vp_nil : VP X EX pos [] [] gpNil := ⟨fun G0 H0 tk => ⟨[], pps_nil, fun σ H Q G S Qs R q k => k [] [] H G (.refl R.ok) rfl q⟩⟩
theorem vp_cons (hk : VE X EX ke gk) (hv : VE X EX ve gv) (hr : VP X EX pos keys values gp) : VP X EX pos (some ke :: keys) (ve :: values) (gpCons gk gv gp) := ⟨fun G0 H0 tk => by
  obtain ⟨trs, ht, hn⟩ := hr.pp G0 H0 tk
  refine ⟨_ :: trs, pps_cons (hk.pe G0 H0 tk) (hv.pe G0 H0 tk) ht, fun σ H Q G S Qs R q k => ?_⟩
  refine ⟨G, S, _, R, q, fun x H1 G1 sk E1 r1 q1 => ?_⟩
  obtain ⟨kk, hkk, q1⟩ := q1
  have ek := r1.key hkk
  subst ek
  refine ⟨G1, S, _, R.go E1, q1, fun y H2 G2 sv E2 r2 q2 => ?_⟩
  obtain ⟨d, rfl, q2⟩ := q2
  refine hn σ H2 _ G2 S _ ((R.go E1).go E2) q2 fun kds kvs H' G' E' rk q' => ?_
  exact k ((kk, d) :: kds) ((kk, y) :: kvs) H' G' ((E1.trans E2).trans E') ⟨y, kvs, rfl, rep.mono E'.frz _ _ r2, rk⟩ q'⟩
theorem ve_disp (h : VP X EX pos keys values gp) (hall : keys.all (·.isSome) = true := by rfl) (hl : keys.length = values.length := by rfl) (h0 : keys ≠ [] := by simp) (h15 : keys.length ≤ 15 := by decide) : VE X EX (.Dict keys values pos) (gDisp gp) := ⟨fun G0 H0 tk => by
  obtain ⟨trs, ht, hn⟩ := h.pp G0 H0 tk
  refine peMono (pe_disp ht hall hl h0 h15) fun σ H Q ⟨G, S, Qs, R, q, k⟩ p hp => ?_
  have E1 := ext_new R.ok hp (.dK [])
  refine hn σ _ _ G S _ (R.go E1) q fun kds kvs H' G' E' rk ⟨hz, q'⟩ => ?_
  have hF : G.F p = none := R.ok.nF hp
  have hb : G.pb ≠ some p := R.ok.npb hp
  have e2 : H' p = some (.dK []) := E'.same p _ upd_same hb nofun
  have hF' : G'.F p = none := E'.nF hF (by rw [upd_same]; nofun)
  have hb' : G'.pb ≠ some p := E'.npb hb (by rw [upd_same]; nofun)
  refine ⟨e2, kvs, rfl, by rw [repk_len rk]; exact hz, ?_⟩
  refine k _ _ G' (.own (.dic (mergeD [] kds))) (ext_write (E1.trans E') hp hF' hb' _ (.dK e2)) ⟨p, rfl, hp, hF', hb', _, upd_same, repk_merge rk (show repk G'.F [] [] from rfl)⟩ q'⟩
end
end VT

namespace VT
open PySem PySem.Spec PyProof.Rows L2

/-! ### self.f, y = a, b -/
def tgF (K : PySem.W.Frag) (to : TE) (f : Str) : TG := fun v σ H Q => to σ H fun o H1 => ∃ a C dx fs, o = .ref a ∧ H1 a = some (.ins C dx fs) ∧ Cls K C ∧ NoAttr K C f ∧ fs.length < 1000 ∧ Q σ (upd H1 a (.ins C dx (putF f v fs)))
section
variable {X : Cx} {EX : EXT} {o : Expr} {to : TE} {f x y : Str} {p py pos' pos pt pt2 : Pos} {kt k2 : Nat} {a b : Expr} {ga : GA}
theorem pg_fld (ho : PE X o to) (ha : ∀ v, assign (.Attribute o f pos') X.env v = (do
      let ov ← holding [v] (eval o X.env)
      standAt pos'.atName
      holding [v, ov] (setAttr ov f v)
      release [v, ov] []) := by intro _; rfl) : PG X (.Attribute o f pos') (tgF X.K to f) := by
  refine ⟨fun pins s σ H v u Q I r h => ?_⟩
  rw [ha]
  refine wpAny_bind (wpAny_holding (thn (ho.run pins s σ H _ I h) fun ov s1 ⟨z, H1, I1, r1, a, C, dx, fs, ez, ea, c, n, l, q1⟩ => ?_))
  subst ez
  obtain rfl : ov = Value.ref a := r1
  refine wpAny_bind (wpAny_standAt (wpAny_bind (wpAny_holding (setattr_ok I1 ea c n l r fun s2 I2 => ?_))))
  exact wpAny_release ⟨σ, _, I2, q1⟩
def gParF (i : Nat) (f : Str) (j : Nat) (Cs : List Addr) (ga : GA) : GS := fun D S => ga S fun svs => ∃ sv d x q C fs, svs = [sv, .tr d] ∧ sv.fv = some x ∧ S[i]? = some (some (.obj q C fs)) ∧ C ∈ Cs ∧ fs.length < 1000 ∧ D.nx ((S.set i (some (.obj q C (fput f x fs)))).set j (some (.tr d)))
@[simp] theorem gParF_eq (i : Nat) (f : Str) (j : Nat) (Cs : List Addr) (ga : GA) (D : VEnds) (S : S) : gParF i f j Cs ga D S = ga S fun svs => ∃ sv d x q C fs, svs = [sv, .tr d] ∧ sv.fv = some x ∧ S[i]? = some (some (.obj q C fs)) ∧ C ∈ Cs ∧ fs.length < 1000 ∧ D.nx ((S.set i (some (.obj q C (fput f x fs)))).set j (some (.tr d))) := rfl
theorem vs_parF (hc : X.calm = true) (hN : X.N.Nodup) (i j : Nat) (Cs : List Addr) (hcs : ∀ C ∈ Cs, Cls X.K C ∧ NoAttr X.K C f) (ha : VA X EX [a, b] ga) (hi : X.N[i]? = some x := by rfl) (hj : X.N[j]? = some y := by rfl)
    (hv : Vis X.env.scope x := by first | exact Or.inl rfl | exact Or.inr (Or.inl rfl) | exact Or.inr (Or.inr rfl)) (hd : (x == ("__debug__" : Str)) = false := by decide) (hcd : (x == ("__classdict__" : Str)) = false := by decide)
    (hy : Loc X.env.scope y := by first | exact Or.inl rfl | exact Or.inr rfl) (hf : X.fn y = true ∨ X.env.scope.names.lookup y = some .local := by first | exact .inl rfl | exact .inr rfl)
    (h1 : (assignEach [.Attribute (.Name x p) f pos', .Name y py] X.env).length = 2 := by rfl) (h2 : (assignEach [.Attribute (.Name x p) f pos', .Name y py] X.env).findIdx? (·.1) = none := by rfl)
    (h4 : (assignEach (.Attribute (.Name x p) f pos' :: [.Name y py]) X.env).map (·.2) = assign (.Attribute (.Name x p) f pos') X.env :: (assignEach [.Name y py] X.env).map (·.2) := by rfl)
    (h5 : (assignEach (.Name y py :: []) X.env).map (·.2) = assign (.Name y py) X.env :: (assignEach [] X.env).map (·.2) := by rfl)
    (hat : ∀ v, assign (.Attribute (.Name x p) f pos') X.env v = (do
      let ov ← holding [v] (eval (.Name x p) X.env)
      standAt pos'.atName
      holding [v, ov] (setAttr ov f v)
      release [v, ov] []) := by intro _; rfl)
    (hw : swappedStores [.Tuple [.Attribute (.Name x p) f pos', .Name y py] kt pt] (.Tuple [a, b] k2 pt2) X.env = pure none := by rfl)
    (hs : swapsWithSole [.Tuple [.Attribute (.Name x p) f pos', .Name y py] kt pt] (.Tuple [a, b] k2 pt2) pos.line X.env = pure false := by rfl)
    (h3 : (assignEach [.Tuple [.Attribute (.Name x p) f pos', .Name y py] kt pt] X.env).map (·.2) = [assign (.Tuple [.Attribute (.Name x p) f pos', .Name y py] kt pt) X.env] := by rfl) :
    VS X EX (.Assign [.Tuple [.Attribute (.Name x p) f pos', .Name y py] kt pt] (.Tuple [a, b] k2 pt2) pos) (gParF i f j Cs ga) := by
  refine ⟨fun G0 H0 tk => psMono (ps_asg (pe_tup (ha.pa G0 H0 tk)) (pg_tup (n := 2) hc (pgs_cons (pg_fld (pe_var hi hv hd hcd) hat) (pgs_cons (pg_name hN hj hy hf) pgs_nil h5) h4) h1 h2) hs hw h3) fun D σ H ⟨G, S, DV, R, q, k⟩ => ?_⟩
  refine ⟨G, S, _, R, q, fun vs H1 G1 svs E1 r1 q1 => ?_⟩
  obtain ⟨sv, d, x, q, C, fs, rfl, hx, e, hC, hl, q1⟩ := q1
  obtain ⟨v, w, rfl⟩ := repl_pair r1
  refine ⟨by show 2 ≤ sizeLine; decide, fun t ht => ?_⟩
  have E2 := ext_new E1.ok ht (.tup [v, w])
  have E := E1.trans E2
  have r2 := r1.ext E2
  obtain ⟨rv, rw_⟩ : RepV H0 H G1 (upd H1 t (.tup [v, w])) v sv ∧ RepV H0 H G1 (upd H1 t (.tup [v, w])) w (.tr d) := by
    cases r2 with
    | cons a b _ => cases b with
      | cons b _ _ => exact ⟨a, b⟩
  obtain ⟨u, eu, ru⟩ := (R.go E).slot i _ e
  obtain ⟨a, dx, ws, rfl, ea, ed, ma, md, nd, rf, hq⟩ := ru
  have R3 := R.fset (f := f) E rv hx e eu ea
  refine ⟨t, [v, w], rfl, .of upd_same, rfl, ?_⟩
  refine ⟨v, [w], rfl, _, eu, a, C, dx, ws, rfl, ea, (hcs C hC).1, (hcs C hC).2, by rw [rf.len]; exact hl, w, [], rfl, ?_⟩
  exact (show gNil [] _ _ D.nx from ⟨rfl, k.nx _ _ _ _ (R3.set (Hs := H0) j (sv := .tr d) rw_ trivial (fun _ z => z) (fun _ _ _ _ _ _ _ o => o.elim)) E.frz q1⟩)
end
end VT

namespace VT
open PySem PySem.Spec PyProof.Rows L2

/-! ### what a law's text looks at ahead of its run -/
structure Lks where
  fa : List He.Fa
  fn : List He.DefD
  pr : List (Str × Str × He.DefD) := []
  bs : List (PySem.W.Frag → Bool) := []
def prAt (K : PySem.W.Frag) (p : Str × Str × He.DefD) : Addr := prG K (He.ma K (He.ga K p.1) p.2.1)
def Lks.seen (L : Lks) (K : PySem.W.Frag) : Bool × List He.FnW :=
  ((L.fa.all fun f => f.ok K) && ((L.fn.all fun d => d.ok K) && ((L.pr.all fun p => prB K (He.ga K p.1) p.2.1 && okA K p.2.2 (prAt K p)) && L.bs.all fun b => b K)), (L.fn.map fun d => He.fnW K d.at_) ++ L.pr.map fun p => fnA K (prAt K p))
def Lks.due (L : Lks) : Bool × List He.FnW := (true, L.fn.map He.DefD.val ++ L.pr.map fun p => p.2.2.val)
def Lks.Ok (L : Lks) (K : PySem.W.Frag) : Prop := L.seen K = L.due
section
variable {L : Lks} {K : PySem.W.Frag}
theorem Lks.Ok.all (c : L.Ok K) : (∀ f ∈ L.fa, f.ok K = true) ∧ (∀ d ∈ L.fn, d.ok K = true) ∧ (∀ p ∈ L.pr, prB K (He.ga K p.1) p.2.1 = true ∧ okA K p.2.2 (prAt K p) = true) ∧ ∀ b ∈ L.bs, b K = true := by
  have c1 : (L.seen K).1 = true := congrArg (fun z : Bool × List He.FnW => z.1) c
  unfold Lks.seen at c1
  simp only [Bool.and_eq_true, List.all_eq_true] at c1
  exact c1
theorem Lks.Ok.fact (c : L.Ok K) (i : Nat) {f : He.Fa} (h : L.fa[i]? = some f := by rfl) : f.ok K = true := c.all.1 f (List.mem_of_getElem? h)
theorem Lks.Ok.bool (c : L.Ok K) (i : Nat) {b : PySem.W.Frag → Bool} (h : L.bs[i]? = some b := by rfl) : b K = true := c.all.2.2.2 b (List.mem_of_getElem? h)
theorem Lks.Ok.fns (c : L.Ok K) : (L.fn.map fun d => He.fnW K d.at_) = L.fn.map He.DefD.val ∧ (L.pr.map fun p => fnA K (prAt K p)) = L.pr.map fun p => p.2.2.val := by
  have c2 : (L.seen K).2 = L.due.2 := congrArg (fun z : Bool × List He.FnW => z.2) c
  exact List.append_inj c2 (by simp)
theorem Lks.Ok.fun_ (c : L.Ok K) (i : Nat) {d : He.DefD} (h : L.fn[i]? = some d := by rfl) : ∃ fd, FunD K d.name d.qual d.params d.body d.scope (d.dvs K) (d.kws K) (He.fAd K d.at_) fd := by
  have e := congrArg (fun l => l[i]?) c.fns.1
  simp only [List.getElem?_map, h] at e
  exact He.DefD.funD (Option.some.inj e) (c.all.2.1 d (List.mem_of_getElem? h))
theorem Lks.Ok.prop (c : L.Ok K) (i : Nat) {p : Str × Str × He.DefD} (h : L.pr[i]? = some p := by rfl) : PropOf K (He.ga K p.1) p.2.1 (He.ma K (He.ga K p.1) p.2.1) (prAt K p) ∧ ∃ fd, FunD K p.2.2.name p.2.2.qual p.2.2.params p.2.2.body p.2.2.scope (p.2.2.dvs K) (p.2.2.kws K) (prAt K p) fd := by
  have e := congrArg (fun l => l[i]?) c.fns.2
  simp only [List.getElem?_map, h] at e
  obtain ⟨h1, h2⟩ := c.all.2.2.1 p (List.mem_of_getElem? h)
  exact ⟨prB_ok h1, funA (Option.some.inj e) h2⟩
end
/-! ### rows of one, two, three -/
theorem in1 {α : Type} {P : α → Prop} {a : α} (h : P a) : ∀ x ∈ [a], P x := fun x hx => by
  obtain rfl := List.mem_singleton.mp hx
  exact h
theorem in2 {α : Type} {P : α → Prop} {a b : α} (h : P a) (k : P b) : ∀ x ∈ [a, b], P x := fun x hx => by
  rcases List.mem_cons.mp hx with rfl | hx
  · exact h
  · exact in1 k x hx
theorem in3 {α : Type} {P : α → Prop} {a b c : α} (h : P a) (k : P b) (l : P c) : ∀ x ∈ [a, b, c], P x := fun x hx => by
  rcases List.mem_cons.mp hx with rfl | hx
  · exact h
  · exact in2 k l x hx
section
variable {X : Cx} {m : Str} {k n : Nat} {ks : List Str} {ix : List Nat} {dd : List D}
theorem alt1 {C : Addr} {F : FXp} (h : MAlt X m k n ks ix dd C F) : ∀ C' F', (C', F') ∈ [(C, F)] → MAlt X m k n ks ix dd C' F' := fun C' F' hx => by
  cases List.mem_singleton.mp hx
  exact h
theorem alt2 {C D : Addr} {F G : FXp} (h : MAlt X m k n ks ix dd C F) (h2 : MAlt X m k n ks ix dd D G) : ∀ C' F', (C', F') ∈ [(C, F), (D, G)] → MAlt X m k n ks ix dd C' F' := fun C' F' hx => by
  rcases List.mem_cons.mp hx with e | hx
  · cases e
    exact h
  · exact alt1 h2 C' F' hx
end
theorem hu1 {A : Around} {k : Nat} (hr : Room k A) : A.units + 1 < cLine := by have := hr.un; omega
/-- a global's def that may raise -/
structure FnG (P : Program) (w : World) (K : PySem.W.Frag) (mg : Str → Option Value) (base : Heap) (d : He.DefD) (k : Nat) (ps : List Str) (F : FXp) : Prop where
  x : FnX P w K mg base d (He.fAd K d.at_) k ps F
  mg : mg d.name = some (.ref (He.fAd K d.at_))
theorem FnV.g {P : Program} {w : World} {K : PySem.W.Frag} {mg : Str → Option Value} {base : Heap} {d : He.DefD} {k : Nat} {ps : List Str} {F : FSp} (h : FnV P w K mg base d k ps F) : FnG P w K mg base d k ps (lift F) := ⟨h.x, h.mg⟩
/-- a property's getter -/
structure PrV (P : Program) (w : World) (K : PySem.W.Frag) (mg : Str → Option Value) (base : Heap) (C : Addr) (m : Str) (k : Nat) (F : FSp) : Prop where
  ex : ∃ pa f fd ps, PropOf K C m pa f ∧ FnOk P w K mg base CX0 k f fd ps (spV K F) ∧ Binds K fd ps []
theorem prv_ok {P : Program} {w : World} {K : PySem.W.Frag} {mg : Str → Option Value} {base : Heap} {C pa f : Addr} {m : Str} {k : Nat} {d : He.DefD} {N : List Str} {p0 : Str} {F : FSp} {g : GS}
    (hp : PropOf K C m pa f ∧ ∃ fd, FunD K d.name d.qual d.params d.body d.scope (d.dvs K) (d.kws K) f fd) (hd : d.dfl = []) (Sc : FnScope N [p0] d.scope)
    (hb : ∀ (kV doc pm : Value) (an : Option Addr) (cdv ct : Value) (us : List Value), us.length = 1 → bindArgs (PySem.W.fnOf d.name d.qual d.params d.body d.scope .none kV doc pm an cdv ct) ⟨us, []⟩ = pure ([p0].zip us))
    (hbody : ∀ (f : Addr) (cdv : Value) (A : Around) (outer : List Env) (s : Shared) (H : Hp) (E : XK), Room k (A.deeper (envOfC d.qual d.scope s.heap.objs.size f cdv)) → VSs (cxOf CX0 P w K mg base N d.qual d.scope f cdv A outer s H E).nox E0T d.body g)
    (len : ∀ svs Qs, F svs Qs → svs.length = [p0].length) (spec : ∀ svs Qs, F svs Qs → g { nx := fun _ => Qs (.tr .non), rt := Qs } (startS N svs)) : PrV P w K mg base C m (k + 1) F := by
  obtain ⟨hp, fd, hf⟩ := hp
  have hk := fn_ok hf Sc (fun cdv A outer s H E hr => hbody _ cdv A outer s H E hr) len spec
  have e1 : d.dvs K = [] := by unfold He.DefD.dvs; rw [hd]; rfl
  rw [e1] at hf
  exact ⟨pa, f, fd, [p0], hp, hk, hf.bindsN hb⟩
theorem ve_prp {X : Cx} {EX : EXT} {C : Addr} {m : Str} {k : Nat} {F : FSp} {o : Expr} {go : GE} {pos : Pos} (he : VE X EX o go) (c : Cls X.K C) (h : PrV X.prog X.w X.K X.mg X.base C m k F) (hr : Room (k + 1) X.A)
    (hab : attributeBase o m X.env (eval o X.env) = eval o X.env := by rfl) : VE X EX (.Attribute o m pos) (gProp C F go) := by
  obtain ⟨pa, f, fd, ps, hp, hk, hb⟩ := h
  exact ve_prop he c hp hk hr hb hab
/-- a method: the statement inside a class -/
def clsBody : Stmt → List Stmt
  | .ClassDef _ _ _ b _ _ _ _ _ _ _ => b
  | _ => []
end VT

namespace VT
open PySem PySem.Spec PyProof.Rows L2

@[simp] theorem isT_exn (C : Addr) (fs : List (Str × D)) (T : Ty) : (D.exn C fs).isT T = false := by cases T <;> rfl
@[simp] theorem dat_exn (C : Addr) (fs : List (Str × D)) : (D.exn C fs).dat = false := rfl
@[simp] theorem items_exn (C : Addr) (fs : List (Str × D)) : (D.exn C fs).items = none := rfl
@[simp] theorem kind_exn (C : Addr) (fs : List (Str × D)) : (D.exn C fs).kind = none := rfl
@[simp] theorem isNon_exn (C : Addr) (fs : List (Str × D)) : (D.exn C fs).isNon = false := rfl
/-- a loop over a row of known make -/
theorem forW_as {α : Type} {gg : GG} {gb : GS} {D : VEnds} {S : S} {as : List α} (g : α → VT.D) (I : List α → VT.S → Prop) (h0 : I as S) (hN : ∀ S', I [] S' → D.nx S')
    (hs : ∀ a r S1, I (a :: r) S1 → ∀ N : VT.S → Prop, (∀ S', I r S' → N S') → gg (g a) S1 fun S2 => gb { nx := N, rt := D.rt, bk := D.nx, ct := N } S2) {ds : List VT.D} (hd : ds = as.map g) : ForW gg gb D S ds := by
  subst hd
  refine ⟨fun r S => ∃ ras, r = ras.map g ∧ I ras S, ⟨as, rfl, h0⟩, fun S' ⟨ras, e, i⟩ => ?_, fun d r S1 ⟨ras, e, i⟩ => ?_⟩
  · have : ras = [] := by
      cases ras with
      | nil => rfl
      | cons a r => cases e
    subst this
    exact hN _ i
  · cases ras with
    | nil => cases e
    | cons a r =>
      cases e
      exact hs a r S1 i _ fun S h => ⟨r, rfl, h⟩
/-! ### written texts are told apart -/
@[simp] theorem ofS_inj (a b : String) : (Str.ofString a = Str.ofString b) ↔ a = b := by
  constructor
  · intro h
    rw [Str.ofString_eq_toList, Str.ofString_eq_toList] at h
    have h1 : a.toList.map Char.toNat = b.toList.map Char.toNat := by
      have := congrArg (fun z : Str => z.cps.toList) h
      simpa using this
    have h2 : a.toList = b.toList := List.map_inj_right (fun x y e => Char.ext (UInt32.toNat_inj.mp e)) |>.mp h1
    exact String.ext (by simpa using h2)
  · rintro rfl
    rfl
@[simp] theorem ofS_beq (a b : String) : (Str.ofString a == Str.ofString b) = (a == b) := by
  rw [Bool.eq_iff_iff, beq_iff_eq, beq_iff_eq, ofS_inj]
@[simp] theorem fput_nil (f : Str) (x : FV) : fput f x [] = [(f, x)] := rfl
@[simp] theorem fput_cons (f g : Str) (x y : FV) (r : List (Str × FV)) : fput f x ((g, y) :: r) = if g = f then (g, x) :: r else (g, y) :: fput f x r := rfl
/-- a dict by its keys, texts -/
def mapD (ns : List Str) (f : Str → D) : List (Key × D) := ns.map fun n => (.inr n, f n)
@[simp] theorem mapD_nil (f : Str → D) : mapD [] f = [] := rfl
@[simp] theorem mapD_len (ns : List Str) (f : Str → D) : (mapD ns f).length = ns.length := by simp [mapD]
theorem valD_map (f : Str → D) (n : Str) : ∀ ns : List Str, valD (mapD ns f) (.inr n) = if n ∈ ns then some (f n) else none
  | [] => rfl
  | m :: ns => by
    have ih := valD_map f n ns
    unfold valD mapD at ih ⊢
    rw [List.map_cons, List.find?_cons]
    by_cases h : m = n
    · subst h
      simp
    · have h1 : ¬ ((Sum.inr m : Key) = .inr n) := fun z => h (by cases z; rfl)
      simp only [h1, decide_false]
      rw [ih]
      have h2 : n ≠ m := fun z => h z.symm
      simp [h2]
theorem valD_mem {f : Str → D} {n : Str} {ns : List Str} (h : n ∈ ns) : valD (mapD ns f) (.inr n) = some (f n) := by rw [valD_map, if_pos h]
theorem putD_mem {f : Str → D} {n : Str} {y : D} {ns : List Str} (h : n ∈ ns) : putD (mapD ns f) (.inr n) y = mapD ns fun m => if m = n then y else f m := by
  unfold putD mapD
  have e : ((ns.map fun n => ((.inr n : Key), f n)).any fun kv => decide (kv.1 = .inr n)) = true := by
    rw [List.any_eq_true]
    exact ⟨(.inr n, f n), List.mem_map.mpr ⟨n, h, rfl⟩, by simp⟩
  rw [if_pos e, List.map_map]
  refine List.map_congr_left fun m _ => ?_
  by_cases hm : m = n
  · subst hm
    simp
  · have h1 : ¬ ((Sum.inr m : Key) = .inr n) := fun z => hm (by cases z; rfl)
    simp only [Function.comp_apply, if_neg h1, if_neg hm]
theorem putD_new {f : Str → D} {n : Str} {ns : List Str} (h : n ∉ ns) : putD (mapD ns f) (.inr n) (f n) = mapD (ns ++ [n]) f := by
  unfold putD mapD
  have e : ((ns.map fun n => ((.inr n : Key), f n)).any fun kv => decide (kv.1 = .inr n)) = false := by
    rw [List.any_eq_false]
    intro kv hk
    obtain ⟨m, hm, rfl⟩ := List.mem_map.mp hk
    simp
    rintro rfl
    exact h hm
  rw [if_neg (by rw [e]; decide), List.map_append]
  rfl
theorem mapD_congr {f g : Str → D} {ns : List Str} (h : ∀ n ∈ ns, f n = g n) : mapD ns f = mapD ns g := by
  unfold mapD
  exact List.map_congr_left fun n hn => by rw [h n hn]
/-- the first of a list, read -/
theorem atI_some {α : Type} {xs : List α} {i : Nat} {x : α} (h : xs[i]? = some x) : atI xs (i : Int) = some x := by rw [atN]; exact h
theorem atI_last {α : Type} {xs : List α} {x : α} : atI (xs ++ [x]) (-1) = some x := by
  unfold atI ixN
  rw [if_neg (by decide), if_pos (by simp; omega)]
  have e : ((-1 : Int) + ((xs ++ [x]).length : Nat)).toNat = xs.length := by simp; omega
  show (xs ++ [x])[((-1 : Int) + ((xs ++ [x]).length : Nat)).toNat]? = some x
  rw [e]
  simp
theorem cutD_to {α : Type} {xs : List α} {k : Nat} (h : k ≤ xs.length) : cutD xs none (some (k : Int)) = xs.take k := by
  unfold cutD
  rw [HT.sIx_nat, HT.sIx_none, Nat.min_eq_left h]
  rfl
theorem cutD_from {α : Type} {xs : List α} {k : Nat} (h : k ≤ xs.length) : cutD xs (some (k : Int)) none = xs.drop k := by
  unfold cutD
  rw [HT.sIx_nat, HT.sIx_none, Nat.min_eq_left h]
  exact List.take_of_length_le (by simp)
/-- {n: f n for n in ns}, different names -/
theorem dcW_names {gg : GG} {gt : GT} {gk ge : GE} {vs : List Nat} {S : S} {Q : SV → Prop} {ns : List Str} (f : Str → D) (hd : ns.Nodup) (hl : ns.length < sizeLine)
    (hs : ∀ n ∈ ns, ∀ (B : Key → D → Prop) (E : Prop), B (.inr n) (f n) → gg (.str n) (wipeS S vs) fun S2 => gt S2 fun b => if b = true then gk S2 fun sk => ∃ k, keyD sk.d = some k ∧ ge S2 fun sv => ∃ y, sv = .tr y ∧ B k y else E)
    (q : Q (.own (.dic (mapD ns f)))) : DcW gg gt gk ge vs S Q (ns.map .str) := by
  refine ⟨fun r acc => ∃ a b, ns = a ++ b ∧ r = b.map .str ∧ acc = mapD a f, ⟨[], ns, rfl, rfl, rfl⟩, fun acc ⟨a, b, e1, e2, e3⟩ => ?_, fun d r acc ⟨a, b, e1, e2, e3⟩ => ?_⟩
  · cases b with
    | nil =>
      rw [List.append_nil] at e1
      subst e1 e3
      exact q
    | cons x b => cases e2
  · cases b with
    | nil => cases e2
    | cons n b =>
      cases e2
      have hn : n ∈ ns := by rw [e1]; simp
      have ha : n ∉ a := by
        rw [e1, List.nodup_append] at hd
        intro h
        exact hd.2.2 n h n (by simp) rfl
      refine hs n hn (fun k y => acc.length < sizeLine ∧ ∃ a' b', ns = a' ++ b' ∧ b.map D.str = b'.map D.str ∧ putD acc k y = mapD a' f) _ ⟨?_, a ++ [n], b, by rw [e1]; simp, rfl, ?_⟩
      · rw [e3, mapD_len]
        rw [e1, List.length_append] at hl
        omega
      · rw [e3, putD_new ha]
theorem IsA.arg {sv : SV} {d : D} (h : IsA sv d) : IsA sv.arg d := by
  obtain ⟨h1, h2, h3⟩ := h
  cases sv with
  | tr x => exact ⟨rfl, h2, fun _ => trivial⟩
  | own x => cases h1
  | brw x => exact ⟨rfl, h2, fun _ => trivial⟩
  | pk x => cases h3 false
  | tz x => exact ⟨rfl, h2, fun _ => trivial⟩
  | _ => exact (h3 false).elim
/-- a loop with a measure -/
theorem whileW {gc : GT} {gb : GS} {D : VEnds} {S : S} (I : Nat → VT.S → Prop) (m0 : Nat) (h0 : I m0 S)
    (hs : ∀ m S, I m S → ∀ N : VT.S → Prop, (∀ m' S', m' < m → I m' S' → N S') → gc S fun b => if b = true then gb { nx := N, rt := D.rt, bk := D.nx, ct := N } S else D.nx S) : gWhile gc gb D S :=
  ⟨I, ⟨m0, h0⟩, fun m S h => hs m S h _ fun m' S' hm hi => ⟨m', hm, hi⟩⟩
end VT

namespace VT
open PySem PySem.Spec PyProof.Rows L2

/-! ### cells of a frame, known while others run -/
abbrev cellO (o : Obj) : HO := .frz o (.frz o (.ext fun _ => True))
def holdH (cs : List (Addr × Obj)) (H : Hp) : Hp := fun b => match cs.lookup b with
  | some o => some (cellO o)
  | none => H b
def freeH (cs : List (Addr × Obj)) (H : Hp) : Hp := fun b => match cs.lookup b with
  | some _ => none
  | none => H b
section
variable {cs : List (Addr × Obj)} {H H' : Hp} {b : Addr} {o : Obj} {u : HO}
theorem hold_at (h : cs.lookup b = some o) : holdH cs H b = some (cellO o) := by unfold holdH; rw [h]
theorem hold_off (h : cs.lookup b = none) : holdH cs H b = H b := by unfold holdH; rw [h]
theorem free_at (h : cs.lookup b = some o) : freeH cs H b = none := by unfold freeH; rw [h]
theorem free_off (h : cs.lookup b = none) : freeH cs H b = H b := by unfold freeH; rw [h]
/-- what is no cell was there -/
theorem of_free (h : freeH cs H b = some u) : cs.lookup b = none ∧ H b = some u := by
  cases e : cs.lookup b with
  | some o => rw [free_at e] at h; cases h
  | none => rw [free_off e] at h; exact ⟨rfl, h⟩
theorem nc_own (x : Addr) : ∀ o, HO.own x ≠ cellO o := fun o z => by cases z
theorem nc_tup (x : List V) : ∀ o, HO.tup x ≠ cellO o := fun o z => by cases z
theorem nc_lst (x : List V) : ∀ o, HO.lst x ≠ cellO o := fun o z => by cases z
theorem nc_dK (x : List (Key × V)) : ∀ o, HO.dK x ≠ cellO o := fun o z => by cases z
theorem nc_dT (x : List (List Key × V)) : ∀ o, HO.dT x ≠ cellO o := fun o z => by cases z
theorem nc_tbl (x : Array Value) : ∀ o, HO.tbl x ≠ cellO o := fun o z => by cases z
theorem nc_xd (x : List (Str × V)) : ∀ o, HO.xd x ≠ cellO o := fun o z => by cases z
theorem nc_ins (C dx : Addr) (x : List (Str × V)) : ∀ o, HO.ins C dx x ≠ cellO o := fun o z => by cases z
theorem nc_frz (o' : Obj) (x : List V) : ∀ o, HO.frz o' (.tup x) ≠ cellO o := fun o z => by cases z
theorem nc_code (c : Addr) (q : Str) : ∀ o, LamX.CodeO c q ≠ cellO o := fun o z => by unfold LamX.CodeO at z; cases z
theorem nc_lam (f c : Addr) (dV : Value) (b : LamB) : ∀ o, lamO f c dV b ≠ cellO o := fun o z => by unfold lamO at z; cases z
theorem nc_exn (o' : Obj) (a C dx : Addr) : ∀ o, HO.frz o' (exnO a C dx) ≠ cellO o := fun o z => by unfold exnO at z; cases z
/-- the cells are not in H -/
abbrev Out (cs : List (Addr × Obj)) (H : Hp) : Prop := ∀ c o, cs.lookup c = some o → H c = none
/-- .. are known to H -/
abbrev Kn (cs : List (Addr × Obj)) (H : Hp) : Prop := ∀ c o, cs.lookup c = some o → H c = some (cellO o)
theorem Out.off (h : Out cs H) (e : H b = some u) : cs.lookup b = none := by
  cases q : cs.lookup b with
  | none => rfl
  | some o => rw [h b o q] at e; cases e
theorem Kn.off (h : Kn cs H) (e : H b = some u) (n : ∀ o, u ≠ cellO o) : cs.lookup b = none := by
  cases q : cs.lookup b with
  | none => rfl
  | some o => rw [h b o q] at e; exact (n o (Option.some.inj e).symm).elim
theorem Kn.offN (h : Kn cs H) (e : H b = none) : cs.lookup b = none := by
  cases q : cs.lookup b with
  | none => rfl
  | some o => rw [h b o q] at e; cases e
theorem Out.hold (h : Out cs H) (e : H b = some u) : holdH cs H b = some u := by rw [hold_off (h.off e)]; exact e
theorem Kn.free (h : Kn cs H) (e : H b = some u) (n : ∀ o, u ≠ cellO o) : freeH cs H b = some u := by rw [free_off (h.off e n)]; exact e
theorem kn_hold : Kn cs (holdH cs H) := fun c o h => hold_at h
theorem out_free : Out cs (freeH cs H) := fun c o h => free_at h
theorem of_holdN (h : holdH cs H b = none) : cs.lookup b = none ∧ H b = none := by
  cases e : cs.lookup b with
  | some o => rw [hold_at e] at h; cases h
  | none => rw [hold_off e] at h; exact ⟨rfl, h⟩
theorem holdN (h : cs.lookup b = none) (e : H b = none) : holdH cs H b = none := by rw [hold_off h]; exact e
theorem freeN (e : H b = none) : freeH cs H b = none := by
  cases q : cs.lookup b with
  | none => rw [free_off q]; exact e
  | some o => exact free_at q
end
section
variable {P : Program} {w : World} {cs : List (Addr × Obj)} {H H' : Hp} {h h' B : Heap} {fs : List Addr}
theorem hok_hold (hok : HOk P w H h) (ho : Out cs H) (hc : ∀ c o, cs.lookup c = some o → h.get? c = some o) : HOk P w (holdH cs H) h := fun b u e => by
  cases q : cs.lookup b with
  | some o =>
    rw [hold_at q] at e
    cases e
    have z := hc b o q
    exact ⟨z, z, trivial, ⟨o, z⟩, fun _ _ _ _ => trivial⟩
  | none =>
    rw [hold_off q] at e
    exact (hok b u e).stay (fun _ _ _ q => q) (fun c q => ho.hold q) fun c xs q => ho.hold q
theorem hok_free (hok : HOk P w H h) (hk : Kn cs H) : HOk P w (freeH cs H) h := fun b u e => by
  obtain ⟨q, e⟩ := of_free e
  exact (hok b u e).stay (fun _ _ _ q => q) (fun c q => hk.free q (nc_own _)) fun c xs q => hk.free q (nc_tup _)
theorem un_down (u : Un fs [] (holdH cs H) H' h h') (ho : Out cs H) (hc : ∀ c o, cs.lookup c = some o → h.get? c = some o) (hok : HOk P w H' h') : Un fs [] H (freeH cs H') h h' := by
  have kn : Kn cs H' := fun c o q => u.frzs c o _ (hold_at q)
  have at_ : ∀ c o ob, h.get? c = some ob → cs.lookup c = some o → h'.get? c = some ob := fun c o ob e q => by
    have z := (hok c _ (kn c o q)).1
    rw [hc c o q] at e
    cases e
    exact z
  refine ⟨fun b o e n hb hx => ?_, fun b o e n hb hx => ?_, fun b o e n hx => ?_, fun b o e hx => u.there b o e hx, fun b xs e => kn.free (u.tups b xs (ho.hold e)) (nc_tup _), fun b o xs e => ?_, fun b ps e => ?_⟩
  · cases q : cs.lookup b with
    | some ob => exact at_ b ob o e q
    | none => exact u.keep b o e (holdN q n) hb hx
  · cases q : cs.lookup b with
    | some ob => exact ⟨o.slots, at_ b ob o e q⟩
    | none => exact u.slot b o e (holdN q n) hb hx
  · cases q : cs.lookup b with
    | some ob => exact free_at q
    | none => exact freeN (u.free b o e (holdN q n) hx)
  · have q := ho.off e
    rw [free_off q]
    exact u.frzs b o xs (ho.hold e)
  · obtain ⟨m, z⟩ := u.tbls b ps (ho.hold e)
    exact ⟨m, kn.free z (nc_tbl _)⟩
theorem un_up (u : Un fs [] (freeH cs H) H' h h') (hk : Kn cs H) (hc : ∀ c o, cs.lookup c = some o → h.get? c = some o) : Out cs H' ∧ Un fs [] H (holdH cs H') h h' := by
  have out : Out cs H' := fun c o q => u.free c o (hc c o q) (free_at q) (by simp)
  have off : ∀ b, H b = none → cs.lookup b = none ∧ freeH cs H b = none := fun b n => ⟨hk.offN n, freeN n⟩
  refine ⟨out, fun b o e n hb hx => u.keep b o e (off b n).2 hb hx, fun b o e n hb hx => u.slot b o e (off b n).2 hb hx, fun b o e n hx => holdN (off b n).1 (u.free b o e (off b n).2 hx), fun b o e hx => u.there b o e hx, fun b xs e => out.hold (u.tups b xs (hk.free e (nc_tup _))), fun b o xs e => ?_, fun b ps e => ?_⟩
  · cases q : cs.lookup b with
    | some ob =>
      rw [hk b ob q] at e
      rw [hold_at q]
      exact e
    | none =>
      rw [hold_off q]
      exact u.frzs b o xs (by rw [free_off q]; exact e)
  · obtain ⟨m, z⟩ := u.tbls b ps (hk.free e (nc_tbl _))
    exact ⟨m, out.hold z⟩
theorem ub_down (u : UB fs (holdH cs H) H' h B h') (ho : Out cs H) (hc : ∀ c o, cs.lookup c = some o → h.get? c = some o) (hok : HOk P w H' B) : UB fs H (freeH cs H') h B h' := by
  have kn : Kn cs H' := fun c o q => u.frzs c o _ (hold_at q)
  refine ⟨fun b o e n hb => ?_, u.slot, fun b o e n => ?_, u.there, fun b xs e => kn.free (u.tups b xs (ho.hold e)) (nc_tup _), fun b o xs e => ?_, fun b ps e => ?_⟩
  · cases q : cs.lookup b with
    | some ob =>
      have z := (hok b _ (kn b ob q)).1
      rw [hc b ob q] at e
      cases e
      exact z
    | none => exact u.keep b o e (holdN q n) hb
  · cases q : cs.lookup b with
    | some ob => exact free_at q
    | none => exact freeN (u.free b o e (holdN q n))
  · have q := ho.off e
    rw [free_off q]
    exact u.frzs b o xs (ho.hold e)
  · obtain ⟨m, z⟩ := u.tbls b ps (ho.hold e)
    exact ⟨m, kn.free z (nc_tbl _)⟩
theorem ub_up (u : UB fs (freeH cs H) H' h B h') (hk : Kn cs H) (hc : ∀ c o, cs.lookup c = some o → h.get? c = some o) : Out cs H' ∧ UB fs H (holdH cs H') h B h' := by
  have out : Out cs H' := fun c o q => u.free c o (hc c o q) (free_at q)
  have off : ∀ b, H b = none → cs.lookup b = none ∧ freeH cs H b = none := fun b n => ⟨hk.offN n, freeN n⟩
  refine ⟨out, fun b o e n hb => u.keep b o e (off b n).2 hb, u.slot, fun b o e n => holdN (off b n).1 (u.free b o e (off b n).2), u.there, fun b xs e => out.hold (u.tups b xs (hk.free e (nc_tup _))), fun b o xs e => ?_, fun b ps e => ?_⟩
  · cases q : cs.lookup b with
    | some ob =>
      rw [hk b ob q] at e
      rw [hold_at q]
      exact e
    | none =>
      rw [hold_off q]
      exact u.frzs b o xs (by rw [free_off q]; exact e)
  · obtain ⟨m, z⟩ := u.tbls b ps (hk.free e (nc_tbl _))
    exact ⟨m, out.hold z⟩
variable {outer : List Env} {s s' : Shared} {Q Q' : VK} {E E' : XK} {r : Result}
/-- a call's end without the cells -/
theorem cr_down (ho : Out cs H) (hc : ∀ c o, cs.lookup c = some o → s.heap.get? c = some o) (hQ : ∀ v H', Kn cs H' → Q' v H' → Q v (freeH cs H')) (hE : ∀ cls d H', Kn cs H' → E' cls d H' → E cls d (freeH cs H'))
    (z : CR (L2.CX P w) outer P w (holdH cs H) s Q' E' r s') : CR (L2.CX P w) outer P w H s Q E r s' := by
  cases r with
  | error e =>
    obtain ⟨a, B, H', cls, d, h1, h2, hok, ub, na, os, ag, q⟩ := z
    have kn : Kn cs H' := fun c o q => ub.frzs c o _ (hold_at q)
    exact ⟨a, B, freeH cs H', cls, d, h1, h2, hok_free hok kn, ub_down ub ho hc hok, freeN na, os, ag, hE _ _ _ kn q⟩
  | ok fl =>
    cases fl with
    | ret u =>
      obtain ⟨v, H', os, ag, un, hok, rv, q⟩ := z
      have kn : Kn cs H' := fun c o q => un.frzs c o _ (hold_at q)
      exact ⟨v, freeH cs H', os, ag, un_down un ho hc hok, hok_free hok kn, rv, hQ _ _ kn q⟩
    | next => exact z
    | brk => exact z
    | cont => exact z
/-- .. with them -/
theorem cr_up (hk : Kn cs H) (hc : ∀ c o, cs.lookup c = some o → s.heap.get? c = some o) (hf : ∀ c o, cs.lookup c = some o → c ∉ frs outer) (hQ : ∀ v H', Out cs H' → Q' v H' → Q v (holdH cs H')) (hE : ∀ cls d H', Out cs H' → E' cls d H' → E cls d (holdH cs H'))
    (z : CR (L2.CX P w) outer P w (freeH cs H) s Q' E' r s') : CR (L2.CX P w) outer P w H s Q E r s' := by
  cases r with
  | error e =>
    obtain ⟨a, B, H', cls, d, h1, h2, hok, ub, na, os, ag, q⟩ := z
    obtain ⟨out, ub'⟩ := ub_up ub hk hc
    have hB : ∀ c o, cs.lookup c = some o → B.get? c = some o := fun c o q => ub.keep c o (hc c o q) (free_at q) (hf c o q)
    refine ⟨a, B, holdH cs H', cls, d, h1, h2, hok_hold hok out hB, ub', ?_, os, ag, hE _ _ _ out q⟩
    cases q : cs.lookup a with
    | none => exact holdN q na
    | some o =>
      have z := hB a o q
      rw [h2.2.1] at z
      cases z
  | ok fl =>
    cases fl with
    | ret u =>
      obtain ⟨v, H', os, ag, un, hok, rv, q⟩ := z
      obtain ⟨out, un'⟩ := un_up un hk hc
      exact ⟨v, holdH cs H', os, ag, un', hok_hold hok out fun c o q => un.keep c o (hc c o q) (free_at q) (hf c o q) (by simp), rv, hQ _ _ out q⟩
    | next => exact z
    | brk => exact z
    | cont => exact z
variable {K : PySem.W.Frag} {mg : Str → Option Value} {base : Heap} {A : Around}
theorem env0_hold (e : Env0 P w K mg base A outer s H) (ho : Out cs H) (hc : ∀ c o, cs.lookup c = some o → s.heap.get? c = some o) (hb : ∀ c o, cs.lookup c = some o → base.get? c = none) (hf : ∀ c o, cs.lookup c = some o → c ∉ frs outer) : Env0 P w K mg base A outer s (holdH cs H) := by
  refine ⟨e.frames, e.mod, fun b o q => ⟨(e.bs b o q).1, holdN ?_ (e.bs b o q).2⟩, e.bsz, e.funs, fun b hb => holdN ?_ (e.frf b hb), hok_hold e.hok ho hc, e.bare⟩
  · cases z : cs.lookup b with
    | none => rfl
    | some ob => rw [hb b ob z] at q; cases q
  · cases z : cs.lookup b with
    | none => rfl
    | some ob => exact (hf b ob z hb).elim
theorem env0_free (e : Env0 P w K mg base A outer s H) (hk : Kn cs H) : Env0 P w K mg base A outer s (freeH cs H) :=
  ⟨e.frames, e.mod, fun b o q => ⟨(e.bs b o q).1, freeN (e.bs b o q).2⟩, e.bsz, e.funs, fun b hb => freeN (e.frf b hb), hok_free e.hok hk, e.bare⟩
end
/-! ### the ghosts -/
abbrev Gh.hold (cs : List (Addr × Obj)) (G : Gh) : Gh := ⟨holdH cs G.F, G.pb, G.T⟩
abbrev Gh.free (cs : List (Addr × Obj)) (G : Gh) : Gh := ⟨freeH cs G.F, G.pb, G.T⟩
section
variable {cs : List (Addr × Obj)} {G G1 G' : Gh} {H H1 H' : Hp}
theorem bag_in (ok : OkG G H) {p : Addr} (h : G.pb = some p) : ∃ xs, H p = some (.lst xs) := by
  obtain ⟨⟨c, ns, i, r, m, e, _⟩, _⟩ := ok.bag p h
  exact ⟨_, e⟩
theorem okG_hold (ok : OkG G H) (ho : Out cs H) : OkG (G.hold cs) (holdH cs H) := by
  have hF : ∀ b o, G.F b = some o → holdH cs G.F b = some o := fun b o e => by rw [hold_off (ho.off (ok.sub b o e))]; exact e
  refine ⟨fun b o e => ?_, fun p e => ⟨(ok.bag p e).1.go (fun u q => ho.hold q) hF, ?_⟩, ok.tabs.ext hF (fun b ps q => ho.hold q) fun b ps n q => by show holdH cs G.F b = none; exact holdN (ho.off q) n⟩
  · cases q : cs.lookup b with
    | some ob =>
      have e : holdH cs G.F b = some o := e
      rw [hold_at q] at e ⊢
      exact e
    | none =>
      have e : holdH cs G.F b = some o := e
      rw [hold_off q] at e ⊢
      exact ok.sub b o e
  · obtain ⟨xs, q⟩ := bag_in ok e
    exact holdN (ho.off q) (ok.bag p e).2
theorem okG_free (ok : OkG G H) (hk : Kn cs G.F) : OkG (G.free cs) (freeH cs H) := by
  have hK : Kn cs H := fun c o q => ok.sub _ _ (hk c o q)
  refine ⟨fun b o e => ?_, fun p e => ⟨?_, freeN (ok.bag p e).2⟩, fun p hp => ?_, fun p hp => ?_⟩
  · obtain ⟨q, e⟩ := of_free (H := G.F) e
    rw [free_off q]
    exact ok.sub b o e
  · obtain ⟨⟨c, ns, i, r, m, e1, e2, z⟩, _⟩ := ok.bag p e
    exact ⟨c, ns, i, r, m, hK.free e1 (nc_lst _), hk.free e2 (nc_lst _), z⟩
  · obtain ⟨nn, ps, e, k, c⟩ := ok.tabs.1 p hp
    refine ⟨freeN nn, ps, hK.free e (nc_tbl _), k, fun pos cv hc => ?_⟩
    obtain ⟨b, e1, e2⟩ := c pos cv hc
    exact ⟨b, e1, hk.free e2 (nc_code _ _)⟩
  · obtain ⟨o, vs, h1, h2, h3⟩ := ok.tabs.2 p hp
    exact ⟨o, vs, h1, hk.free h2 (nc_frz _ _), h3⟩
theorem ext_down (E : Ext (G.hold cs) (holdH cs H) G1 H1) (ok : OkG G H) (ho : Out cs H) : Kn cs G1.F ∧ Ext G H (G1.free cs) (freeH cs H1) := by
  have kn : Kn cs G1.F := fun c o q => E.frz c _ (hold_at q)
  have kH : Kn cs H1 := fun c o q => E.ok.sub _ _ (kn c o q)
  refine ⟨kn, okG_free E.ok kn, fun b o e q n => ?_, fun b ps e => ?_, E.tt, E.pb, fun p h => ?_, fun b o e => ?_, fun b o e => ?_⟩
  · rw [free_off (ho.off e)]
    exact E.same b o (ho.hold e) q n
  · obtain ⟨ps', z⟩ := E.tbl b ps (ho.hold e)
    exact ⟨ps', kH.free z (nc_tbl _)⟩
  · exact (E.pnew p h).imp id fun z => (of_holdN z).2
  · have e1 : holdH cs G.F b = some o := by rw [hold_off (ho.off (ok.sub b o e))]; exact e
    show freeH cs G1.F b = some o
    rw [free_off (ho.off (ok.sub b o e))]
    exact E.frz b o e1
  · obtain ⟨q, e⟩ := of_free (H := G1.F) e
    rcases E.new b o e with z | z
    · have z : holdH cs G.F b = some o := z
      rw [hold_off q] at z
      exact .inl z
    · exact .inr (of_holdN z).2
theorem ext_up (E : Ext (G1.free cs) (freeH cs H1) G' H') (ok : OkG G1 H1) (hk : Kn cs G1.F) (ho : Out cs H') : Ext G1 H1 (G'.hold cs) (holdH cs H') := by
  have kH : Kn cs H1 := fun c o q => ok.sub _ _ (hk c o q)
  refine ⟨okG_hold E.ok ho, fun b o e q n => ?_, fun b ps e => ?_, E.tt, E.pb, fun p h => ?_, fun b o e => ?_, fun b o e => ?_⟩
  · cases z : cs.lookup b with
    | some ob =>
      rw [kH b ob z] at e
      rw [hold_at z]
      exact e
    | none =>
      rw [hold_off z]
      exact E.same b o (by rw [free_off z]; exact e) q n
  · obtain ⟨ps', z⟩ := E.tbl b ps (kH.free e (nc_tbl _))
    exact ⟨ps', ho.hold z⟩
  · refine (E.pnew p h).imp id fun z => ?_
    obtain ⟨xs, e⟩ := bag_in E.ok h
    rw [free_off (ho.off e)] at z
    exact z
  · cases z : cs.lookup b with
    | some ob =>
      rw [hk b ob z] at e
      show holdH cs G'.F b = some o
      rw [hold_at z]
      exact e
    | none =>
      show holdH cs G'.F b = some o
      rw [hold_off z]
      exact E.frz b o (by show freeH cs G1.F b = some o; rw [free_off z]; exact e)
  · cases z : cs.lookup b with
    | some ob =>
      have e : holdH cs G'.F b = some o := e
      rw [hold_at z] at e
      exact .inl ((hk b ob z).trans e)
    | none =>
      have e : holdH cs G'.F b = some o := e
      rw [hold_off z] at e
      rcases E.new b o e with q | q
      · exact .inl (of_free (H := G1.F) q).2
      · rw [free_off z] at q
        exact .inr q
end
/-! ### trees have no cells -/
section
variable {F F' : Hp}
mutual
theorem rep.nc (h : ∀ b u, F b = some u → (∀ o, u ≠ cellO o) → F' b = some u) : ∀ (d : D) (v : V), rep F d v → rep F' d v
  | .non, _, r => r
  | .bl _, _, r => r
  | .int _, _, r => r
  | .str _, _, r => r
  | .lst ds, _, ⟨a, vs, e, q, r⟩ => ⟨a, vs, e, h _ _ q (nc_lst _), reps.nc h ds vs r⟩
  | .tup ds, _, ⟨a, vs, e, q, r⟩ => ⟨a, vs, e, q.imp (fun q => h _ _ q (nc_tup _)) fun ⟨o, q⟩ => ⟨o, h _ _ q (nc_frz _ _)⟩, reps.nc h ds vs r⟩
  | .dic kvs, _, ⟨a, ws, e, q, r⟩ => ⟨a, ws, e, h _ _ q (nc_dK _), repk.nc h kvs ws r⟩
  | .dit kvs, _, ⟨a, ws, e, q, r⟩ => ⟨a, ws, e, h _ _ q (nc_dT _), rept.nc h kvs ws r⟩
  | .ins C fs, _, ⟨a, dx, ws, e, q, q2, r⟩ => ⟨a, dx, ws, e, h _ _ q (nc_ins _ _ _), h _ _ q2 (nc_own _), repf.nc h fs ws r⟩
  | .exn C fs, _, ⟨a, dx, ws, o, e, q, q2, r⟩ => ⟨a, dx, ws, o, e, h _ _ q (nc_exn _ _ _ _), h _ _ q2 (nc_xd _), repf.nc h fs ws r⟩
  | .fn _ _, _, ⟨e, c, dV, h1, h2, h3⟩ => ⟨e, c, dV, h _ _ h1 (nc_lam _ _ _ _), h _ _ h2 (nc_code _ _), h3.imp id fun ⟨a, T, b, h4⟩ => ⟨a, T, b, h _ _ h4 (nc_tup _)⟩⟩
  | .opq, _, r => r
theorem reps.nc (h : ∀ b u, F b = some u → (∀ o, u ≠ cellO o) → F' b = some u) : ∀ (ds : List D) (vs : List V), reps F ds vs → reps F' ds vs
  | [], _, r => r
  | d :: ds, _, ⟨v, r, e, q, z⟩ => ⟨v, r, e, rep.nc h d v q, reps.nc h ds r z⟩
theorem repk.nc (h : ∀ b u, F b = some u → (∀ o, u ≠ cellO o) → F' b = some u) : ∀ (ds : List (Key × D)) (vs : List (Key × V)), repk F ds vs → repk F' ds vs
  | [], _, r => r
  | (k, d) :: ds, _, ⟨v, r, e, q, z⟩ => ⟨v, r, e, rep.nc h d v q, repk.nc h ds r z⟩
theorem rept.nc (h : ∀ b u, F b = some u → (∀ o, u ≠ cellO o) → F' b = some u) : ∀ (ds : List (List Key × D)) (vs : List (List Key × V)), rept F ds vs → rept F' ds vs
  | [], _, r => r
  | (k, d) :: ds, _, ⟨v, r, e, q, z⟩ => ⟨v, r, e, rep.nc h d v q, rept.nc h ds r z⟩
theorem repf.nc (h : ∀ b u, F b = some u → (∀ o, u ≠ cellO o) → F' b = some u) : ∀ (ds : List (Str × D)) (vs : List (Str × V)), repf F ds vs → repf F' ds vs
  | [], _, r => r
  | (k, d) :: ds, _, ⟨v, r, e, q, z⟩ => ⟨v, r, e, rep.nc h d v q, repf.nc h ds r z⟩
end
end
section
variable {cs : List (Addr × Obj)} {G G1 G' : Gh} {H H1 H' : Hp} {v : V} {sv : SV} {d : D} {a : Addr}
theorem nc_free {F : Hp} (hk : Kn cs F) : ∀ b u, F b = some u → (∀ o, u ≠ cellO o) → freeH cs F b = some u := fun b u e n => hk.free e n
theorem cont_free {F : Hp} (hF : Kn cs F) (hH : Kn cs H) (h : cont F H a d) : cont (freeH cs F) (freeH cs H) a d := by
  cases d with
  | lst ds => obtain ⟨vs, e, r⟩ := h; exact ⟨vs, hH.free e (nc_lst _), reps.nc (nc_free hF) _ _ r⟩
  | dic kvs => obtain ⟨vs, e, r⟩ := h; exact ⟨vs, hH.free e (nc_dK _), repk.nc (nc_free hF) _ _ r⟩
  | dit kvs => obtain ⟨vs, e, r⟩ := h; exact ⟨vs, hH.free e (nc_dT _), rept.nc (nc_free hF) _ _ r⟩
  | _ => exact h.elim
theorem cont_hold {F : Hp} (hF : ∀ b u, F b = some u → holdH cs F b = some u) (hH : Out cs H) (h : cont F H a d) : cont (holdH cs F) (holdH cs H) a d := by
  cases d with
  | lst ds => obtain ⟨vs, e, r⟩ := h; exact ⟨vs, hH.hold e, reps.mono hF _ _ r⟩
  | dic kvs => obtain ⟨vs, e, r⟩ := h; exact ⟨vs, hH.hold e, repk.mono hF _ _ r⟩
  | dit kvs => obtain ⟨vs, e, r⟩ := h; exact ⟨vs, hH.hold e, rept.mono hF _ _ r⟩
  | _ => exact h.elim
theorem ret_down (r : RepV (holdH cs H) (holdH cs H) G1 H1 v sv) (ir : sv.isRet) (kF : Kn cs G1.F) (kH : Kn cs H1) : RepV H H (G1.free cs) (freeH cs H1) v sv := by
  cases sv with
  | tr d => exact rep.nc (nc_free kF) _ _ r
  | own d =>
    obtain ⟨a, e, h1, h2, h3, h4⟩ := r
    exact ⟨a, e, (of_holdN h1).2, freeN h2, h3, cont_free kF kH h4⟩
  | bag => exact r
  | _ => exact ir.elim
theorem okG_mono (ok : OkG G H) (ho : Out cs H) : ∀ b o, G.F b = some o → holdH cs G.F b = some o := fun b o e => by rw [hold_off (ho.off (ok.sub b o e))]; exact e
theorem ret_up (r : RepV (freeH cs H1) (freeH cs H1) G' H' v sv) (ir : sv.isRet) (ok : OkG G' H') (ho : Out cs H') : RepV H1 H1 (G'.hold cs) (holdH cs H') v sv := by
  cases sv with
  | tr d => exact rep.mono (okG_mono ok ho) _ _ r
  | own d =>
    obtain ⟨a, e, h1, h2, h3, h4⟩ := r
    obtain ⟨u, hu⟩ := Option.ne_none_iff_exists'.mp h4.there
    have q := ho.off hu
    rw [free_off q] at h1
    exact ⟨a, e, h1, holdN q h2, h3, cont_hold (okG_mono ok ho) ho h4⟩
  | bag => exact r
  | _ => exact ir.elim
theorem repp_hold {fs : List (Str × FV)} {ws : List (Str × V)} (ok : OkG G H) (ho : Out cs H) (r : RepP (fun b => H b ≠ none) G H fs ws) : RepP (fun b => holdH cs H b ≠ none) (G.hold cs) (holdH cs H) fs ws := by
  have hN : ∀ b, H b ≠ none → holdH cs H b ≠ none := fun b n z => n (of_holdN z).2
  induction r with
  | nil => exact .nil
  | tr q _ ih => exact .tr (rep.mono (okG_mono ok ho) _ _ q) ih
  | own h1 h2 h3 _ ih => exact .own (hN _ h1) h2 (cont_hold (okG_mono ok ho) ho h3) ih
theorem arg_hold (r : RepV H H G H v sv) (ia : sv.isArg) (ok : OkG G H) (ho : Out cs H) : RepV (holdH cs H) (holdH cs H) (G.hold cs) (holdH cs H) v sv := by
  have hN : ∀ b, H b ≠ none → holdH cs H b ≠ none := fun b n z => n (of_holdN z).2
  cases sv with
  | tr d => exact rep.mono (okG_mono ok ho) _ _ r
  | brw d =>
    obtain ⟨a, e, h1, h2, h3⟩ := r
    exact ⟨a, e, hN a h1, h2, cont_hold (okG_mono ok ho) ho h3⟩
  | bag => exact r
  | bob C fs =>
    obtain ⟨a, dx, ws, e, h0, ea, nb, rf⟩ := r
    exact ⟨a, dx, ws, e, hN a h0, ho.hold ea, nb, repp_hold ok ho rf⟩
  | exc a C dx fs =>
    obtain ⟨e, ws, h1, h2⟩ := r
    exact ⟨e, ws, okG_mono ok ho _ _ h1, repf.mono (okG_mono ok ho) _ _ h2⟩
  | fn f => exact r
  | _ => exact ia.elim
theorem args_hold (ok : OkG G H) (ho : Out cs H) : ∀ {vs : List V} {svs : List SV}, RepL H H G H vs svs → (∀ sv ∈ svs, sv.isArg) → RepL (holdH cs H) (holdH cs H) (G.hold cs) (holdH cs H) vs svs
  | _, _, .nil, _ => .nil
  | _, _, .cons (sv := sv) r t n, ha => .cons (arg_hold r (ha _ List.mem_cons_self) ok ho) (args_hold ok ho t fun sv h => ha sv (List.mem_cons_of_mem _ h)) fun b o => ((ha sv List.mem_cons_self).none o).elim
theorem xof_down {Qx : XP} {cls : Value} {d : Option Addr} (ok : OkG G H) (ho : Out cs H) (z : XOf (G.hold cs) (holdH cs H) Qx cls d H1) : XOf G H Qx cls d (freeH cs H1) := by
  obtain ⟨C, dx, fs, ws, G', e1, e2, E, e3, e4, q⟩ := z
  obtain ⟨kn, E'⟩ := ext_down E ok ho
  exact ⟨C, dx, fs, ws, G'.free cs, e1, e2, E', kn.free e3 (nc_xd _), repf.nc (nc_free kn) _ _ e4, q⟩
theorem xof_up {Qx : XP} {cls : Value} {d : Option Addr} (ok : OkG G1 H1) (hk : Kn cs G1.F) (ho : Out cs H') (z : XOf (G1.free cs) (freeH cs H1) Qx cls d H') : XOf G1 H1 Qx cls d (holdH cs H') := by
  obtain ⟨C, dx, fs, ws, G', e1, e2, E, e3, e4, q⟩ := z
  exact ⟨C, dx, fs, ws, G'.hold cs, e1, e2, ext_up E ok hk ho, okG_mono E.ok ho _ _ e3, repf.mono (okG_mono E.ok ho) _ _ e4, q⟩
end
end VT

namespace VT
open PySem PySem.Spec PyProof.Rows L2

/-! ### a lambda's names -/
structure LamK (N : List Str) (sc scope : Scope) : Prop where
  kind : scope.kind = .function
  co : scope.isCoroutine = false
  gen : scope.isGenerator = false
  cell : ∀ y ∈ scope.names, y.2 ≠ .cell
  loc : ∀ y ∈ scope.names, y.2 = .local → y.1 ∉ N
  free : ∀ y ∈ scope.names, y.2 = .free → (∃ k, (y.1, k) ∈ sc.names) ∧ (sc.names.lookup y.1 = some .cell ∨ sc.names.lookup y.1 = some .free)
def lamKB (N : List Str) (sc scope : Scope) : Bool :=
  decide (scope.kind = .function) && (!scope.isCoroutine && (!scope.isGenerator && scope.names.all fun y => (!decide (y.2 = .cell) && (!decide (y.2 = .local) || !decide (y.1 ∈ N))) && (!decide (y.2 = .free) || (decide (sc.names.lookup y.1 = some .cell) || decide (sc.names.lookup y.1 = some .free)))))
theorem lamK_by {N : List Str} {sc scope : Scope} (h : lamKB N sc scope = true) : LamK N sc scope := by
  unfold lamKB at h
  simp only [Bool.and_eq_true, Bool.or_eq_true, Bool.not_eq_true', decide_eq_true_eq, decide_eq_false_iff_not, List.all_eq_true] at h
  obtain ⟨h1, h2, h3, h4⟩ := h
  refine ⟨h1, h2, h3, fun y hy => (h4 y hy).1.1, fun y hy e => ?_, fun y hy e => ?_⟩
  · rcases (h4 y hy).1.2 with z | z
    · exact absurd e z
    · exact z
  · rcases (h4 y hy).2 with z | z
    · exact absurd e z
    · exact ⟨z.elim (fun z => ⟨_, PySem.mem_of_lookup z⟩) (fun z => ⟨_, PySem.mem_of_lookup z⟩), z⟩
theorem clo_sub {cells : List (Str × Addr)} {names : List (Str × NameKind)} {y : Str} {c : Addr} (hf : ∀ z, (z, NameKind.free) ∈ names → ∃ c, cells.lookup z = some c) (h : (cloFrom cells names []).lookup y = some c) : (y, NameKind.free) ∈ names ∧ cells.lookup y = some c := by
  rcases cloFrom_mem (PySem.mem_of_lookup h) with hm | ⟨h1, h2⟩
  · cases hm
  · refine ⟨h1, ?_⟩
    obtain ⟨c1, hc⟩ := hf _ h1
    have h2 : c = (cells.lookup y).getD 0 := by first | exact h2 | (rw [h2])
    rw [hc] at h2 ⊢
    rw [h2]
    rfl
section
variable {X : Cx} {σ : L2.St} {HZ : Hp} {s s1 : Shared} {A : Around} {outer : List Env} {E : XK} {scope : Scope} {f c' : Addr} {h₁ : Heap} {tk : Nat} {m : Str → Option Value}
theorem lam_in (ok : X.Ok) (L : LamK X.N X.env.scope scope) (e0 : Env0 X.prog X.w X.K X.mg X.base A outer s1 HZ) (hd : A.handled = none) (hl : σ.length = X.N.length)
    (hcell : ∀ y c, (y, NameKind.free) ∈ scope.names → X.env.cells.lookup y = some c → (∃ v, s1.heap.IsCell c v) ∧ HZ c = none)
    (hval : ∀ (i : Nat) (y : Str) (v : V), X.N[i]? = some y → σ[i]? = some (some v) → (y, NameKind.free) ∈ scope.names → ∃ u c, L2.RelV v u ∧ X.env.cells.lookup y = some c ∧ s1.heap.IsCell c (some u))
    (hns : h₁.Ns s1.heap.objs.size m) (kp : ∀ b o, s1.heap.get? b = some o → h₁.get? b = some o) : Inv (LamX.lamCx X A outer s1 HZ E scope f c') [] σ HZ { s1 with heap := h₁, toks := tk } := by
  have hfree : ∀ z, (z, NameKind.free) ∈ scope.names → ∃ c, X.env.cells.lookup z = some c := fun z hz => by
    rcases (L.free _ hz rfl).2 with k | k
    · exact ok.has _ (.inl k)
    · exact ok.has _ (.inr k)
  have cm : ∀ {y c}, (cloFrom X.env.cells scope.names []).lookup y = some c → (y, NameKind.free) ∈ scope.names ∧ X.env.cells.lookup y = some c := fun {y c} e => clo_sub hfree e
  have cin : ∀ {y c}, (y, NameKind.free) ∈ scope.names → X.env.cells.lookup y = some c → (cloFrom X.env.cells scope.names []).lookup y = some c := fun {y c} hy hc => by
    obtain ⟨c2, h2⟩ := mem_lookup (cloFrom_has (cells := X.env.cells) (acc := []) hy)
    have := (cm h2).2
    rw [hc] at this
    cases this
    exact h2
  have up : ∀ {c : Addr} {v : Option Value}, s1.heap.IsCell c v → h₁.IsCell c v := fun ⟨o, ho, hd⟩ => ⟨o, kp _ _ ho, hd⟩
  have noA : ∀ b : Addr, b ∉ (LamX.lamCx X A outer s1 HZ E scope f c').ex := fun b z => absurd (show b ∈ ([] : List Addr) from z) (by simp)
  have okZ : (LamX.lamCx X A outer s1 HZ E scope f c').Ok := by
    refine ⟨e0.mod, L.kind, rfl, rfl, Nat.le_refl _, fun y z c e1 e2 => ok.inj y z c (cm e1).2 (cm e2).2, fun y hy => ?_, fun y c z _ => (nomatch (show false = true from z)), fun _ => hd, Around.frames_deeper e0.frames, .inr ⟨rfl, rfl⟩, fun b z => absurd z (noA b), e0.bs, e0.bsz, fun b _ _ => noA b, fun b z => absurd z (noA b), e0.funs, e0.frf⟩
    rcases hy with hy | hy
    · exact absurd rfl (L.cell _ (PySem.mem_of_lookup (show scope.names.lookup y = some .cell from hy)))
    · have hm := PySem.mem_of_lookup (show scope.names.lookup y = some .free from hy)
      obtain ⟨c, hc⟩ := hfree y hm
      exact ⟨c, cin hm hc⟩
  refine ⟨okZ, rfl, e0.bare, Un.kept kp, ⟨m, hns, fun i y v e1 e2 e3 => ?_⟩, fun y c e => ?_, e0.hok.fresh (Nat.le_refl _), fun y c e => ?_, fun q hq => absurd (show q ∈ ([] : List (Addr × Obj)) ++ [] from hq) (by simp), e0.hok.kept kp, hl⟩
  · rcases (show Vis scope y from e3) with k | k | k
    · exact absurd (List.mem_of_getElem? e1) (L.loc _ (PySem.mem_of_lookup k) rfl)
    · exact absurd rfl (L.cell _ (PySem.mem_of_lookup k))
    · have hm := PySem.mem_of_lookup k
      obtain ⟨u, c, r, hc, z⟩ := hval i y v e1 e2 hm
      exact ⟨u, r, .inr ⟨.inr k, c, cin hm hc, up z⟩⟩
  · obtain ⟨hm, hc⟩ := cm e
    obtain ⟨⟨v, z⟩, _⟩ := hcell y c hm hc
    exact ⟨v, up z⟩
  · obtain ⟨hm, hc⟩ := cm e
    exact (hcell y c hm hc).2
end
/-- the slots as others see them -/
def argS (S : S) : VT.S := S.map (Option.map SV.arg)
theorem Rel.toArg {G0 G : Gh} {H0 H : Hp} {σ : L2.St} {S : VT.S} (R : Rel G0 H0 G H σ S) : Rel G H G H σ (argS S) := by
  have get : ∀ i sv, (argS S)[i]? = some (some sv) → ∃ sw : SV, S[i]? = some (some sw) ∧ sv = sw.arg := fun i sv e => by
    unfold argS at e
    rw [List.getElem?_map] at e
    cases h : S[i]? with
    | none => rw [h] at e; cases e
    | some x =>
      rw [h] at e
      cases x with
      | none => cases e
      | some sw => cases e; exact ⟨sw, h, rfl⟩
  refine ⟨.refl R.ok, by unfold argS; rw [List.length_map]; exact R.len, fun i sv e => ?_, fun i j sv sw v w b _ e _ e3 _ o => ?_, fun i sv e => ?_⟩
  · obtain ⟨sw, h, rfl⟩ := get i sv e
    obtain ⟨v, hv, r⟩ := R.slot i sw h
    exact ⟨v, hv, r.toArg.1⟩
  · obtain ⟨sx, h, rfl⟩ := get i sv e
    obtain ⟨v', _, r⟩ := R.slot i sx h
    exact (r.toArg.2.none o).elim
  · obtain ⟨sx, h, rfl⟩ := get i sv e
    obtain ⟨v', _, r⟩ := R.slot i sx h
    have ia := r.toArg.2
    cases hx : sx.arg <;> rw [hx] at ia <;> first | exact ia.elim | trivial
/-! ### a lambda and its reading, at a def -/
/-- how a lambda binds -/
def LamBd (st : LamSt) : Prop :=
  (st.dfl = false → ∀ (q : Str) (cl : List (Str × Addr)) (doc pm cv ctv : Value), bindArgs (PySem.W.kdv_fn "<lambda>" q st.params (.expr st.body) st.scope cl .none doc pm cv ctv) ⟨[], []⟩ = pure []) ∧
  (st.dfl = true → ∃ p, st.scope.names.lookup p = some .local ∧ ∀ (q : Str) (cl : List (Str × Addr)) (T : Addr) (doc pm cv ctv u : Value), ∃ k, bindArgs (PySem.W.kdv_fn "<lambda>" q st.params (.expr st.body) st.scope cl (.ref T) doc pm cv ctv) ⟨[], []⟩ = seqItems? (.ref T) >>= k ∧ k (some #[u]) = pure [(p, u)])
structure LamC (X : Cx) (st : LamSt) : Prop where
  sup : st.sup = X.env.scope
  qual : st.qual = X.env.qual ++ "<lambda>"
  ok : LamK X.N X.env.scope st.scope
  bd : LamBd st
structure LamD (X : Cx) (st : LamSt) (g : EXT → GE) : Prop extends LamC X st where
  body : ∀ (A : Around) (outer : List Env) (s : Shared) (H : Hp) (E : XK) (f c' : Addr), Room thkLev (A.deeper (LamX.lamEnv X st.scope s.heap.objs.size f c')) → ∀ EX, VE (LamX.lamCx X A outer s H E st.scope f c') EX st.body (g EX)
theorem lamd_nil {X : Cx} : ∀ st g, (st, g) ∈ ([] : List (LamSt × (EXT → GE))) → LamD X st g := fun _ _ h => nomatch h
theorem lamd_cons {X : Cx} {st : LamSt} {g : EXT → GE} {l : List (LamSt × (EXT → GE))} (h : LamD X st g) (t : ∀ st g, (st, g) ∈ l → LamD X st g) : ∀ st' g', (st', g') ∈ (st, g) :: l → LamD X st' g' := fun st' g' hm => by
  rcases List.mem_cons.mp hm with e | hm
  · cases e
    exact h
  · exact t _ _ hm
/-- what the lambdas of a def come to, at these slots -/
def lookA (n : Nat) (S : S) : List (LamSt × (EXT → GE)) → TLT
  | [], _, _, _ => False
  | (st, g) :: r, b, Qs, Qx => (b = ⟨st, n⟩ ∧ g ⟨fun C fs _ => Qx C fs, TL0⟩ (argS S) fun sv => sv.isRet ∧ Qs sv) ∨ lookA n S r b Qs Qx
theorem lookA_mem {n : Nat} {S : S} {b : LamB} {Qs : SV → Prop} {Qx : XP} : ∀ {l : List (LamSt × (EXT → GE))}, lookA n S l b Qs Qx → ∃ st g, (st, g) ∈ l ∧ b = ⟨st, n⟩ ∧ g ⟨fun C fs _ => Qx C fs, TL0⟩ (argS S) fun sv => sv.isRet ∧ Qs sv
  | (st, g) :: r, h => by
    rcases h with ⟨h1, h2⟩ | h
    · exact ⟨st, g, List.mem_cons_self, h1, h2⟩
    · obtain ⟨st, g, h0, h1, h2⟩ := lookA_mem h
      exact ⟨st, g, List.mem_cons_of_mem _ h0, h1, h2⟩
def lookT (n : Nat) (S : S) (l : List (LamSt × (EXT → GE))) : TLT := fun b Qs Qx => ∃ (Q0 : SV → Prop) (Qx0 : XP), (∀ sv, Q0 sv → Qs sv) ∧ (∀ C fs, Qx0 C fs → Qx C fs) ∧ lookA n S l b Q0 Qx0
theorem lookT_of {n : Nat} {S : S} {l : List (LamSt × (EXT → GE))} {b : LamB} {Qs : SV → Prop} {Qx : XP} (h : lookA n S l b Qs Qx) : lookT n S l b Qs Qx := ⟨Qs, Qx, fun _ z => z, fun _ _ z => z, h⟩
theorem lookT_mono (n : Nat) (S : S) (l : List (LamSt × (EXT → GE))) : TLMono (lookT n S l) := fun _ _ _ _ _ h1 h2 ⟨Q0, X0, a, b, c⟩ => ⟨Q0, X0, fun sv z => h1 sv (a sv z), fun C fs z => h2 C fs (b C fs z), c⟩
theorem mem_lk {β : Type} {c : Addr} {o : β} : ∀ {l : List (Addr × β)}, l.lookup c = some o → (c, o) ∈ l
  | (c1, o1) :: r, h => by
    by_cases e : c = c1
    · subst e
      simp [List.lookup] at h
      rw [h]
      exact List.mem_cons_self
    · have hb : (c == c1) = false := by simpa using e
      simp [List.lookup, hb] at h
      exact List.mem_cons_of_mem _ (mem_lk h)
/-- the def's cells as they stand -/
def cellsAt (X : Cx) (s : Shared) : List (Addr × Obj) := X.env.scope.names.filterMap fun y => (X.env.cells.lookup y.1).bind fun c => (s.heap.get? c).map fun o => (c, o)
section
variable {X : Cx} {pins : List (Addr × Obj)} {σ : L2.St} {H : Hp} {s : Shared} {c : Addr} {o : Obj} {y : Str} {k : NameKind}
theorem cellsAt_of (h : (cellsAt X s).lookup c = some o) : ∃ y, X.env.cells.lookup y = some c ∧ s.heap.get? c = some o := by
  have m : (c, o) ∈ cellsAt X s := mem_lk h
  obtain ⟨y, _, e⟩ := List.mem_filterMap.mp m
  cases hc : X.env.cells.lookup y.1 with
  | none => rw [hc] at e; cases e
  | some c2 =>
    cases ho : s.heap.get? c2 with
    | none => rw [hc] at e; simp [ho] at e
    | some o2 =>
      rw [hc] at e
      simp [ho] at e
      obtain ⟨rfl, rfl⟩ := e
      exact ⟨y.1, hc, ho⟩
theorem cellsAt_in (hy : (y, k) ∈ X.env.scope.names) (hc : X.env.cells.lookup y = some c) (ho : s.heap.get? c = some o) : (cellsAt X s).lookup c = some o := by
  have m : (c, o) ∈ cellsAt X s := List.mem_filterMap.mpr ⟨(y, k), hy, by simp [hc, ho]⟩
  have : ∃ o', (cellsAt X s).lookup c = some o' := by
    generalize cellsAt X s = l at m
    induction l with
    | nil => cases m
    | cons p r ih =>
      obtain ⟨c1, o1⟩ := p
      by_cases h : c = c1
      · exact ⟨o1, by simp [List.lookup, h]⟩
      · have hb : (c == c1) = false := by simpa using h
        rcases List.mem_cons.mp m with e | m
        · cases e; exact absurd rfl h
        · obtain ⟨o', e⟩ := ih m
          exact ⟨o', by simp [List.lookup, hb, e]⟩
  obtain ⟨o', e⟩ := this
  obtain ⟨_, _, e2⟩ := cellsAt_of e
  rw [ho] at e2
  cases e2
  exact e
theorem Inv.cellsOut (I : Inv X pins σ H s) : Out (cellsAt X s) H := fun c o h => let ⟨y, e, _⟩ := cellsAt_of h; I.freeC y c e
theorem Inv.cellsGet (I : Inv X pins σ H s) : ∀ c o, (cellsAt X s).lookup c = some o → s.heap.get? c = some o := fun c o h => let ⟨_, _, e⟩ := cellsAt_of h; e
theorem Inv.cellsBase (I : Inv X pins σ H s) (hfn : ∀ x, X.fn x = true) : ∀ c o, (cellsAt X s).lookup c = some o → X.base.get? c = none := fun c o h => by
  obtain ⟨y, e, _⟩ := cellsAt_of h
  exact Heap.get?_none_of_le (Nat.le_trans I.ok.bsz (I.ok.cab y c (hfn y) e))
theorem Inv.cellsFr (I : Inv X pins σ H s) (hfn : ∀ x, X.fn x = true) : ∀ c o, (cellsAt X s).lookup c = some o → c ∉ frs X.stack := fun c o h hm => by
  obtain ⟨y, e, _⟩ := cellsAt_of h
  rcases List.mem_cons.mp (I.stkSub c hm) with z | z
  · exact I.cne y c e z
  · obtain ⟨_, o', ho, _⟩ := I.ok.funs.mem z
    exact absurd (Nat.lt_of_lt_of_le (Heap.lt_size ho) (I.ok.cab y c (hfn y) e)) (Nat.lt_irrefl _)
end
section
variable {X : Cx} {EX : EXT} {pins : List (Addr × Obj)} {σ : L2.St} {G0 G : Gh} {H0 H : Hp} {s : Shared} {S : S} {n : Nat} {lams : List (LamSt × (EXT → GE))}
/-- the lambdas of a def may be called while it waits -/
theorem thk_lam (I : Inv X pins σ H s) (hfn : ∀ x, X.fn x = true) (hn : X.env.cells = cellsFrom (n + 1) X.env.scope.names []) (tk : Lk X EX G0 H0) (R : Rel G0 H0 G H σ S) (hl : ∀ st g, (st, g) ∈ lams → LamD X st g) :
    ThkOk X.prog X.w X.K X.mg X.base (lookT n S lams) (G.hold (cellsAt X s)) (holdH (cellsAt X s) H) := by
  refine ⟨lookT_mono _ _ _, ?_⟩
  intro f b G1 H1 A1 outer1 s1 Q E Qs' Qx' E1 rf e0 hr ht hq hx
  obtain ⟨Qs, Qx, m1, m2, ht⟩ := ht
  replace hq : ∀ v H' G' sv, Ext G1 H1 G' H' → RepV H1 H1 G' H' v sv → sv.isRet → Qs sv → Q v H' := fun v H' G' sv a b c d => hq v H' G' sv a b c (m1 sv d)
  replace hx : ∀ cls d H', XOf G1 H1 Qx cls d H' → E cls d H' := fun cls d H' ⟨C, dx, fs, ws, G', a1, a2, a3, a4, a5, z⟩ => hx cls d H' ⟨C, dx, fs, ws, G', a1, a2, a3, a4, a5, m2 C fs z⟩
  obtain ⟨st, g, hm, rfl, hg⟩ := lookA_mem ht
  have D := hl st g hm
  have out := Inv.cellsOut I
  obtain ⟨kn, E2⟩ := ext_down E1 R.ok out
  have kH : Kn (cellsAt X s) H1 := fun c o q => E1.ok.sub _ _ (kn c o q)
  have hcG : ∀ c o, (cellsAt X s).lookup c = some o → s1.heap.get? c = some o := fun c o q => (e0.hok c _ (kH c o q)).1
  have hcF : ∀ c o, (cellsAt X s).lookup c = some o → c ∉ frs outer1 := fun c o q z => by
    have := e0.frf c z
    rw [kH c o q] at this
    cases this
  obtain ⟨_, c', dV, hF, hC, hD⟩ := rf
  obtain ⟨⟨doc, pm, ctv, hof⟩, _, _⟩ := e0.hok f _ (E1.ok.sub _ _ hF)
  obtain ⟨⟨oc, vs, t, hoc, hdc, hvc⟩, _, _⟩ := e0.hok c' _ (E1.ok.sub _ _ hC)
  have hclo : LamB.clo ⟨st, n⟩ = cloFrom X.env.cells st.scope.names [] := by unfold LamB.clo; rw [hn, D.sup]
  rw [hclo] at hof
  have e1 := env0_free e0 kH
  have nG : Rel (G1.free (cellsAt X s)) (freeH (cellsAt X s) H1) (G1.free (cellsAt X s)) (freeH (cellsAt X s) H1) σ (argS S) := (R.go E2).toArg
  have hbind : ∃ binds : List (Str × Value), (∀ y ∈ binds, st.scope.names.lookup y.1 = some .local) ∧ BindsTo s1 (PySem.W.kdv_fn "<lambda>" st.qual st.params (.expr st.body) st.scope (cloFrom X.env.cells st.scope.names []) dV doc pm (.ref c') ctv) ⟨[], []⟩ binds := by
    rcases hD with ⟨h1, h2⟩ | ⟨h1, T, h2, h3⟩
    · subst h2
      exact ⟨[], fun y hy => (nomatch hy), .of_eq (D.bd.1 h1 _ _ _ _ _ _)⟩
    · subst h2
      obtain ⟨p, hp, hk⟩ := D.bd.2 h1
      obtain ⟨_, its, rv, o, ho, hcl, nn, hd⟩ := e0.hok T _ (E1.ok.sub _ _ h3)
      cases rv with
      | cons r0 rr =>
        cases rr
        rename_i u
        obtain ⟨k, k1, k2⟩ := hk st.qual (cloFrom X.env.cells st.scope.names []) T doc pm (.ref c') ctv u
        exact ⟨[(p, u)], fun y hy => by rw [List.mem_singleton.mp hy]; exact hp, .of_defaults (o := o) (n := nn) rfl ho hd k1 k2⟩
  obtain ⟨binds, hbl, hbt⟩ := hbind
  refine codeAny_mono (R := CR (L2.CX X.prog X.w) outer1 X.prog X.w (freeH (cellsAt X s) H1) s1 (fun v H' => ∃ G' sv, Ext (G1.free (cellsAt X s)) (freeH (cellsAt X s) H1) G' H' ∧ RepV (freeH (cellsAt X s) H1) (freeH (cellsAt X s) H1) G' H' v sv ∧ sv.isRet ∧ Qs sv) (XOf (G1.free (cellsAt X s)) (freeH (cellsAt X s) H1) Qx)) ?_ fun r s' z =>
    cr_up kH hcG hcF (fun v H' ho ⟨G', sv, E', r', ir, q'⟩ => hq v _ _ sv (ext_up E' E1.ok kn ho) (ret_up r' ir E'.ok ho) ir q') (fun cls d H' ho z => hx cls d _ (xof_up E1.ok kn ho z)) z
  refine PySem.W.kla_callFunE hr.depth hof rfl D.ok.co D.ok.gen rfl ⟨c', oc, vs, t, rfl, hoc, hdc, hvc⟩ ?_
  refine hbt _ _ _ _ ?_
  refine wpAny_newFunctionEnv D.ok.cell hbl (fun h₁ hns hsb => ⟨(e0.mod.nolimit.keeps fun b o e => (e0.bs b o e).1).fresh _ hsb, ?_⟩) D.ok.kind
  have kp : ∀ b o, s1.heap.get? b = some o → h₁.get? b = some o := fun b o e => hsb.extBut b o (Nat.ne_of_lt (Heap.lt_size e)) (Heap.get?_push_of_some _ e)
  have vis : ∀ y, (y, NameKind.free) ∈ st.scope.names → Vis X.env.scope y := fun y hy => (D.ok.free _ hy rfl).2.elim (fun k => .inr (.inl k)) (fun k => .inr (.inr k))
  have cAt : ∀ y c, (y, NameKind.free) ∈ st.scope.names → X.env.cells.lookup y = some c → ∀ v, s.heap.IsCell c v → s1.heap.IsCell c v := fun y c hy hc v ⟨o, ho, hd⟩ => by
    obtain ⟨⟨k, hk⟩, _⟩ := D.ok.free _ hy rfl
    exact ⟨o, hcG c o (cellsAt_in hk hc ho), hd⟩
  have J : Inv (LamX.lamCx X A1 outer1 s1 (freeH (cellsAt X s) H1) (XOf (G1.free (cellsAt X s)) (freeH (cellsAt X s) H1) Qx) st.scope f c') [] σ (freeH (cellsAt X s) H1) { s1 with heap := h₁, toks := s1.toks + binds.length } := by
    refine lam_in I.ok D.ok e1 hr.hd I.len (fun y c hy hc => ?_) (fun i y v e1 e2 hy => ?_) hns kp
    · obtain ⟨v, z⟩ := I.cell y c hc
      obtain ⟨o, ho, _⟩ := id z
      obtain ⟨⟨k, hk⟩, _⟩ := D.ok.free _ hy rfl
      exact ⟨⟨v, cAt y c hy hc v z⟩, free_at (cellsAt_in hk hc ho)⟩
    · obtain ⟨m, _, hl⟩ := I.loc
      obtain ⟨u, r, q⟩ := hl i y v e1 e2 (vis y hy)
      rcases q with ⟨k', _⟩ | ⟨_, c, hc, z⟩
      · have k' : X.env.scope.names.lookup y = some .local := k'
        rcases (D.ok.free _ hy rfl).2 with k2 | k2 <;> rw [k2] at k' <;> cases k'
      · exact ⟨u, c, r, hc, cAt y c hy hc _ z⟩
  have tkZ : Lk (LamX.lamCx X A1 outer1 s1 (freeH (cellsAt X s) H1) (XOf (G1.free (cellsAt X s)) (freeH (cellsAt X s) H1) Qx) st.scope f c') ⟨fun C fs _ => Qx C fs, TL0⟩ (G1.free (cellsAt X s)) (freeH (cellsAt X s) H1) :=
    ⟨(takes_of rfl rfl rfl rfl).imp fun cls d σ H' ⟨G', S', C, dx, fs, ws, e1, e2, R', e3, e4, q⟩ => ⟨C, dx, fs, ws, G', e1, e2, R'.ext, e3, e4, q⟩, E2.tt.trans (R.ext.tt.trans tk.tabs), thk0⟩
  rw [D.qual]
  have run := ((D.body A1 outer1 s1 (freeH (cellsAt X s) H1) (XOf (G1.free (cellsAt X s)) (freeH (cellsAt X s) H1) Qx) f c' (hr.deeper _) _).pe _ _ tkZ).run [] _ σ _ (fun v H' => ∃ G' sv, Ext (G1.free (cellsAt X s)) (freeH (cellsAt X s) H1) G' H' ∧ RepV (freeH (cellsAt X s) H1) (freeH (cellsAt X s) H1) G' H' v sv ∧ sv.isRet ∧ Qs sv) J ⟨G1.free (cellsAt X s), argS S, _, nG, hg, fun v H' G' sv E' r' q' => ⟨G', sv, E', r', q'⟩⟩
  refine PySem.W.kla_codeExpr (wpAny_mono run (fun v s' hz => ?_) fun e s' hz => hz)
  obtain ⟨w', H', J', rv, q⟩ := hz
  exact ⟨w', H', J'.os, J'.bare, J'.base, J'.hok, rv, q⟩
end
end VT

namespace VT
open PySem PySem.Spec PyProof.Rows L2

/-! ### defs that call lambdas -/
abbrev FTp := TLT → FXp
def spT (P : Program) (w : World) (K : PySem.W.Frag) (mg : Str → Option Value) (base : Heap) (F : FTp) : Sp := fun vs H Q E => ∃ G svs Qs Qx TL, (OkG G H ∧ G.T = TabsOf K) ∧ RepL H H G H vs svs ∧ (∀ sv ∈ svs, sv.isArg) ∧ ThkOk P w K mg base TL G H ∧ F TL svs Qs Qx ∧
  (∀ v H' G' sv, Ext G H G' H' → RepV H H G' H' v sv → sv.isRet → Qs sv → Q v H') ∧ ∀ cls d H', XOf G H Qx cls d H' → E cls d H'
structure FnT (P : Program) (w : World) (K : PySem.W.Frag) (mg : Str → Option Value) (base : Heap) (d : He.DefD) (k : Nat) (ps : List Str) (F : FTp) : Prop where
  ex : ∃ fd cl, FG K d.name d.qual d.params d.body d.scope cl (d.dvs K) (d.kws K) (He.fAd K d.at_) fd ∧ FnOk P w K mg base (L2.CX P w) k (He.fAd K d.at_) fd ps (spT P w K mg base F)
  mg : mg d.name = some (.ref (He.fAd K d.at_))
section
variable {P : Program} {w : World} {K : PySem.W.Frag} {mg : Str → Option Value} {base : Heap} {d : He.DefD} {j k : Nat} {N ps : List Str} {F : FTp} {g : EXT → GS}
theorem FnT.mono (h : FnT P w K mg base d j ps F) (hj : j ≤ k) : FnT P w K mg base d k ps F := by
  obtain ⟨⟨fd, cl, hf, hk⟩, hm⟩ := h
  exact ⟨⟨fd, cl, hf, hk.mono hj⟩, hm⟩
theorem fnt_ok (hf : DefAt K mg d) (Sc : FnScope N ps d.scope)
    (hbody : ∀ (EX : EXT) (cdv : Value) (A : Around) (outer : List Env) (s : Shared) (H : Hp) (E : XK), Room k (A.deeper (envOfC d.qual d.scope s.heap.objs.size (He.fAd K d.at_) cdv)) → VSs (cxOf (L2.CX P w) P w K mg base N d.qual d.scope (He.fAd K d.at_) cdv A outer s H E) EX d.body (g EX))
    (len : ∀ TL svs Qs Qx, F TL svs Qs Qx → svs.length = ps.length) (spec : ∀ TL svs Qs Qx, TLMono TL → F TL svs Qs Qx → g ⟨fun C fs _ => Qx C fs, TL⟩ { nx := fun _ => Qs (.tr .non), rt := Qs } (startS N svs)) : FnT P w K mg base d (k + 1) ps F := by
  obtain ⟨⟨fd, hf⟩, hm⟩ := hf
  refine ⟨⟨fd, [], .of hf, hf.ok Sc (fun vs H Q E ⟨G, svs, Qs, Qx, TL, ok, r, ha, _, h, z⟩ => r.length.trans (len _ _ _ _ h)) (fun cdv A outer s H vs Q E hr h => ?_)⟩, hm⟩
  obtain ⟨G, svs, Qs, Qx, TL, ok, r, ha, tl, h, z, zx⟩ := h
  have tk : Lk (cxOf (L2.CX P w) P w K mg base N d.qual d.scope (He.fAd K d.at_) cdv A outer s H E) ⟨fun C fs _ => Qx C fs, TL⟩ G H :=
    ⟨(takes_of rfl rfl rfl rfl).imp fun cls d σ H' ⟨G', S, C, dx, fs, ws, e1, e2, R, e3, e4, q⟩ => zx _ _ _ ⟨C, dx, fs, ws, G', e1, e2, R.ext, e3, e4, q⟩, ok.2, tl⟩
  refine ⟨TSV G H (g _), (hbody _ cdv A outer s H E hr).pss _ _ tk, ?_⟩
  refine ⟨_, startS N svs, _, Rel.start ok.1 r ha, spec TL svs Qs Qx tl.mono h, fun σ' H' G' S' R' _ q => ?_, fun v H' G' sv E' r' ir q => z v H' G' sv E' r' ir q, fun σ' H' G' S' R' _ q => q.elim, fun σ' H' G' S' R' _ q => q.elim⟩
  exact z .non H' G' (.tr .non) R'.ext rfl trivial q
end
/-! ### their calls -/
section
variable {X : Cx} {EX : EXT} {G0 G : Gh} {H0 H : Hp} {pins : List (Addr × Obj)} {σ : L2.St} {S : S} {s : Shared} {k n nn : Nat} {f : Addr} {fd : FuncData} {ps ks : List Str} {F : FTp} {vs : List V} {us : List Value} {svs : List SV} {Qs : SV → Prop} {Qx : XP} {Q : VK} {lams : List (LamSt × (EXT → GE))}
theorem run_ctp {args : Args} (Fn : FnOk X.prog X.w X.K X.mg X.base (L2.CX X.prog X.w) k f fd ps (spT X.prog X.w X.K X.mg X.base F)) (hr : Room k X.A) (tk : Lk X EX G0 H0) (I : Inv X pins σ H s) (R : Rel G0 H0 G H σ S) (rl : RepL H H G H vs svs) (ha : ∀ sv ∈ svs, sv.isArg) (hF : F EX.tl svs Qs Qx)
    (hb : BindsTo s fd args (ps.zip us)) (rv : Vals vs us) (kq : ∀ v H' G' sv, Ext G H G' H' → RepV H H G' H' v sv → sv.isRet → Qs sv → Q v H') (kx : ∀ C fs, Qx C fs → EX C fs S) :
    codeAny (model X.prog X.w) X.A (.call (.ref f) args) (fun r s' => match r with | .ok (.ret u) => EP X pins σ Q u s' | .ok _ => False | .error e => X.xe e s') s := by
  refine codeAny_mono (Fn.run X.A X.stack s H args us vs Q (XOf G H Qx) hr I.env0 hb rv ⟨G, svs, Qs, Qx, EX.tl, ⟨R.ok, tk.tt R (.refl R.ok)⟩, rl, ha, tk.thk.go R.ext, hF, kq, fun _ _ _ z => z⟩) fun r s' hq => ?_
  cases r with
  | error e => exact tk.takes e s' (XE.of_call I (xof_take tk R kx) hq)
  | ok fl =>
    cases fl with
    | ret u => exact I.after hq
    | next => exact False.elim hq
    | brk => exact False.elim hq
    | cont => exact False.elim hq
/-- .. with lambdas of the caller's own -/
theorem run_ctl {args : Args} (Fn : FnOk X.prog X.w X.K X.mg X.base (L2.CX X.prog X.w) k f fd ps (spT X.prog X.w X.K X.mg X.base F)) (hr : Room k X.A) (hfn : ∀ x, X.fn x = true) (hn : X.env.cells = cellsFrom (nn + 1) X.env.scope.names []) (hl : ∀ st g, (st, g) ∈ lams → LamD X st g)
    (tk : Lk X EX G0 H0) (I : Inv X pins σ H s) (R : Rel G0 H0 G H σ S) (rl : RepL H H G H vs svs) (ha : ∀ sv ∈ svs, sv.isArg) (hF : F (lookT nn S lams) svs Qs Qx)
    (hb : BindsTo s fd args (ps.zip us)) (rv : Vals vs us) (kq : ∀ v H' G' sv, Ext G H G' H' → RepV H H G' H' v sv → sv.isRet → Qs sv → Q v H') (kx : ∀ C fs, Qx C fs → EX C fs S) :
    codeAny (model X.prog X.w) X.A (.call (.ref f) args) (fun r s' => match r with | .ok (.ret u) => EP X pins σ Q u s' | .ok _ => False | .error e => X.xe e s') s := by
  have out := Inv.cellsOut I
  have cg := Inv.cellsGet I
  refine codeAny_mono (Fn.run X.A X.stack s (holdH (cellsAt X s) H) args us vs (fun v H' => ∃ G' sv, Ext G H G' (freeH (cellsAt X s) H') ∧ RepV H H G' (freeH (cellsAt X s) H') v sv ∧ sv.isRet ∧ Qs sv) (XOf (G.hold (cellsAt X s)) (holdH (cellsAt X s) H) Qx) hr (env0_hold I.env0 out cg (Inv.cellsBase I hfn) (Inv.cellsFr I hfn)) hb rv
    ⟨G.hold (cellsAt X s), svs, Qs, Qx, lookT nn S lams, ⟨okG_hold R.ok out, R.ext.tt.trans tk.tabs⟩, args_hold R.ok out rl ha, ha, thk_lam I hfn hn tk R hl, hF, fun v H' G' sv E' r' ir q => ?_, fun _ _ _ z => z⟩) fun r s' hq => ?_
  · obtain ⟨kn, E2⟩ := ext_down E' R.ok out
    exact ⟨G'.free (cellsAt X s), sv, E2, ret_down r' ir kn (fun c o q => E'.ok.sub _ _ (kn c o q)), ir, q⟩
  have hq2 := cr_down (Q := Q) (E := XOf G H Qx) out cg (fun v H' _ ⟨G', sv, E2, r2, ir, q⟩ => kq v _ G' sv E2 r2 ir q) (fun cls d H' _ z => xof_down R.ok out z) hq
  cases r with
  | error e => exact tk.takes e s' (XE.of_call I (xof_take tk R kx) hq2)
  | ok fl =>
    cases fl with
    | ret u => exact I.after hq2
    | next => exact False.elim hq2
    | brk => exact False.elim hq2
    | cont => exact False.elim hq2
end
def gCTP (EX : EXT) (F : FTp) (n m : Nat) (ix : List Nat) (dd : List D) (ga gk : GA) : GE := fun S Q => ga S fun svs => gk S fun kvs => svs.length = n ∧ kvs.length = m ∧ F EX.tl (arr ix (svs.map SV.arg ++ kvs.map SV.arg ++ dd.map SV.tr)) Q fun C fs => EX C fs S
def gCTL (EX : EXT) (F : FTp) (nn : Nat) (lams : List (LamSt × (EXT → GE))) (n m : Nat) (ix : List Nat) (dd : List D) (ga gk : GA) : GE := fun S Q => ga S fun svs => gk S fun kvs => svs.length = n ∧ kvs.length = m ∧ F (lookT nn S lams) (arr ix (svs.map SV.arg ++ kvs.map SV.arg ++ dd.map SV.tr)) Q fun C fs => EX C fs S
@[simp] theorem gCTP_eq (EX : EXT) (F : FTp) (n m : Nat) (ix : List Nat) (dd : List D) (ga gk : GA) (S : S) (Q : SV → Prop) : gCTP EX F n m ix dd ga gk S Q = ga S fun svs => gk S fun kvs => svs.length = n ∧ kvs.length = m ∧ F EX.tl (arr ix (svs.map SV.arg ++ kvs.map SV.arg ++ dd.map SV.tr)) Q fun C fs => EX C fs S := rfl
@[simp] theorem gCTL_eq (EX : EXT) (F : FTp) (nn : Nat) (lams : List (LamSt × (EXT → GE))) (n m : Nat) (ix : List Nat) (dd : List D) (ga gk : GA) (S : S) (Q : SV → Prop) : gCTL EX F nn lams n m ix dd ga gk S Q = ga S fun svs => gk S fun kvs => svs.length = n ∧ kvs.length = m ∧ F (lookT nn S lams) (arr ix (svs.map SV.arg ++ kvs.map SV.arg ++ dd.map SV.tr)) Q fun C fs => EX C fs S := rfl
section
variable {X : Cx} {EX : EXT} {k n nn : Nat} {ps ks : List Str} {F : FTp} {dd : List D} {dvs : List V} {x : Str} {p pos : Pos} {e : Expr} {es : List Expr} {ga gk : GA} {kws : List Keyword} {ix : List Nat} {d : He.DefD} {lams : List (LamSt × (EXT → GE))}
theorem ve_ctp (Fn : FnT X.prog X.w X.K X.mg X.base d k ps F) (hx : d.name = x) (hr : Room k X.A) (hb : ∀ fd cl, FG X.K d.name d.qual d.params d.body d.scope cl (d.dvs X.K) (d.kws X.K) (He.fAd X.K d.at_) fd → KBi X.K fd ps n ks ix dvs) (hw : Wrs (TabsOf X.K) dd dvs) (hg : Gl X x)
    (ha : VA X EX (e :: es) ga) (hkw : VKw X EX kws gk) (hall : (backToKw pos (keywordEach kws X.env)).all (·.1.isSome) = true := by rfl) (hks : (backToKw pos (keywordEach kws X.env)).filterMap (·.1) = ks := by rfl)
    (hdb : (x == ("__debug__" : Str)) = false := by decide) (he : starEach (e :: es) X.env = (false, eval e X.env) :: starEach es X.env := by rfl)
    (hpl : ((backTo pos (starEach (e :: es) X.env)).any (·.1) || (backToKw pos (keywordEach kws X.env)).any (·.1.isNone)) = false := by rfl) :
    VE X EX (.Call (.Name x p) (e :: es) kws pos) (gCTP EX F n ks.length ix dd ga gk) := by
  obtain ⟨⟨fd, cl, hf, hF⟩, hm⟩ := Fn
  rw [hx] at hm
  obtain ⟨ds, rd, hto⟩ := (hb fd cl hf).to
  refine ⟨fun G0 H0 tk => ⟨fun pins s σ H Q I h => ?_⟩⟩
  obtain ⟨G, S, Qs, R, q, kq⟩ := h
  refine wpAny_Call_Name_kw (ld_glob I hg hm ?_ hdb)
  refine args_run (first := []) (keepsK hf.kp) ha hkw hall hks he hpl tk I R q fun us ws vs zs svs kvs G1 G2 H1 H2 s2 E1 r1 E2 r2 ⟨l1, l2, q2⟩ I2 rv rz => ⟨I2.kIn, ?_⟩
  obtain ⟨c1, c2⟩ := args_at (ix := ix) hw (tk.tt R (E1.trans E2)) E2 r1 r2
  exact call_of_code (run_ctp hF hr tk I2 ((R.go E1).go E2) c1 c2 q2 (hto s2 us ws I2.kIn (rv.length.symm.trans (r1.length.trans l1)) (rz.length.symm.trans (r2.length.trans l2))) (vals_arr ix ((rv.append rz).append rd)) (kq_call R (E1.trans E2) kq) fun _ _ z => z)
theorem ve_ctl (Fn : FnT X.prog X.w X.K X.mg X.base d k ps F) (hx : d.name = x) (hr : Room k X.A) (hb : ∀ fd cl, FG X.K d.name d.qual d.params d.body d.scope cl (d.dvs X.K) (d.kws X.K) (He.fAd X.K d.at_) fd → KBi X.K fd ps n ks ix dvs) (hw : Wrs (TabsOf X.K) dd dvs) (hg : Gl X x)
    (hfn : ∀ x, X.fn x = true) (hn : X.env.cells = cellsFrom (nn + 1) X.env.scope.names []) (hl : ∀ st g, (st, g) ∈ lams → LamD X st g)
    (ha : VA X EX (e :: es) ga) (hkw : VKw X EX kws gk) (hall : (backToKw pos (keywordEach kws X.env)).all (·.1.isSome) = true := by rfl) (hks : (backToKw pos (keywordEach kws X.env)).filterMap (·.1) = ks := by rfl)
    (hdb : (x == ("__debug__" : Str)) = false := by decide) (he : starEach (e :: es) X.env = (false, eval e X.env) :: starEach es X.env := by rfl)
    (hpl : ((backTo pos (starEach (e :: es) X.env)).any (·.1) || (backToKw pos (keywordEach kws X.env)).any (·.1.isNone)) = false := by rfl) :
    VE X EX (.Call (.Name x p) (e :: es) kws pos) (gCTL EX F nn lams n ks.length ix dd ga gk) := by
  obtain ⟨⟨fd, cl, hf, hF⟩, hm⟩ := Fn
  rw [hx] at hm
  obtain ⟨ds, rd, hto⟩ := (hb fd cl hf).to
  refine ⟨fun G0 H0 tk => ⟨fun pins s σ H Q I h => ?_⟩⟩
  obtain ⟨G, S, Qs, R, q, kq⟩ := h
  refine wpAny_Call_Name_kw (ld_glob I hg hm ?_ hdb)
  refine args_run (first := []) (keepsK hf.kp) ha hkw hall hks he hpl tk I R q fun us ws vs zs svs kvs G1 G2 H1 H2 s2 E1 r1 E2 r2 ⟨l1, l2, q2⟩ I2 rv rz => ⟨I2.kIn, ?_⟩
  obtain ⟨c1, c2⟩ := args_at (ix := ix) hw (tk.tt R (E1.trans E2)) E2 r1 r2
  exact call_of_code (run_ctl hF hr hfn hn hl tk I2 ((R.go E1).go E2) c1 c2 q2 (hto s2 us ws I2.kIn (rv.length.symm.trans (r1.length.trans l1)) (rz.length.symm.trans (r2.length.trans l2))) (vals_arr ix ((rv.append rz).append rd)) (kq_call R (E1.trans E2) kq) fun _ _ z => z)
end
/-! ### x() of a lambda in a slot -/
def gThk (EX : EXT) (i : Nat) : GE := fun S Q => ∃ f b, S[i]? = some (some (.tr (.fn f b))) ∧ EX.tl b Q fun C fs => EX C fs S
@[simp] theorem gThk_eq (EX : EXT) (i : Nat) (S : S) (Q : SV → Prop) : gThk EX i S Q = ∃ f b, S[i]? = some (some (.tr (.fn f b))) ∧ EX.tl b Q fun C fs => EX C fs S := rfl
theorem ve_thk {X : Cx} {EX : EXT} (i : Nat) {a : Str} {p1 p2 : Pos} (hr : Room (thkLev + 1) X.A) (hN : X.N[i]? = some a := by rfl) (hv : Vis X.env.scope a := by first | exact Or.inl rfl | exact Or.inr (Or.inl rfl) | exact Or.inr (Or.inr rfl)) (hd : (a == ("__debug__" : Str)) = false := by decide) (hcd : (a == ("__classdict__" : Str)) = false := by decide) :
    VE X EX (.Call (.Name a p1) [] [] p2) (gThk EX i) := by
  refine ⟨fun G0 H0 tk => ⟨fun pins s σ H Q I h => ?_⟩⟩
  obtain ⟨G, S, Qs, R, ⟨f, b, e, q⟩, kq⟩ := h
  obtain ⟨v, e1, r⟩ := R.slot i _ e
  obtain ⟨rfl, _⟩ := id r
  refine wpAny_Call_Name_kw (thn ((pe_var (pos := p1) (i := i) hN hv hd hcd).run pins s σ H (fun v H1 => v = .ref f ∧ H1 = H) I ⟨.ref f, e1, rfl, rfl⟩) fun u s1 ⟨v, H1, I1, r1, q1⟩ => ?_)
  obtain ⟨rfl, rfl⟩ := q1
  obtain rfl : u = Value.ref f := r1
  obtain ⟨_, c', dV, hF, _⟩ := id r
  obtain ⟨⟨doc, pm, ctv, hof⟩, _, _⟩ := I1.hok f _ (R.ok.sub _ _ hF)
  refine PySem.W.callWith_F0 ⟨_, _, _, _, hof⟩ ?_
  refine call_of_code (pos := []) (kw := []) (codeAny_mono (tk.thk.run f b G H1 X.A X.stack s1 Q (XOf G H1 fun C fs => EX C fs S) Qs (fun C fs => EX C fs S) R.ext r I1.env0 hr q (kq_call R (.refl R.ok) kq) fun _ _ _ z => z) fun r s' hq => ?_)
  cases r with
  | error e => exact tk.takes e s' (XE.of_call I1 (xof_take tk R fun _ _ z => z) hq)
  | ok fl =>
    cases fl with
    | ret u => exact I1.after hq
    | next => exact False.elim hq
    | brk => exact False.elim hq
    | cont => exact False.elim hq
end VT

namespace VT
open PySem PySem.Spec PyProof.Rows L2

/-! ### a lambda is made -/
section
variable {X : Cx} {EX : EXT} {pins : List (Addr × Obj)} {σ : L2.St} {G : Gh} {H : Hp} {s : Shared} {n : Nat} {st : LamSt} {c P : Addr} {dV : Value} {pos : Pos} {Q : Value → Shared → Prop} {E : Value → Shared → Prop}
theorem lamO_ok {h : Heap} {f c' : Addr} {doc pm ctv : Value} {b : LamB} {H' : Hp} (e : h.get? f = some (PySem.W.kdv_obj "<lambda>" b.st.qual b.st.params (.expr b.st.body) b.st.scope b.clo dV doc pm c' ctv)) : ObjOk X.prog X.w H' h f (lamO f c' dV b) :=
  ⟨⟨doc, pm, ctv, e⟩, ⟨_, e⟩, fun h1 h2 ⟨doc, pm, ctv, e⟩ st => ⟨doc, pm, ctv, st _ e⟩⟩
theorem ext_tab (ok : OkG G H) {q : Str} {ps more : Array Value} {c' f : Addr} {o : HO} (hm : (P, q) ∈ G.T.tabs) (hu : ∀ p ∈ G.T.tabs, p.1 = P → p.2 = q) (hP : H P = some (.tbl ps)) (hc : H c' = none) (hf : H f = none) (hfc : f ≠ c')
    (ht : TriplesOk (ps ++ more).toList) (ha : ∀ (pos : Pos) (cv : Value), codeAmong pos (ps ++ more).toList = some cv → (∃ c, cv = .ref c ∧ G.F c = some (LamX.CodeO c q)) ∨ cv = .ref c') :
    Ext G H ⟨upd (upd G.F c' (LamX.CodeO c' q)) f o, G.pb, G.T⟩ (upd (upd (upd H P (.tbl (ps ++ more))) c' (LamX.CodeO c' q)) f o) := by
  have nF : G.F P = none := (ok.tabs.1 _ hm).1
  have hPc : P ≠ c' := ne_of_none hP hc
  have hPf : P ≠ f := ne_of_none hP hf
  have up : ∀ b u, H b = some u → b ≠ P → upd (upd (upd H P (.tbl (ps ++ more))) c' (LamX.CodeO c' q)) f o b = some u := fun b u e h => by
    rw [upd_ne (ne_of_none e hf), upd_ne (ne_of_none e hc), upd_ne h]
    exact e
  have upP : upd (upd (upd H P (.tbl (ps ++ more))) c' (LamX.CodeO c' q)) f o P = some (.tbl (ps ++ more)) := by rw [upd_ne hPf, upd_ne hPc, upd_same]
  have fz : ∀ b u, G.F b = some u → upd (upd G.F c' (LamX.CodeO c' q)) f o b = some u := fun b u e => by
    have := ok.sub b u e
    rw [upd_ne (ne_of_none this hf), upd_ne (ne_of_none this hc)]
    exact e
  have bn : ∀ b u, G.F b = some u → b ≠ P := fun b u e z => by rw [z, nF] at e; cases e
  refine ⟨⟨fun b u e => ?_, fun p e => ⟨(ok.bag p e).1.go (fun u h => ?_) fz, ?_⟩, fun p hp => ?_, fun p hp => let ⟨o, vs, h1, h2, h3⟩ := ok.tabs.2 p hp; ⟨o, vs, h1, fz _ _ h2, h3⟩⟩, fun b u e q n => up b u e fun z => n ps (by rw [z, hP] at e; exact (Option.some.inj e).symm), fun b ps' e => ?_, rfl, fun _ h => h, fun _ h => .inl h, fz, fun b u e => ?_⟩
  · have e : upd (upd G.F c' (LamX.CodeO c' q)) f o b = some u := e
    by_cases h1 : b = f
    · subst h1
      rw [upd_same] at e ⊢
      exact e
    · rw [upd_ne h1] at e ⊢
      by_cases h2 : b = c'
      · subst h2
        rw [upd_same] at e ⊢
        exact e
      · rw [upd_ne h2] at e ⊢
        rw [upd_ne (bn b u e)]
        exact ok.sub b u e
  · obtain ⟨⟨_, _, _, _, _, e2, _⟩, _⟩ := ok.bag p e
    refine up p u h fun z => ?_
    rw [z, hP] at e2
    cases e2
  · obtain ⟨⟨_, _, _, _, _, e2, _⟩, e3⟩ := ok.bag p e
    show upd (upd G.F c' (LamX.CodeO c' q)) f o p = none
    rw [upd_ne (ne_of_none e2 hf), upd_ne (ne_of_none e2 hc)]
    exact e3
  · obtain ⟨nn, ps', e, k, cc⟩ := ok.tabs.1 p hp
    refine ⟨?_, ?_⟩
    · show upd (upd G.F c' (LamX.CodeO c' q)) f o p.1 = none
      rw [upd_ne (ne_of_none e hf), upd_ne (ne_of_none e hc)]
      exact nn
    · by_cases hp1 : p.1 = P
      · refine ⟨ps ++ more, by rw [hp1]; exact upP, ht, fun pos cv hcv => ?_⟩
        have e2 := hu p hp hp1
        rcases ha pos cv hcv with ⟨c0, e0, e1⟩ | e0
        · exact ⟨c0, e0, by rw [e2]; exact fz _ _ e1⟩
        · refine ⟨c', e0, ?_⟩
          show upd (upd G.F c' (LamX.CodeO c' q)) f o c' = _
          rw [upd_ne (Ne.symm hfc), upd_same, e2]
      · exact ⟨ps', up _ _ e hp1, k, fun pos cv hcv => let ⟨c0, e0, e1⟩ := cc pos cv hcv; ⟨c0, e0, fz _ _ e1⟩⟩
  · by_cases h : b = P
    · exact ⟨_, by rw [h]; exact upP⟩
    · exact ⟨ps', up b _ e h⟩
  · have e : upd (upd G.F c' (LamX.CodeO c' q)) f o b = some u := e
    by_cases h1 : b = f
    · rw [h1]; exact .inr hf
    · rw [upd_ne h1] at e
      by_cases h2 : b = c'
      · rw [h2]; exact .inr hc
      · rw [upd_ne h2] at e
        exact .inl e
theorem lam_tail (I : Inv X pins σ H s) (ok : OkG G H) (hT : G.T = TabsOf X.K) (L : LamK X.N X.env.scope st.scope) (hn : X.env.cells = cellsFrom (n + 1) X.env.scope.names []) (hs : st.sup = X.env.scope) (TB : LamX.TabB X.base X.mg c P) (hcode : X.env.code = .ref c) (hm : (P, st.qual) ∈ (TabsOf X.K).tabs) (hu : ∀ p ∈ (TabsOf X.K).tabs, p.1 = P → p.2 = st.qual)
    (hdV : (st.dfl = false ∧ dV = .none) ∨ (st.dfl = true ∧ ∃ T, dV = .ref T ∧ G.F T = some (.tup [.int 0])))
    (h : ∀ f G' H1 s', Inv X pins σ H1 s' → Ext G H G' H1 → rep G'.F (.fn f ⟨st, n⟩) (.ref f) → Q (.ref f) s') :
    wpAny (model X.prog X.w) X.A (makeTail "<lambda>" st.qual st.params (.expr st.body) st.scope X.env dV .none none pos pos.line) Q E s := by
  rw [← hT] at hm hu
  obtain ⟨nF, ps, hP, ht, ha⟩ := ok.tabs.1 _ hm
  have hfree : ∀ y ∈ st.scope.names, y.2 = .free → ∃ c, X.env.cells.lookup y.1 = some c := fun y hy e => by
    rcases (L.free _ hy e).2 with k | k
    · exact I.ok.has _ (.inl k)
    · exact I.ok.has _ (.inr k)
  have hclo : LamB.clo ⟨st, n⟩ = cloFrom X.env.cells st.scope.names [] := by unfold LamB.clo; rw [hn, hs]
  have hP' : s.heap.get? P = some { cls := .none, data := .fields ps } := I.hok P _ hP
  have dv : ∀ (F : Hp), (∀ b u, G.F b = some u → F b = some u) → (st.dfl = false ∧ dV = .none) ∨ (st.dfl = true ∧ ∃ T, dV = .ref T ∧ F T = some (.tup [.int 0])) := fun F m => hdV.imp id fun ⟨a, T, b, q⟩ => ⟨a, T, b, m _ _ q⟩
  cases hc : codeAmong pos ps.toList with
  | none =>
    refine PySem.W.kdv_makeTail (mg := X.mg) (c := c) (P := P) (ps := ps) (closure_ok hfree) I.ok.glob (I.mod.glob.keeps I.bk) hcode (TB.code.keeps I.bk) hP' ht hc TB.gP (TB.bm.keeps I.bk) fun c' ctv doc h' tk hx hge hlt hrec htb => ?_
    obtain ⟨c2, oc, vs, t, e2, hoc, hd, hv⟩ := hrec
    cases e2
    have hsz : s.heap.objs.size ≤ h'.objs.size := Nat.le_trans hge (Nat.le_of_lt hlt)
    have I1 := LamX.inv_table (t' := tk) (more := #[rawInt pos.line, rawInt pos.col, .ref c']) I hP (fun b o hb e => hx b o hb e) htb hge ⟨oc, vs, t, hoc, hd, hv⟩
    have I2 := I1.laid (a := h'.objs.size) (o := lamO h'.objs.size c' dV ⟨st, n⟩) (t' := tk) (h' := h'.push (PySem.W.kdv_obj "<lambda>" st.qual st.params (.expr st.body) st.scope (cloFrom X.env.cells st.scope.names []) dV doc ((X.mg "__name__").getD .none) c' ctv))
      (fun b u e => Heap.get?_push_of_some _ e) (Nat.le_refl _) (lamO_ok (by rw [hclo]; exact Heap.get?_push_size _ rfl))
    have nc : H c' = none := I.hok.fresh hge
    have nf : H h'.objs.size = none := I.hok.fresh hsz
    have hfc : h'.objs.size ≠ c' := Nat.ne_of_gt hlt
    have eL : (ps ++ #[rawInt pos.line, rawInt pos.col, .ref c']).toList = ps.toList ++ [rawInt pos.line, rawInt pos.col, .ref c'] := by simp
    have Ex := ext_tab (o := lamO h'.objs.size c' dV ⟨st, n⟩) ok hm hu hP nc nf hfc (by rw [eL]; exact PySem.TriplesOk_snoc _ _ _ _ ht) (more := #[rawInt pos.line, rawInt pos.col, .ref c']) fun p' cv hcv => by
      rw [eL] at hcv
      exact (LamX.among_app _ ht hcv).imp (fun z => ha p' cv z) id
    refine h _ _ _ _ I2 Ex ⟨rfl, c', dV, upd_same, ?_, dv _ Ex.frz⟩
    show upd (upd G.F c' (LamX.CodeO c' st.qual)) h'.objs.size (lamO h'.objs.size c' dV ⟨st, n⟩) c' = _
    rw [upd_ne (Ne.symm hfc), upd_same]
  | some cv =>
    obtain ⟨c', e, hco⟩ := ha pos cv hc
    subst e
    refine PySem.W.kdv_makeTailHit (mg := X.mg) (c := c) (P := P) (ps := ps) (closure_ok hfree) I.ok.glob (I.mod.glob.keeps I.bk) hcode (TB.code.keeps I.bk) hP' ht hc (TB.bm.keeps I.bk) fun ctv doc h' tk hx hsz => ?_
    have I2 := I.laid (a := h'.objs.size) (o := lamO h'.objs.size c' dV ⟨st, n⟩) (t' := tk) (h' := h'.push (PySem.W.kdv_obj "<lambda>" st.qual st.params (.expr st.body) st.scope (cloFrom X.env.cells st.scope.names []) dV doc ((X.mg "__name__").getD .none) c' ctv))
      (fun b u e => Heap.get?_push_of_some _ (hx b u e)) hsz (lamO_ok (by rw [hclo]; exact Heap.get?_push_size _ rfl))
    have nf : H h'.objs.size = none := I.hok.fresh hsz
    have Ex := ext_frz ok nf (lamO h'.objs.size c' dV ⟨st, n⟩)
    exact h _ _ _ _ I2 Ex ⟨rfl, c', dV, upd_same, Ex.frz _ _ hco, dv _ Ex.frz⟩
end
def gLam (st : LamSt) (n : Nat) : GE := fun _ Q => ∀ f, Q (.tr (.fn f ⟨st, n⟩))
@[simp] theorem gLam_eq (st : LamSt) (n : Nat) (S : S) (Q : SV → Prop) : gLam st n S Q = ∀ f, Q (.tr (.fn f ⟨st, n⟩)) := rfl
section
variable {X : Cx} {EX : EXT} {n : Nat} {st : LamSt} {c P : Addr} {pos : Pos} {params : Arguments} {body : Expr} {scope : Scope}
theorem ve_lam (D : LamC X st) (e1 : st.params = params) (e2 : st.body = body) (e3 : st.scope = scope) (hn : X.env.cells = cellsFrom (n + 1) X.env.scope.names []) (TB : LamX.TabB X.base X.mg c P) (hcode : X.env.code = .ref c) (hm : (P, st.qual) ∈ (TabsOf X.K).tabs) (hu : ∀ p ∈ (TabsOf X.K).tabs, p.1 = P → p.2 = st.qual)
    (hdf : (st.dfl = false ∧ defaultsOf params X.env = ([], [])) ∨ (st.dfl = true ∧ (∃ j p, params.defaults = [.Constant (.int 0) j p]) ∧ params.kw_defaults = [])) : VE X EX (.Lambda params body scope pos) (gLam st n) := by
  subst e1 e2 e3
  refine ⟨fun G0 H0 tk => ⟨fun pins s σ H Q I h => ?_⟩⟩
  obtain ⟨G, S, Qs, R, q, kq⟩ := h
  have hT : G.T = TabsOf X.K := R.ext.tt.trans tk.tabs
  rcases hdf with ⟨h1, h2⟩ | ⟨h1, ⟨j, p, h2⟩, h3⟩
  · refine PySem.W.kla_eval h2 ?_
    rw [makeFunction_eq]
    simp only [List.zip_nil_right, List.filterMap_nil, List.isEmpty_nil, if_true, pure_bind]
    rw [← D.qual]
    exact lam_tail I R.ok hT D.ok hn D.sup TB hcode hm hu (.inl ⟨h1, rfl⟩) fun f G' H1 s' I' E' r' => ⟨.ref f, H1, I', rfl, kq _ _ _ (.tr (.fn f ⟨st, n⟩)) E' r' (q f)⟩
  · refine PySem.W.kdv_lam (by rw [h2]; rfl) h3 ?_
    rw [h2]
    refine PySem.W.kdv_all1 (thn ((pe_int (X := X) (i := 0) (j := j) (pos := p)).run pins s σ H (fun v H1 => v = .int 0 ∧ H1 = H) I ⟨rfl, rfl⟩) fun u s1 ⟨v, H1, I1, r1, e1, e2⟩ => ?_)
    subst e1 e2
    refine PySem.W.kdv_all0 ?_
    rw [makeFunction_eq]
    simp only [List.zip_nil_right, List.filterMap_nil, List.isEmpty_nil, List.isEmpty_cons, Bool.false_eq_true, if_false, if_true, pure_bind]
    refine wpAny_bind (wpAny_newTextTuple ?_)
    have hf : H1 s1.heap.objs.size = none := I1.hok.fresh (Nat.le_refl _)
    have I2 := I1.laid (a := s1.heap.objs.size) (o := .tup [.int 0]) (t' := s1.toks) (h' := s1.heap.push { cls := .type "tuple", data := .seq [u].toArray }) (fun b o e => Heap.get?_push_of_some _ e) (Nat.le_refl _) ⟨by decide, [u], .cons r1 .nil, ⟨_, Heap.get?_push_size _ rfl, rfl, _, rfl⟩⟩
    have Ex := ext_frz R.ok hf (.tup [.int 0])
    rw [← D.qual]
    exact lam_tail I2 Ex.ok hT D.ok hn D.sup TB hcode hm hu (.inr ⟨h1, _, rfl, upd_same⟩) fun f G' H2 s' I' E' r' => ⟨.ref f, H2, I', rfl, kq _ _ _ (.tr (.fn f ⟨st, n⟩)) (Ex.trans E') r' (q f)⟩
end
end VT

namespace VT
open PySem PySem.Spec PyProof.Rows L2

/-! ### a def's lambdas: its code object's table -/
structure LamF (K : PySem.W.Frag) (x : Str) : Prop where
  inn : x ∈ lamIn K
  uni : ∀ p ∈ (TabsOf K).tabs, p.1 = (He.cT K (x, none)).2 → p.2 = lamQ x
theorem LamF.mem {K : PySem.W.Frag} {x : Str} (h : LamF K x) : ((He.cT K (x, none)).2, lamQ x) ∈ (TabsOf K).tabs := List.mem_map.mpr ⟨x, h.inn, rfl⟩
def lamB (x : Str) (K : PySem.W.Frag) : Bool := decide (x ∈ lamIn K) && (TabsOf K).tabs.all fun p => !decide (p.1 = (He.cT K (x, none)).2) || decide (p.2 = lamQ x)
theorem lamB_ok {K : PySem.W.Frag} {x : Str} (h : lamB x K = true) : LamF K x := by
  unfold lamB at h
  simp only [Bool.and_eq_true, Bool.or_eq_true, Bool.not_eq_true', decide_eq_true_eq, decide_eq_false_iff_not, List.all_eq_true] at h
  exact ⟨h.1, fun p hp e => (h.2 p hp).resolve_left fun z => z e⟩
/-- what the making of lambdas asks of all that stays -/
def TabBs (K : PySem.W.Frag) (mg : Str → Option Value) (base : Heap) : Prop := ∀ p ∈ (lamIn K).map fun x => He.cT K (x, none), LamX.TabB base mg p.1 p.2
theorem LamF.tb {K : PySem.W.Frag} {mg : Str → Option Value} {base : Heap} {x : Str} (h : LamF K x) (t : TabBs K mg base) : LamX.TabB base mg (He.cT K (x, none)).1 (He.cT K (x, none)).2 := t _ (List.mem_map.mpr ⟨x, h.inn, rfl⟩)
section
variable {P : Program} {w : World} {K : PySem.W.Frag} {mg : Str → Option Value} {base : Heap} {x qual : Str} {params : Arguments} {body : List Stmt} {scope : Scope} {dvs : List V} {kws : List (Str × V)} {p : Str × Option Str} {fd : FuncData} {CX : CXT} {N ps : List Str} {k : Nat} {sp : Sp}
/-- the rule for a def, its code object told -/
theorem fun_okC (F : FunD K x qual params body scope dvs kws (He.fAd K p) fd) (S : FnScope N ps scope) (len : ∀ vs H Q E, sp vs H Q E → vs.length = ps.length)
    (hbody : ∀ (cdv : Value) (A : Around) (outer : List Env) (s : Shared) (H : Hp) (vs : List V) (Q : VK) (E : XK), cdv = .ref (He.codeOf K p) → Room k (A.deeper (envOfC qual scope s.heap.objs.size (He.fAd K p) cdv)) → sp vs H Q E →
      ∃ t, PSs (cxOf CX P w K mg base N qual scope (He.fAd K p) cdv A outer s H E) body t ∧ t { nx := fun _ H' => Q .non H', rt := Q } (L2.start N vs) H) : FnOk P w K mg base CX (k + 1) (He.fAd K p) fd ps sp := by
  obtain ⟨oc, od, dV, kV, doc, pm, an, cdv, ct, osl, rfl, lk, hcd, _, _⟩ := F.ex
  obtain ⟨c, hc⟩ := He.codeIn_ref hcd
  have e := He.codeOf_eq (p := p) lk hc
  exact fn_of lk hcd S len fun A outer s H vs Q E hr hsp => hbody cdv A outer s H vs Q E (by rw [e]; exact hc) hr hsp
end
section
variable {P : Program} {w : World} {K : PySem.W.Frag} {mg : Str → Option Value} {base : Heap} {d : He.DefD} {k : Nat} {N ps : List Str} {g : Nat → GS}
/-- the law's own def, with lambdas -/
theorem law_okL (Sc : FnScope ("_law_script" :: "_law_bag_here" :: N) ["_law_script"] d.scope)
    (hbody : ∀ (f : Addr) (cdv : Value) (A : Around) (outer : List Env) (s : Shared) (H : Hp) (E : XK) (n : Nat), s.heap.objs.size = n → cdv = .ref (He.codeOf K d.at_) → Room k (A.deeper (envOfC d.qual d.scope s.heap.objs.size f cdv)) →
      PSs (cxOf CX0 P w K mg base ("_law_script" :: "_law_bag_here" :: N) d.qual d.scope f cdv A outer s H E).nox d.body (tSeq (tAsg (tCall (spBag K) [] E0 (tCons (tVar 0) tNil)) (L2.gName 1)) (tEx K (g n))))
    (pure_ : ∀ n, g n VLaw (none :: some .bag :: List.replicate N.length none)) :
    ∀ fd, FunD K d.name d.qual d.params d.body d.scope (d.dvs K) (d.kws K) (He.fAd K d.at_) fd → FnOk P w K mg base CX0 (k + 1) (He.fAd K d.at_) fd ["_law_script"] (spLaw K) := by
  intro fd hf
  refine fun_okC hf Sc (fun vs H Q E ⟨a, ns, e, _⟩ => by rw [e]; rfl) (fun cdv A outer s H vs Q E hc hr hsp => ⟨_, PSs.nox (hbody _ cdv A outer s H E s.heap.objs.size rfl hc hr), ?_⟩)
  obtain ⟨a, ns, rfl, hS, hT, hq⟩ := hsp
  refine ⟨_, rfl, ?_⟩
  refine ⟨a, ns, rfl, hS, fun H' c p hc hp ec ep kp => ?_⟩
  have hcp : c ≠ p := fun z => by
    rw [z, ep] at ec
    cases hn : cellsV ns with
    | nil => rw [hn] at ec; cases ec
    | cons x xs =>
      obtain ⟨y, hy⟩ : ∃ y : Int, x = .int y := by
        unfold cellsV at hn
        have hx : x ∈ (ns.take 63).map V.int := by rw [hn]; exact List.mem_cons_self ..
        obtain ⟨y, _, hy⟩ := List.mem_map.mp hx
        exact ⟨y, hy.symm⟩
      rw [hn, hy] at ec
      cases ec
  refine bag_start (n := N.length) hcp ec ep rfl ?_ ⟨fun p hp => kp _ _ (hT.1 p hp), fun p hp => let ⟨o, vs, h1, h2, h3⟩ := hT.2 p hp; ⟨o, vs, h1, kp _ _ h2, h3⟩⟩ VLaw (pure_ _) (fun S z => z.elim) (fun sv e v H G H0 r => ?_) (fun _ z => z) (fun _ z => z)
  · simp [L2.start]
  · have e : sv = .tr (.bl true) := e
    subst e
    have e2 : v = .bl true := r
    subst e2
    exact hq _
end
end VT

namespace VT
open PySem PySem.Spec PyProof.Rows L2

/-! ### the handled exception, in a suite or in a def that a suite calls -/
section
variable {X : Cx} {EX : EXT} {e : Expr} {f : Str} {pos : Pos} {ge : GE} {a C dx : Addr} {oe : Obj}
theorem ve_xg (Cs : List Addr) (hc : ∀ C ∈ Cs, XfC X.K C ∧ PySem.W.findIn X.K (.ref C) f = some none) (hp : (a, oe) ∈ X.pn) (hz : Zc (.ref C) (some dx) oe) (hd : ∃ vs, oe.data = .fields vs) (he : VE X EX e ge) (hb : attributeBase e f X.env (eval e X.env) = eval e X.env := by rfl) :
    VE X EX (.Attribute e f pos) (gXf a C dx Cs f ge) := by
  refine ⟨fun G0 H0 tk => ⟨fun pins s σ H Q I h => ?_⟩⟩
  obtain ⟨G, S, Qs, R, q, kq⟩ := h
  refine attr_of hb (thn ((he.pe G0 H0 tk).run pins s σ H (fun v H1 => ∃ G1 fs d ws, Ext G H G1 H1 ∧ v = .ref a ∧ C ∈ Cs ∧ G1.F dx = some (.xd ws) ∧ repf G1.F fs ws ∧ fs.lookup f = some d ∧ Qs (.tr d)) I
    ⟨G, S, _, R, q, fun v H1 G1 sv E1 r1 ⟨fs, d, e, hC, hl, q1⟩ => ?_⟩) fun u s1 ⟨v, H1, I1, rv, G1, fs, d, ws, E1, ev, hC, e3, e4, hl, q1⟩ => ?_)
  · subst e
    obtain ⟨ev, ws, e3, e4⟩ := r1
    exact ⟨G1, fs, d, ws, E1, ev, hC, e3, e4, hl, q1⟩
  · subst ev
    obtain rfl : u = Value.ref a := rv
    obtain ⟨T, hno⟩ := hc C hC
    obtain ⟨ha, _⟩ := I1.pin (a, oe) (List.mem_append_left _ hp)
    obtain ⟨vs, hd⟩ := hd
    have hx : ObjOk X.prog X.w H1 s1.heap dx (.xd ws) := I1.hok dx _ (E1.ok.sub _ _ e3)
    obtain ⟨mA, hns, hr⟩ := hx
    obtain ⟨v, hv, r⟩ := repf_get e4 hl
    obtain ⟨od, ho, hlo⟩ := lookIn_ns hns
    obtain ⟨u, hu, ru⟩ := RelO.some_of (v := v) (o := mA f) (by rw [← hv]; exact hr f)
    have J : PySem.W.InstAt s1.heap a oe C (some od) := ⟨ha, hz.1, by unfold PySem.W.notCls; rw [hd] <;> rfl, by rw [hz.2]; exact ho⟩
    exact HandSPX.exc_get I1.kIn J T.ga T.gg T.exC (PySem.W.findObj_own T.hdC hno rfl (by rw [hlo, hu])) (handed_of ru) ⟨v, H1, I1.tok _, ru, kq v H1 G1 (.tr d) E1 r q1⟩
end
/-- what a def gives of the handled exception's class and fields -/
abbrev FEp := Addr → List (Str × D) → (SV → Prop) → Prop
structure FnE (P : Program) (w : World) (K : PySem.W.Frag) (mg : Str → Option Value) (base : Heap) (d : He.DefD) (k : Nat) (p0 : Str) (F : FEp) : Prop where
  gm : mg d.name = some (.ref (He.fAd K d.at_))
  kp : PySem.W.keepIn K (.ref (He.fAd K d.at_)) = true
  run : ∃ fd, (∀ (s : Shared) (u : Value), d.dfl = [] → BindsTo s fd ⟨[u], []⟩ [(p0, u)]) ∧ ∀ (A : Around) (outer : List Env) (s : Shared) (H : Hp) (Q : VK) (a : Addr) (oe : Obj) (C dx : Addr) (G : Gh) (fs : List (Str × D)) (ws : List (Str × V)) (Qs : SV → Prop), L2H.RoomH k A → L2H.PinOk outer H s (a, oe) → Env0 P w K mg base A outer s H →
    Zc (.ref C) (some dx) oe → (∃ vs, oe.data = .fields vs) → OkG G H → G.T = TabsOf K → G.F dx = some (.xd ws) → repf G.F fs ws → F C fs Qs → (∀ v H' G' sv, Ext G H G' H' → RepV H H G' H' v sv → sv.isRet → Qs sv → Q v H') → BindsTo s fd ⟨[.ref a], []⟩ [(p0, .ref a)] →
    codeAny (model P w) A (.call (.ref (He.fAd K d.at_)) ⟨[.ref a], []⟩) (CR CX0 outer P w H s Q (fun _ _ _ => False)) s
section
variable {P : Program} {w : World} {K : PySem.W.Frag} {mg : Str → Option Value} {base : Heap} {d : He.DefD} {k : Nat} {N : List Str} {p0 : Str} {F : FEp} {g : Addr → Addr → Addr → GS}
theorem fne_ok (hf : DefAt K mg d) (Sc : FnScope N [p0] d.scope) (hbd : ∀ (dV kV doc pm : Value) (an : Option Addr) (cdv ct u : Value), d.dfl = [] → dV = .none → bindArgs (PySem.W.fnOf d.name d.qual d.params d.body d.scope dV kV doc pm an cdv ct) ⟨[u], []⟩ = pure [(p0, u)])
    (hbody : ∀ (a : Addr) (oe : Obj) (C dx : Addr) (cdv : Value) (A : Around) (outer : List Env) (s : Shared) (H : Hp), L2H.RoomH k (A.deeper (envOfC d.qual d.scope s.heap.objs.size (He.fAd K d.at_) cdv)) → Zc (.ref C) (some dx) oe → (∃ vs, oe.data = .fields vs) →
      VSs (L2H.cxH CX0 P w K mg base N d.qual d.scope (He.fAd K d.at_) cdv A outer s H (fun _ _ _ => False) (a, oe)).nox E0T d.body (g a C dx))
    (spec : ∀ a C dx fs Qs, F C fs Qs → g a C dx { nx := fun _ => Qs (.tr .non), rt := Qs } (startS N [.exc a C dx fs])) : FnE P w K mg base d (k + 1) p0 F := by
  obtain ⟨⟨fd, hF⟩, hm⟩ := hf
  obtain ⟨oc, od, dV, kV, doc, pm, an, cdv, ct, osl, rfl, lk, hcd, hD, _⟩ := hF.ex
  refine ⟨hm, hF.kp, PySem.W.fnOf d.name d.qual d.params d.body d.scope dV kV doc pm an cdv ct, fun s u hd => .of_eq (hbd dV kV doc pm an cdv ct u hd ?_), ?_⟩
  · rcases hD with ⟨e, rfl⟩ | ⟨e, _⟩
    · rfl
    · exact absurd (show d.dvs K = [] by unfold He.DefD.dvs; rw [hd]; rfl) e
  intro A outer s H Q a oe C dx G fs ws Qs hr hpin e0 hz hd ok hT e3 e4 hq kq hb
  have kIn : K.In s.heap := e0.mod.kin.keeps fun b o e => (e0.bs b o e).1
  have nolim : s.heap.NoLimit := e0.mod.nolimit.keeps fun b o e => (e0.bs b o e).1
  have knd : ∀ y ∈ ([p0] : List Str).zip [Value.ref a], d.scope.names.lookup y.1 = some .local ∨ (d.scope.names.lookup y.1 = some .cell ∧ ((cellsFrom (s.heap.objs.size + 1) d.scope.names []).lookup y.1).isSome = true) := fun ⟨n, v⟩ hy => by
    rcases Sc.par n (List.of_mem_zip hy).1 with q | q
    · exact .inl q
    · exact .inr ⟨q, PySem.W.cellsFrom_some _ _ _ (.inl q)⟩
  refine codeAny_call_function (L2H.RoomH.depth hr) (kIn _ _ lk) rfl Sc.co Sc.gen rfl (PySem.W.codeRec_of kIn hcd) (hb _ _ _ _ ?_)
  refine wpAny_newFunctionEnv_cells Sc.kind knd fun env he s1 x => ?_
  subst he
  refine ⟨nolim.keeps x.toInCall.keep, codeAny_func ?_⟩
  have I := L2H.inv_startH (CX := CX0) (E := fun _ _ _ => False) (vs := [.ref a]) (us := [.ref a]) (mg := mg) Sc hpin e0 rfl (.cons rfl .nil) x
  have rl : RepL H H G H [.ref a] [.exc a C dx fs] := .cons ⟨rfl, ws, e3, e4⟩ .nil fun b o => o.elim
  have run := ((hbody a oe C dx cdv A outer s H (L2H.RoomH.deeper hr _) hz hd).pss G H (Lk.e0 hT)).nox.run [] s1 _ H { nx := fun _ H' => Q .non H', rt := Q } I
    ⟨G, startS N [.exc a C dx fs], { nx := fun _ => Qs (.tr .non), rt := Qs }, Rel.start ok rl (fun sv h => by rw [List.mem_singleton.mp h]; trivial), spec a C dx fs Qs hq, fun σ' H' G' S' R' _ q => kq .non H' G' (.tr .non) R'.ext rfl trivial q, fun v H' G' sv E' r' ir q => kq v H' G' sv E' r' ir q, fun σ' H' G' S' R' _ q => q.elim, fun σ' H' G' S' R' _ q => q.elim⟩
  refine wpAny_mono run (fun fl s' hs => ?_) fun e s' hs => hs
  cases fl with
  | ret u =>
    obtain ⟨v, σ', H', J, rv, q⟩ := hs
    exact ⟨v, H', J.os, J.bare, J.base, J.hok, rv, q⟩
  | next =>
    obtain ⟨σ', H', J, q⟩ := hs
    exact ⟨V.non, H', J.os, J.bare, J.base, J.hok, (show RelV V.non Value.none from rfl), q⟩
  | brk =>
    obtain ⟨_, _, _, q⟩ := hs
    exact q.elim
  | cont =>
    obtain ⟨_, _, _, q⟩ := hs
    exact q.elim
end
def gFE (F : FEp) (a C dx : Addr) (i : Nat) : GE := fun S Q => ∃ fs, S[i]? = some (some (.exc a C dx fs)) ∧ F C fs Q
@[simp] theorem gFE_eq (F : FEp) (a C dx : Addr) (i : Nat) (S : S) (Q : SV → Prop) : gFE F a C dx i S Q = ∃ fs, S[i]? = some (some (.exc a C dx fs)) ∧ F C fs Q := rfl
section
variable {X : Cx} {EX : EXT} {d : He.DefD} {k : Nat} {p0 x y : Str} {F : FEp} {a C dx : Addr} {oe : Obj} {p1 p2 pos : Pos}
/-- f(e), e the handled exception -/
theorem ve_callE (Fn : FnE X.prog X.w X.K X.mg X.base d k p0 F) (i : Nat) (hx : d.name = x) (hdf : d.dfl = []) (hr : L2H.RoomH k X.A) (hp : (a, oe) ∈ X.pn) (hz : Zc (.ref C) (some dx) oe) (hd : ∃ vs, oe.data = .fields vs) (hg : Gl X x) (hN : X.N[i]? = some y := by rfl) (hv : Vis X.env.scope y := by first | exact Or.inl rfl | exact Or.inr (Or.inl rfl) | exact Or.inr (Or.inr rfl))
    (hd2 : (y == ("__debug__" : Str)) = false := by decide) (hcd : (y == ("__classdict__" : Str)) = false := by decide) (hdb : (x == ("__debug__" : Str)) = false := by decide) (he : starEach [.Name y p2] X.env = (false, eval (.Name y p2) X.env) :: starEach [] X.env := by rfl) (hpl : (backTo pos (starEach [] X.env)).any (·.1) = false := by rfl) :
    VE X EX (.Call (.Name x p1) [.Name y p2] [] pos) (gFE F a C dx i) := by
  obtain ⟨hm, hk, fd, hb, run⟩ := Fn
  rw [hx] at hm
  refine ⟨fun G0 H0 tk => ⟨fun pins s σ H Q I h => ?_⟩⟩
  obtain ⟨G, S, Qs, R, ⟨fs, e, q⟩, kq⟩ := h
  obtain ⟨v, e1, rfl, ws, e3, e4⟩ := R.slot i _ e
  refine wpAny_Call_Name_kw (ld_glob I hg hm ?_ hdb)
  refine PySem.W.callWith_K (h₀ := X.base) I.ok.mod.kin hk (thn ((pa_cons (pe_var (pos := p2) (i := i) hN hv hd2 hcd) pa_nil he).run pos pins s σ H (fun vs H1 => vs = [.ref a] ∧ H1 = H) I ⟨.ref a, e1, rfl, rfl⟩) fun us s1 ⟨vs, H1, I1, r, q1, q2⟩ => ⟨I1.kIn, ?_⟩) he hpl
  subst q1 q2
  obtain rfl : us = [Value.ref a] := by
    cases r with
    | cons r0 rr =>
      cases rr
      rw [show _ = _ from r0]
  have P1 := I1.pin (a, oe) (List.mem_append_left _ hp)
  have pin : L2H.PinOk X.stack H1 s1 (a, oe) := ⟨P1.1, P1.2.1, fun hm => (List.mem_cons.mp (I1.stkSub a hm)).elim P1.2.2.1 P1.2.2.2.1, P1.2.2.2.2⟩
  refine call_of_code (codeAny_mono (run X.A X.stack s1 H1 Q a oe C dx G fs ws Qs hr pin I1.env0 hz hd R.ok (R.ext.tt.trans tk.tabs) e3 e4 q (kq_call R (.refl R.ok) kq) (hb s1 _ hdf)) fun r s' hq => ?_)
  cases r with
  | error er => exact (show False from hq).elim
  | ok fl =>
    cases fl with
    | ret u => exact I1.after hq
    | next => exact False.elim hq
    | brk => exact False.elim hq
    | cont => exact False.elim hq
end
end VT

namespace VT
open PySem PySem.Spec PyProof.Rows L2

/-! ### exception classes: a look at them -/
/-- a class x whose __init__ is d; its built-in base: 0 ValueError, 1 LookupError, 2 IndexError; its field beside the code -/
structure XE where
  x : Str
  d : He.DefD
  b : Nat
  fl : Option Str
structure XBd where
  B : String
  newId : String
  initId : String
  bm : List Value
def xbd : Nat → XBd
  | 0 => ⟨"ValueError", "ValueError.__new__", "ValueError.__init__", [.type "ValueError", .type "Exception", .type "BaseException", .type "object"]⟩
  | 1 => ⟨"LookupError", "LookupError.__new__", "LookupError.__init__", [.type "LookupError", .type "Exception", .type "BaseException", .type "object"]⟩
  | _ => ⟨"IndexError", "IndexError.__new__", "IndexError.__init__", [.type "IndexError", .type "LookupError", .type "Exception", .type "BaseException", .type "object"]⟩
theorem xbd_ok : ∀ n, XBase (xbd n).B (xbd n).newId (xbd n).initId (xbd n).bm
  | 0 => xb_VE
  | 1 => xb_LE
  | _ + 2 => xb_IE
def xcB (K : PySem.W.Frag) (C : Addr) (b : XBd) : Bool :=
  PySem.W.excInitIn K C b.bm b.newId && (PySem.W.excOver K C b.bm && (decide (PySem.W.findIn K (.ref C) "__setattr__" = some (some (.builtin "object.__setattr__"))) && (decide (PySem.W.subIn K (.ref C) (.type "BaseException") = some true) && (decide (PySem.W.subIn K (.ref C) (.type b.B) = some true) &&
    (decide (PySem.W.typeIn K (.ref C) = some (.type "type")) && (PySem.W.keepIn K (.ref C) && (match PySem.W.clsIn K C with | some cd => cd.hasDict | none => false)))))))
theorem xcB_ok {K : PySem.W.Frag} {C : Addr} {b : XBd} (h : xcB K C b = true) : XCls K b.B b.newId b.initId b.bm C := by
  unfold xcB at h
  simp only [Bool.and_eq_true, decide_eq_true_eq] at h
  obtain ⟨h1, h2, h3, h4, h5, h6, h7, h8⟩ := h
  refine ⟨h1, h2, h3, h4, h5, h6, h7, ?_⟩
  split at h8
  · rename_i cd e
    exact ⟨cd, e, h8⟩
  · cases h8
def XE.C (e : XE) (K : PySem.W.Frag) : Addr := He.ga K e.x
def XE.f (e : XE) (K : PySem.W.Frag) : Addr := He.ma K (He.ga K e.x) "__init__"
def XE.ok (P : Program) (K : PySem.W.Frag) (e : XE) : Bool :=
  xcB K (e.C K) (xbd e.b) && (decide (PySem.W.ks_superIn K (e.C K) (e.C K) "__init__" = some (some (.builtin (xbd e.b).initId))) && (decide (PySem.W.mroIn K (e.C K) (.ref (e.C K)) = some true) && (decide (PySem.W.findIn K (.ref (e.C K)) "code" = some none) &&
    (decide (PySem.W.findIn K (.ref (e.C K)) "__init__" = some (some (.ref (e.f K)))) && (decide (PySem.W.typeIn K (.ref (e.f K)) = some (.type "function")) && (okA K e.d (e.f K) && (supB P K (e.f K) (e.C K) && (xfB K (e.C K) && (match e.fl with | some fl => decide (PySem.W.findIn K (.ref (e.C K)) fl = some none) | none => true)))))))))
/-- the def at a, the cell's place left out -/
def fnS (K : PySem.W.Frag) (a : Addr) : He.FnW := match K.lookup a with
  | some ⟨_, _, .func fd, _⟩ => some (fd.name, fd.qualname, fd.params, fd.body, fd.scope, fd.globals, fd.closure.map (fun p => (p.1, 0)), fd.builtins)
  | _ => none
theorem fnS_of {K : PySem.W.Frag} {a : Addr} {d : He.DefD} (e : fnS K a = valS d 0) : fnA K a = valS d (ccA K a) := by
  unfold fnS at e
  unfold fnA ccA
  cases q : K.lookup a with
  | none => rw [q] at e; cases e
  | some ob =>
    obtain ⟨oc, od, dt, osl⟩ := ob
    rw [q] at e
    cases dt with
    | func fd =>
      obtain ⟨m1, m2, m3, m4, m5, m6, m7, m8, m9, m10, m11, m12, m13, m14, m15⟩ := fd
      have e2 : (some (m1, m2, m3, m4, m5, m6, m7.map (fun p => (p.1, 0)), m15) : He.FnW) = some (d.name, d.qual, d.params, FuncBody.stmts d.body, d.scope, mainGlobals, [(("__class__" : Str), 0)], builtinsNs) := e
      simp only [Option.some.injEq, Prod.mk.injEq] at e2
      obtain ⟨rfl, rfl, rfl, rfl, rfl, rfl, e7, rfl⟩ := e2
      match m7, e7 with
      | [(z, c)], e7 =>
        simp at e7
        subst e7
        rfl
      | [], e7 => simp at e7
      | _ :: _ :: _, e7 => simp at e7
    | _ => cases e
structure LksX where
  l : Lks
  P : Program
  xs : List XE
def LksX.seen (L : LksX) (K : PySem.W.Frag) : (Bool × List He.FnW) × Bool × List He.FnW := (L.l.seen K, L.xs.all (fun e => e.ok L.P K), L.xs.map fun e => fnS K (e.f K))
def LksX.due (L : LksX) : (Bool × List He.FnW) × Bool × List He.FnW := (L.l.due, true, L.xs.map fun e => valS e.d 0)
def LksX.Ok (L : LksX) (K : PySem.W.Frag) : Prop := L.seen K = L.due
theorem LksX.Ok.ll {L : LksX} {K : PySem.W.Frag} (c : L.Ok K) : L.l.Ok K := congrArg (fun z : (Bool × List He.FnW) × Bool × List He.FnW => z.1) c
/-- what is known of such a class -/
structure XOk (P : Program) (K : PySem.W.Frag) (e : XE) : Prop where
  fn : fnS K (e.f K) = valS e.d 0
  ok : e.ok P K = true
theorem LksX.Ok.x {L : LksX} {K : PySem.W.Frag} (c : L.Ok K) (i : Nat) {e : XE} (h : L.xs[i]? = some e := by rfl) : XOk L.P K e := by
  have c2 : L.xs.all (fun e => e.ok L.P K) = true := congrArg (fun z : (Bool × List He.FnW) × Bool × List He.FnW => z.2.1) c
  have c3 : (L.xs.map fun e => fnS K (e.f K)) = L.xs.map fun e => valS e.d 0 := congrArg (fun z : (Bool × List He.FnW) × Bool × List He.FnW => z.2.2) c
  have e3 := congrArg (fun l => l[i]?) c3
  simp only [List.getElem?_map, h] at e3
  exact ⟨Option.some.inj e3, List.all_eq_true.mp c2 e (List.mem_of_getElem? h)⟩
section
variable {P : Program} {K : PySem.W.Frag} {e : XE}
theorem XOk.all (h : XOk P K e) : XKind K (e.C K) (e.C K) (e.f K) ∧ okA K e.d (e.f K) = true ∧ supB P K (e.f K) (e.C K) = true ∧ XfC K (e.C K) ∧ ∀ fl, e.fl = some fl → PySem.W.findIn K (.ref (e.C K)) fl = some none := by
  have k := h.ok
  unfold XE.ok at k
  simp only [Bool.and_eq_true, decide_eq_true_eq] at k
  obtain ⟨h1, h2, h3, h4, h5, h6, h7, h8, h9, h10⟩ := k
  refine ⟨⟨⟨_, _, _, _, xbd_ok e.b, xcB_ok h1, h2⟩, h3, h4, h5, h6⟩, h7, h8, xfB_ok h9, fun fl hf => ?_⟩
  rw [hf] at h10
  exact of_decide_eq_true h10
theorem XOk.fg (h : XOk P K e) : ∃ fd, FG K e.d.name e.d.qual e.d.params e.d.body e.d.scope [("__class__", ccA K (e.f K))] (e.d.dvs K) (e.d.kws K) (e.f K) fd := fgS (fnS_of h.fn) h.all.2.1
theorem XOk.code (h : XOk P K e) : XfC K (e.C K) ∧ PySem.W.findIn K (.ref (e.C K)) "code" = some none := ⟨h.all.2.2.2.1, h.all.1.code⟩
theorem XOk.field (h : XOk P K e) {fl : Str} (hf : e.fl = some fl) : XfC K (e.C K) ∧ PySem.W.findIn K (.ref (e.C K)) fl = some none := ⟨h.all.2.2.2.1, h.all.2.2.2.2 fl hf⟩
end
section
variable {P : Program} {w : World} {K : PySem.W.Frag} {mg : Str → Option Value} {base : Heap} {e : XE} {fl cn t : Str} {j j2 : Nat} {p0 p1 p2 p3 p4 p5 p6 p7 p8 p9 p10 p11 p12 p13 : Pos} {ar : Arg}
theorem xmk1 (h : XOk P K e) (hs : mg "super" = none) (hg : mg e.x = some (.ref (He.ga K e.x))) (hfl : e.fl = some fl) (hd : e.d.dfl = []) (hk : e.d.kwd = []) (hc : okS cn) (S : SupScope ["self", fl] ["self", fl] e.d.scope)
    (hb : e.d.body = [.Expr (.Call (.Attribute (.Call (.Name "super" p0) [] [] p1) "__init__" p2) [.Constant (.str t) j p3] [] p4) p5, .Assign [.Attribute (.Name "self" p6) "code" p7] (.Constant (.str cn) j2 p8) p9, .Assign [.Attribute (.Name "self" p10) fl p11] (.Name fl p12) p13])
    (ht : ∀ env : Env, ∃ pl : Sem Bool, eval (.Call (.Attribute (.Call (.Name "super" p0) [] [] p1) "__init__" p2) [.Constant (.str t) j p3] [] p4) env = (do
      let ov ← attributeBase (.Call (.Name "super" p0) [] [] p1) "__init__" env (eval (.Call (.Name "super" p0) [] [] p1) env)
      standAt p2.atName
      let (f, first) ← holding [ov] (getMethod ov "__init__" pl)
      callWith p4 f first (backTo p4 (starEach [.Constant (.str t) j p3] env)) []))
    (hh : (e.d.params.posonlyargs ++ e.d.params.args).head? = some ar) (ha : ar.arg = "self") (ks : e.d.scope.names.lookup ("super" : Str) = some .globalImplicit) (kc : e.d.scope.names.lookup ("__class__" : Str) = some .free) (hne : (fl == ("__debug__" : Str)) = false) (hne2 : (fl == ("__classdict__" : Str)) = false)
    (hbd : ∀ (cl : List (Str × Addr)) (kV doc pm cdv ct : Value) (an : Option Addr) (us : List Value), us.length = 2 → bindArgs (PySem.W.fnX e.d.name e.d.qual e.d.params e.d.body e.d.scope cl .none kV doc pm an cdv ct) ⟨us, []⟩ = pure ((["self", fl] : List Str).zip us)) :
    XMk P w K mg base e.x (He.ga K e.x) 1 fun ds => [(fl, ds.getD 0 .non), ("code", .str cn)] := by
  have e1 : e.d.dvs K = [] := by unfold He.DefD.dvs; rw [hd]; rfl
  have e2 : e.d.kws K = [] := by unfold He.DefD.kws; rw [hk]; rfl
  have F := h.fg
  rw [e1, e2] at F
  exact xmk_1 h.all.1 hg hc (xin_ok1 h.all.1 (h.all.2.2.2.2 fl hfl) ⟨h.all.2.2.1, hs⟩ F S hb ht hh ha ks kc hne hne2) hbd
theorem xmk0 (h : XOk P K e) (hs : mg "super" = none) (hg : mg e.x = some (.ref (He.ga K e.x))) (hd : e.d.dfl = []) (hk : e.d.kwd = []) (hc : okS cn) (S : SupScope ["self"] ["self"] e.d.scope)
    (hb : e.d.body = [.Expr (.Call (.Attribute (.Call (.Name "super" p0) [] [] p1) "__init__" p2) [.Constant (.str t) j p3] [] p4) p5, .Assign [.Attribute (.Name "self" p6) "code" p7] (.Constant (.str cn) j2 p8) p9])
    (ht : ∀ env : Env, ∃ pl : Sem Bool, eval (.Call (.Attribute (.Call (.Name "super" p0) [] [] p1) "__init__" p2) [.Constant (.str t) j p3] [] p4) env = (do
      let ov ← attributeBase (.Call (.Name "super" p0) [] [] p1) "__init__" env (eval (.Call (.Name "super" p0) [] [] p1) env)
      standAt p2.atName
      let (f, first) ← holding [ov] (getMethod ov "__init__" pl)
      callWith p4 f first (backTo p4 (starEach [.Constant (.str t) j p3] env)) []))
    (hh : (e.d.params.posonlyargs ++ e.d.params.args).head? = some ar) (ha : ar.arg = "self") (ks : e.d.scope.names.lookup ("super" : Str) = some .globalImplicit) (kc : e.d.scope.names.lookup ("__class__" : Str) = some .free)
    (hbd : ∀ (cl : List (Str × Addr)) (kV doc pm cdv ct : Value) (an : Option Addr) (us : List Value), us.length = 1 → bindArgs (PySem.W.fnX e.d.name e.d.qual e.d.params e.d.body e.d.scope cl .none kV doc pm an cdv ct) ⟨us, []⟩ = pure ((["self"] : List Str).zip us)) :
    XMk P w K mg base e.x (He.ga K e.x) 0 fun _ => [("code", .str cn)] := by
  have e1 : e.d.dvs K = [] := by unfold He.DefD.dvs; rw [hd]; rfl
  have e2 : e.d.kws K = [] := by unfold He.DefD.kws; rw [hk]; rfl
  have F := h.fg
  rw [e1, e2] at F
  exact xmk_0 h.all.1 hg hc (xin_ok0 h.all.1 ⟨h.all.2.2.1, hs⟩ F S hb ht hh ha ks kc) hbd
end
end VT

namespace VT
open PySem PySem.Spec PyProof.Rows L2

/-! ### len(o), repr(o), o == x by the class's own def; it raises nothing -/
structure SAlt (X : Cx) (m : Str) (k n : Nat) (C : Addr) (F : FXp) : Prop where
  ex : ∃ f d ps, PySem.W.findIn X.K (.ref C) m = some (some (.ref f)) ∧ PySem.W.isFn X.K (.ref f) = true ∧ FnX X.prog X.w X.K X.mg X.base d f k ps F ∧ ∀ fd cl, FG X.K d.name d.qual d.params d.body d.scope cl (d.dvs X.K) (d.kws X.K) f fd → KBi X.K fd ps n [] (List.range n) []
theorem RepV.spot {H0 Hs H : Hp} {G : Gh} {v : V} {sv : SV} {C : Addr} {fs : List (Str × FV)} (r : RepV H0 Hs G H v sv) (ok : OkG G H) (e : sv.ins? = some (C, fs)) : ∃ a dx ws, v = .ref a ∧ H a = some (.ins C dx ws) := by
  cases sv with
  | tr d =>
    cases d with
    | ins C' fs' =>
      cases e
      obtain ⟨a, dx, ws, e1, e2, _⟩ := r
      exact ⟨a, dx, ws, e1, ok.sub _ _ e2⟩
    | _ => cases e
  | obj q C' fs' => cases e; obtain ⟨a, dx, ws, e1, e2, _⟩ := r; exact ⟨a, dx, ws, e1, e2⟩
  | pob C' fs' => cases e; obtain ⟨a, dx, ws, e1, e2, _⟩ := r; exact ⟨a, dx, ws, e1, e2⟩
  | bob C' fs' => cases e; obtain ⟨a, dx, ws, e1, _, e2, _⟩ := r; exact ⟨a, dx, ws, e1, e2⟩
  | _ => cases e
theorem arr_range {α : Type} (l : List α) : arr (List.range l.length) l = l := by
  have key : ∀ n, n ≤ l.length → (List.range n).filterMap (fun i => l[i]?) = l.take n := by
    intro n
    induction n with
    | zero => intro _; rfl
    | succ n ih =>
      intro h
      rw [List.range_succ, List.filterMap_append, ih (by omega), List.take_succ]
      simp [List.getElem?_eq_getElem (show n < l.length by omega)]
  unfold arr
  rw [key _ (Nat.le_refl _), List.take_length]
section
variable {X : Cx} {EX : EXT} {pins : List (Addr × Obj)} {σ : L2.St} {H0 Hs H : Hp} {G : Gh} {s : Shared} {k n : Nat} {m : Str} {C : Addr} {F : FXp} {vs : List V} {us : List Value} {svs : List SV} {Qs : SV → Prop} {Q : VK} {alts : List (Addr × FXp)}
theorem run_sp {A' : Around} {f : Addr} {d : He.DefD} {ps : List Str} (hf : A'.frames = X.A.frames) (hr : Room k A') (Fn : FnX X.prog X.w X.K X.mg X.base d f k ps F) (hb : ∀ fd cl, FG X.K d.name d.qual d.params d.body d.scope cl (d.dvs X.K) (d.kws X.K) f fd → KBi X.K fd ps n [] (List.range n) [])
    (I : Inv X pins σ H s) (ok : OkG G H) (hT : G.T = TabsOf X.K) (rl : RepL H0 Hs G H vs svs) (hn : svs.length = n) (rv : Vals vs us) (hF : F (svs.map SV.arg) Qs (fun _ _ => False)) (kq : ∀ v H' G' sv, Ext G H G' H' → RepV H H G' H' v sv → sv.isRet → Qs sv → Q v H') {E : Value → Shared → Prop} :
    wpAny (model X.prog X.w) A' (call (.ref f) us) (EP X pins σ Q) E s := by
  obtain ⟨fd, cl, hg, hF2⟩ := Fn.ex
  obtain ⟨ds, rd, hto⟩ := (hb fd cl hg).to
  cases rd
  obtain ⟨a1, a2⟩ := rl.toArg
  have e0 : Env0 X.prog X.w X.K X.mg X.base A' X.stack s H := by
    have e := I.env0
    exact ⟨by rw [hf]; exact e.frames, e.mod, e.bs, e.bsz, e.funs, e.frf, e.hok, e.bare⟩
  have hul : us.length = n := by rw [← rv.length, rl.length, hn]
  have b := hto s us [] I.kIn hul rfl
  rw [show us ++ [] ++ [] = us by simp, ← hul, arr_range] at b
  refine wpAny_call (codeAny_mono (hF2.run A' X.stack s H ⟨us, []⟩ us vs Q (fun _ _ _ => False) hr e0 b rv ⟨G, _, Qs, fun _ _ => False, ⟨ok, hT⟩, a1, a2, hF, kq, fun _ _ _ ⟨_, _, _, _, _, _, _, _, _, _, z⟩ => z⟩) fun r s' hq => ?_)
  cases r with
  | error e => obtain ⟨_, _, _, _, _, _, _, _, _, _, _, _, z⟩ := hq; exact z.elim
  | ok fl =>
    cases fl with
    | ret u => exact I.after hq
    | next => exact False.elim hq
    | brk => exact False.elim hq
    | cont => exact False.elim hq
theorem inst_at (I : Inv X pins σ H s) {a dx : Addr} {ws : List (Str × V)} (ea : H a = some (.ins C dx ws)) : ∃ ox od, PySem.W.InstAt s.heap a ox C (some od) := by
  obtain ⟨mA, J, _⟩ := ins_get I.hok ea
  obtain ⟨od, J, _⟩ := J.look
  exact ⟨_, od, J⟩
/-- built-in functions by held values -/
def CallS (X : Cx) (f : Value) (g : List SV → (SV → Prop) → Prop) : Prop :=
  ∀ (H0 Hs : Hp) (G : Gh) (H : Hp) (vs : List V) (svs : List SV) (Qs : SV → Prop) (Q : VK), OkG G H → G.T = TabsOf X.K → RepL H0 Hs G H vs svs → g svs Qs → KQ H0 G H Qs Q → ∃ r, CallR X f r ∧ r vs H Q
@[simp] def gCS (g : List SV → (SV → Prop) → Prop) (ga : GA) : GE := fun S Q => ga S fun svs => g svs Q
theorem ve_callS {x : Str} {p pos : Pos} {e : Expr} {es : List Expr} {ga : GA} {id : String} {g : List SV → (SV → Prop) → Prop} (hc : CallS X (.builtin id) g) (hg : Gl X x) (hm : X.mg x = none) (hv : bootBuiltins x = some (.builtin id)) (ha : VA X EX (e :: es) ga) (hn : x ≠ "__name__" := by decide) (hdb : (x == ("__debug__" : Str)) = false := by decide)
    (he : starEach (e :: es) X.env = (false, eval e X.env) :: starEach es X.env := by rfl) (hpl : (backTo pos (starEach es X.env)).any (·.1) = false := by rfl) : VE X EX (.Call (.Name x p) (e :: es) [] pos) (gCS g ga) := by
  refine ⟨fun G0 H0 tk => peMono (pe_callB callr_any hg hm hv (ha.pa G0 H0 tk) hn hdb he hpl) fun σ H Q ⟨G, S, Qs, R, q, k⟩ => ?_⟩
  refine ⟨G, S, _, R, q, fun vs H1 G1 svs E1 r1 q1 => ?_⟩
  exact hc H0 _ G1 H1 vs svs Qs Q E1.ok (tk.tt R E1) r1 q1 (kq_back E1 k)
theorem callr_at {f : Value} {vs : List V} {H : Hp} {Q : VK} (h : ∀ pins s σ us, Inv X pins σ H s → Vals vs us → wpAny (model X.prog X.w) X.A (call f us) (EP X pins σ Q) X.xe s) : ∃ r, CallR X f r ∧ r vs H Q :=
  ⟨fun vs' H' Q' => vs' = vs ∧ H' = H ∧ Q' = Q, fun pins s σ H' xs us Q' I rv ⟨e1, e2, e3⟩ => by subst e1 e2 e3; exact h pins s σ us I rv, rfl, rfl, rfl⟩
def gLenA (alts : List (Addr × FXp)) : List SV → (SV → Prop) → Prop
  | [so], Q => match so.ins? with
    | some (C, _) => ∃ F, (C, F) ∈ alts ∧ F [so.arg] (fun sv => ∃ n : Nat, sv = .tr (.int n) ∧ n < 2 ^ 62 ∧ Q (.tr (.int n))) fun _ _ => False
    | none => gLen [so.d] Q
  | _, _ => False
theorem cs_len (hal : ∀ C F, (C, F) ∈ alts → SAlt X "__len__" k 1 C F) (hr : Room (k + 1) X.A) : CallS X (.builtin "len") (gLenA alts) := by
  intro H0 Hs G H vs svs Qs Q ok hT r q kq
  unfold gLenA at q
  split at q
  · rename_i so
    cases h : so.ins? with
    | none =>
      rw [h] at q
      exact cw_len H0 Hs G H vs [so] Qs Q ok r q kq
    | some cf =>
      obtain ⟨C, fs⟩ := cf
      rw [h] at q
      obtain ⟨F, hA, hF⟩ := q
      obtain ⟨f, d, ps, h1, h2, Fn, hb⟩ := (hal C F hA).ex
      have r0 := r
      cases r with
      | cons rv rr _ =>
        cases rr
        obtain ⟨a, dx, ws, rfl, ea⟩ := rv.spot ok h
        refine callr_at fun pins s σ us I ru => ?_
        obtain ⟨m, hfr⟩ := I.fr
        obtain ⟨ox, od, J⟩ := inst_at I ea
        cases ru with
        | cons r1 r2 =>
          cases r2
          obtain rfl := (show _ = Value.ref a from r1)
          refine PySem.W.len_K hfr I.ok.mod.kin J h1 h2 (wpAny_mono (run_sp (A' := X.A.in1) (Q := fun v H' => ∃ n : Nat, v = .int n ∧ n < 2 ^ 62 ∧ Q (.int n) H') rfl (hr.in1) Fn hb I ok hT r0 rfl (.cons rfl .nil) hF (fun v H' G' sv E' r' ir ⟨n, e, hn, q'⟩ => ?_)) (fun u s' hu => ?_) fun _ _ z => z)
          · subst e
            have e2 : v = .int n := r'
            subst e2
            exact ⟨n, rfl, hn, kq (.int n) H' G' (.tr (.int n)) E' rfl q'⟩
          · obtain ⟨v, H', I', ru', n, rfl, hn, q'⟩ := hu
            obtain ⟨t, rfl⟩ := (show ∃ t, u = Value.int n t from ru')
            refine ⟨⟨by omega, by omega⟩, .int n, H', I'.tok _, ⟨_, rfl⟩, q'⟩
  · exact q.elim
def gReprA (alts : List (Addr × FXp)) : List SV → (SV → Prop) → Prop
  | [so], Q => ∃ C fs F, so.ins? = some (C, fs) ∧ (C, F) ∈ alts ∧ F [so.arg] (fun sv => ∃ z, sv = .tr (.str z) ∧ Q (.tr (.str z))) fun _ _ => False
  | _, _ => False
theorem cs_repr (hal : ∀ C F, (C, F) ∈ alts → SAlt X "__repr__" k 1 C F) (hr : Room (k + 1) X.A) : CallS X (.builtin "repr") (gReprA alts) := by
  intro H0 Hs G H vs svs Qs Q ok hT r q kq
  unfold gReprA at q
  split at q
  · rename_i so
    obtain ⟨C, fs, F, h, hA, hF⟩ := q
    obtain ⟨f, d, ps, h1, h2, Fn, hb⟩ := (hal C F hA).ex
    have r0 := r
    cases r with
    | cons rv rr _ =>
      cases rr
      obtain ⟨a, dx, ws, rfl, ea⟩ := rv.spot ok h
      refine callr_at fun pins s σ us I ru => ?_
      obtain ⟨m, hfr⟩ := I.fr
      obtain ⟨ox, od, J⟩ := inst_at I ea
      cases ru with
      | cons r1 r2 =>
        cases r2
        obtain rfl := (show _ = Value.ref a from r1)
        refine PySem.W.repr_K (hr.in1).units0 hfr I.ok.mod.kin J h1 h2 (wpAny_mono (run_sp (A' := X.A.in1) (Q := fun v H' => ∃ z : Str, v = .str z ∧ Q (.str z) H') rfl (hr.in1) Fn hb I ok hT r0 rfl (.cons rfl .nil) hF (fun v H' G' sv E' r' ir ⟨z, e, q'⟩ => ?_)) (fun u s' hu => ?_) fun _ _ z => z)
        · subst e
          obtain ⟨e1, e2⟩ := r'
          subst e1
          exact ⟨z, rfl, kq (.str z) H' G' (.tr (.str z)) E' ⟨rfl, e2⟩ q'⟩
        · obtain ⟨v, H', I', ru', z, rfl, q'⟩ := hu
          obtain ⟨t, rfl⟩ := (show ∃ t, u = Value.str z t from ru')
          exact ⟨.str z, H', I', ⟨t, rfl⟩, q'⟩
  · exact q.elim
end
end VT

namespace VT
open PySem PySem.Spec PyProof.Rows L2

/-! ### a part of a text by its path -/
def exSubs : Expr → List Expr
  | .Call f args kws _ => f :: args ++ kws.map (·.value)
  | .List es _ => es
  | .Tuple es _ _ => es
  | .UnaryOp _ e _ => [e]
  | .BoolOp _ es _ => es
  | .Compare l _ rs _ => l :: rs
  | .IfExp c a b _ => [c, a, b]
  | .Subscript v s _ => [v, s]
  | .Attribute e _ _ => [e]
  | .BinOp a _ b _ => [a, b]
  | .Lambda _ b _ _ => [b]
  | _ => []
def stSubs : Stmt → List Expr
  | .Assign ts v _ => v :: ts
  | .Expr e _ => [e]
  | .Return (some e) _ => [e]
  | .If t _ _ _ => [t]
  | .For _ i _ _ _ => [i]
  | .While t _ _ _ => [t]
  | .AugAssign _ _ v _ => [v]
  | _ => []
def stSuites : Stmt → List (List Stmt)
  | .If _ b o _ => [b, o]
  | .For _ _ b o _ => [b, o]
  | .While _ b o _ => [b, o]
  | .Try b _ o f _ => [b, o, f]
  | _ => []
def noE : Expr := .Constant .none 0 ⟨0, 0, 0, 0⟩
def noS : Stmt := .Pass ⟨0, 0, 0, 0⟩
def exAt (e : Expr) : List Nat → Expr
  | [] => e
  | i :: r => exAt ((exSubs e).getD i noE) r
/-- the i-th statement of a suite; then pairs: which suite, which statement -/
def stAt (b : List Stmt) (i : Nat) : List (Nat × Nat) → Stmt
  | [] => b.getD i noS
  | (j, k) :: r => stAt ((stSuites (b.getD i noS)).getD j []) k r
def lamPar : Expr → Arguments
  | .Lambda a _ _ _ => a
  | _ => ⟨[], [], none, [], [], none, []⟩
def lamBod : Expr → Expr
  | .Lambda _ b _ _ => b
  | _ => noE
def lamScp (d : Scope) : Expr → Scope
  | .Lambda _ _ s _ => s
  | _ => d
/-! ### o == x by the class's own def -/
theorem looks_at {M : Model} {h : Heap} {a : Addr} {o : Obj} (ha : h.get? a = some o) : PySem.W.Looks M h (typeOf (.ref a)) o.cls := fun A Q E s k q => wpAny_typeOf_ref (k _ _ ha) q
section
variable {X : Cx} {EX : EXT} {pins : List (Addr × Obj)} {σ : L2.St} {H0 Hs H : Hp} {G : Gh} {s : Shared} {k : Nat} {v : V} {u : Value} {sv : SV} {alts : List (Addr × FXp)}
/-- a held value's type -/
theorem typ_look (I : Inv X pins σ H s) (ok : OkG G H) (r : RepV H0 Hs G H v sv) (ru : RelV v u) : (∀ n, sv.d.kind = some n → PySem.W.Looks (model X.prog X.w) s.heap (typeOf u) (.type n)) ∧ ∀ C fs, sv.ins? = some (C, fs) → PySem.W.Looks (model X.prog X.w) s.heap (typeOf u) (.ref C) := by
  refine ⟨fun n hn => ?_, fun C fs h => ?_⟩
  · have ht := fun {K} => r.ty (K := K) ok hn
    cases hd : sv.d with
    | non => rw [hd] at hn; cases hn; cases r.non hd; obtain rfl := (show u = Value.none from ru); exact .now
    | bl b => rw [hd] at hn; cases hn; cases r.bl hd; obtain rfl := (show u = Value.bool b from ru); exact .now
    | int b => rw [hd] at hn; cases hn; cases r.int hd; obtain ⟨t, rfl⟩ := (show ∃ t, u = Value.int b t from ru); exact .now
    | str b => rw [hd] at hn; cases hn; cases (r.str hd).1; obtain ⟨t, rfl⟩ := (show ∃ t, u = Value.str b t from ru); exact .now
    | lst b =>
      rw [hd] at hn; cases hn
      obtain ⟨a, vs, rfl, ea, _⟩ := r.lst ok hd
      obtain rfl := (show u = Value.ref a from ru)
      obtain ⟨_, its, n, _, e⟩ := I.hok a _ ea
      exact looks_at e
    | tup b =>
      rw [hd] at hn; cases hn
      obtain ⟨a, vs, rfl, ea, _⟩ := r.tup ok hd
      obtain rfl := (show u = Value.ref a from ru)
      obtain ⟨_, its, _, o, e, c, _⟩ := ea.ok I.hok
      have := looks_at (M := model X.prog X.w) e
      rw [c] at this
      exact this
    | dic b =>
      rw [hd] at hn; cases hn
      obtain ⟨a, vs, rfl, ea, _⟩ := r.dic ok hd
      obtain rfl := (show u = Value.ref a from ru)
      obtain ⟨_, _, vs, _, o, es, ep, e, c, _⟩ := I.hok a _ ea
      have := looks_at (M := model X.prog X.w) e
      rw [c.1] at this
      exact this
    | dit b =>
      rw [hd] at hn; cases hn
      obtain ⟨a, vs, rfl, ea, _⟩ := r.dit ok hd
      obtain rfl := (show u = Value.ref a from ru)
      obtain ⟨_, _, xs, _, o, es, ep, e, c, _⟩ := I.hok a _ ea
      have := looks_at (M := model X.prog X.w) e
      rw [c.1] at this
      exact this
    | ins _ _ | exn _ _ | fn _ _ => rw [hd] at hn; cases hn
    | opq => rw [hd] at hn; cases hn
  · obtain ⟨a, dx, ws, rfl, ea⟩ := r.spot ok h
    obtain rfl := (show u = Value.ref a from ru)
    obtain ⟨ox, od, J⟩ := inst_at I ea
    exact J.type
/-- what o == x asks of the class at C: no built-in kind, no other class comes first -/
structure EqC (K : PySem.W.Frag) (C : Addr) : Prop where
  kind : ∀ n ∈ ["NoneType", "bool", "int", "str", "list", "tuple", "dict"], PySem.W.notFirst K C (.type n) = true
def eqcB (x : Str) (K : PySem.W.Frag) : Bool := ["NoneType", "bool", "int", "str", "list", "tuple", "dict"].all fun n => PySem.W.notFirst K (He.ga K x) (.type n)
theorem eqcB_ok {x : Str} {K : PySem.W.Frag} (h : eqcB x K = true) : EqC K (He.ga K x) := ⟨fun n hn => List.all_eq_true.mp h n hn⟩
theorem kind_mem {d : D} {n : String} (h : d.kind = some n) : n ∈ ["NoneType", "bool", "int", "str", "list", "tuple", "dict"] := by
  cases d <;> simp [D.kind] at h <;> subst h <;> decide
def gEqA (alts : List (Addr × FXp)) (x y : SV) (Q : SV → Prop) : Prop := match x.ins? with
  | some (C, _) => ∃ F, (C, F) ∈ alts ∧ (y.d.kind.isSome = true ∨ ∃ fs, y.ins? = some (C, fs)) ∧ F [x.arg, y.arg] (fun sv => ∃ b, sv = .tr (.bl b) ∧ Q (.tr (.bl b))) fun _ _ => False
  | none => gEq false x.d y.d Q
@[simp] theorem gEqA_eq (alts : List (Addr × FXp)) (x y : SV) (Q : SV → Prop) : gEqA alts x y Q = match x.ins? with
  | some (C, _) => ∃ F, (C, F) ∈ alts ∧ (y.d.kind.isSome = true ∨ ∃ fs, y.ins? = some (C, fs)) ∧ F [x.arg, y.arg] (fun sv => ∃ b, sv = .tr (.bl b) ∧ Q (.tr (.bl b))) fun _ _ => False
  | none => gEq false x.d y.d Q := rfl
theorem opr_eqA (hal : ∀ C F, (C, F) ∈ alts → SAlt X "__eq__" k 2 C F ∧ EqC X.K C) (hr : Room k X.A) {Ha Hb : Hp} {x y : V} {sx sy : SV} {Qs : SV → Prop} {Q : VK} (ok : OkG G H) (hT : G.T = TabsOf X.K) (rx : RepV H0 Ha G H x sx) (ry : RepV H0 Hb G H y sy) (q : gEqA alts sx sy Qs) (kq : KQ H0 G H Qs Q) :
    ∃ r, OpR X (compareOp .Eq) r ∧ r x y H Q := by
  unfold gEqA at q
  cases h : sx.ins? with
  | none =>
    rw [h] at q
    exact ow_eq hr.units H0 Ha Hb G H x y sx sy Qs Q ok rx ry q kq
  | some cf =>
    obtain ⟨C, fs⟩ := cf
    rw [h] at q
    obtain ⟨F, hA, hy, hF⟩ := q
    obtain ⟨⟨f, d, ps, h1, h2, Fn, hb⟩, hk⟩ := hal C F hA
    refine ⟨fun x' y' H' Q' => x' = x ∧ y' = y ∧ H' = H ∧ Q' = Q, fun pins s σ H' x' y' v u Q' I r1 r2 ⟨e1, e2, e3, e4⟩ => ?_, rfl, rfl, rfl, rfl⟩
    subst e1 e2 e3 e4
    obtain ⟨a, dx, ws, ev, ea⟩ := rx.spot ok h
    subst ev
    obtain rfl := (show v = Value.ref a from r1)
    obtain ⟨m, hfr⟩ := I.fr
    obtain ⟨ox, od, J⟩ := inst_at I ea
    obtain ⟨t1, t2⟩ := typ_look I ok ry r2
    have ty : ∃ tb, PySem.W.Looks (model X.prog X.w) s.heap (typeOf u) tb ∧ PySem.W.notFirst X.K C tb = true := by
      rcases hy with hy | ⟨fs2, hy⟩
      · obtain ⟨n, hn⟩ := Option.isSome_iff_exists.mp hy
        exact ⟨_, t1 n hn, hk.kind n (kind_mem hn)⟩
      · exact ⟨_, t2 _ _ hy, by simp [PySem.W.notFirst]⟩
    obtain ⟨tb, hb1, hb2⟩ := ty
    obtain ⟨c1, c2⟩ := rx.toArg
    obtain ⟨d1, d2⟩ := ry.toArg
    have rl : RepL H' H' G H' [.ref a, y'] [sx.arg, sy.arg] := .cons c1 (.cons d1 .nil fun b o => (d2.none o).elim) fun b o => (c2.none o).elim
    have aa : ∀ sv : SV, sv.isArg → sv.arg = sv := fun sv h => by cases sv <;> first | rfl | exact h.elim
    have hF' : F ([sx.arg, sy.arg].map SV.arg) (fun sv => ∃ b, sv = .tr (.bl b) ∧ Qs (.tr (.bl b))) fun _ _ => False := by
      rw [List.map_cons, List.map_cons, List.map_nil, aa _ c2, aa _ d2]
      exact hF
    refine PySem.W.cmp_K (op := .Eq) (tb := tb) hr.units0 hfr I.ok.mod.kin J hb1 hb2 h1 h2 (wpAny_mono (run_sp (A' := X.A) (Q := fun v H' => ∃ b, v = .bl b ∧ Q' (.bl b) H') rfl hr Fn hb I ok hT rl rfl (.cons rfl (.cons r2 .nil)) hF' (fun v H' G' sv E' r' ir ⟨b, e, q'⟩ => ?_)) (fun w s' hu => ?_) fun _ _ z => z)
    · subst e
      have e2 : v = .bl b := r'
      subst e2
      exact ⟨b, rfl, kq (.bl b) H' G' (.tr (.bl b)) E' rfl q'⟩
    · obtain ⟨v, H', I', ru', b, rfl, q'⟩ := hu
      obtain rfl := (show w = Value.bool b from ru')
      exact ⟨.bl b, H', I', rfl, q'⟩
theorem salt1 {P : Addr → FXp → Prop} {C : Addr} {F : FXp} (h : P C F) : ∀ C' F', (C', F') ∈ [(C, F)] → P C' F' := fun C' F' hx => by
  cases List.mem_singleton.mp hx
  exact h
theorem salt2 {P : Addr → FXp → Prop} {C D : Addr} {F G : FXp} (h : P C F) (h2 : P D G) : ∀ C' F', (C', F') ∈ [(C, F), (D, G)] → P C' F' := fun C' F' hx => by
  rcases List.mem_cons.mp hx with e | hx
  · cases e
    exact h
  · exact salt1 h2 C' F' hx
def specB (x m : Str) (K : PySem.W.Frag) : Bool := decide (PySem.W.findIn K (.ref (He.ga K x)) m = some (some (.ref (He.ma K (He.ga K x) m)))) && PySem.W.isFn K (.ref (He.ma K (He.ga K x) m))
theorem specB_ok {x m : Str} {K : PySem.W.Frag} (h : specB x m K = true) : PySem.W.findIn K (.ref (He.ga K x)) m = some (some (.ref (He.ma K (He.ga K x) m))) ∧ PySem.W.isFn K (.ref (He.ma K (He.ga K x) m)) = true := by
  unfold specB at h
  rw [Bool.and_eq_true] at h
  exact ⟨of_decide_eq_true h.1, h.2⟩
def exB (x : Str) (K : PySem.W.Frag) : Bool := decide (PySem.W.exmAny K (.ref (He.ga K x)) [.ref (He.ga K "HeardError"), .ref (He.ga K "Missing"), .ref (He.ga K "NothingLeft")] = some true)
theorem hotR {k : Nat} {A : Around} (hr : Room k A) {o : Option Value} : L2H.RoomH k (A.mark o) := ⟨hr.dp, hr.un⟩
theorem hotU {k : Nat} {A : Around} (hr : L2H.RoomH k A) : A.units + 64 < cLine := by have := hr.un; omega
theorem hotV {k : Nat} {A : Around} (hr : L2H.RoomH k A) : A.units + 65 < cLine := by have := hr.un; omega
@[simp] def gOpS (g : SV → SV → (SV → Prop) → Prop) (ga gb : GE) : GE := fun S Q => ga S fun x => gb S fun y => g x y Q
theorem ve_eqA {a b : Expr} {ga gb : GE} {pos : Pos} (hal : ∀ C F, (C, F) ∈ alts → SAlt X "__eq__" k 2 C F ∧ EqC X.K C) (hr : Room k X.A) (ha : VE X EX a ga) (hb : VE X EX b gb) (hm : behindInMarks CmpOp.Eq b = false := by first | exact nobehind _ (by decide) (by decide) | rfl) : VE X EX (.Compare a [.Eq] [b] pos) (gOpS (gEqA alts) ga gb) := by
  refine ⟨fun G0 H0 tk => peMono (pe_cmpR opr_any (ha.pe G0 H0 tk) (hb.pe G0 H0 tk) hm) fun σ H Q ⟨G, S, Qs, R, q, k⟩ => ?_⟩
  refine ⟨G, S, _, R, q, fun x H1 G1 sx E1 r1 q1 => ?_⟩
  refine ⟨G1, S, _, R.go E1, q1, fun y H2 G2 sy E2 r2 q2 => ?_⟩
  exact opr_eqA hal hr E2.ok (tk.tt R (E1.trans E2)) (r1.ext E2) r2 q2 (kq_back (E1.trans E2) k)
end
end VT

/-! enumerate over a tuple -/
namespace PySem
open Sem (wp)
theorem meets_enumerate_newB1 {v : Value} {o : Obj} {H : Heap → Prop} (B : Begins v o H) :
    Meets (Builtin.«enumerate.__new__» ⟨[.type "enumerate", v], []⟩) (fun _ R s => H s.heap ∧
      R (.ok (.ret (.ref (s.heap.push o).objs.size))) { s with heap := (s.heap.push o).push { cls := .type "enumerate", data := .fields #[.none, .bool false, .ref s.heap.objs.size, rawInt 0, .none, .none] } }) :=
  .of_wp fun prog w A R s h => by
    obtain ⟨hp, g, d, tk, os⟩ := s; obtain ⟨h1, h⟩ := h
    have hsub := sub_enumerate
    have q1 : ∀ {A' : Around} {E : Value → Shared → Prop} {Q : Value → Shared → Prop}, Q (.ref hp.objs.size) ⟨hp.push o, g, d, tk, os⟩ → wpAny (model prog w) A' (pyIter v) Q E ⟨hp, g, d, tk, os⟩ :=
      fun q => B.iter prog w _ _ ⟨hp, g, d, tk, os⟩ _ h1 q
    wp_walk using q1
    refine wpAny_stack_any fun st => wpAny_pure ?_
    split
    · rename_i c _ _ _ _ _
      cases (c == Value.type "enumerate")
      · wp_walk using q1
        exact ⟨_, rfl, h⟩
      · wp_walk using q1
        exact ⟨_, rfl, h⟩
    · wp_walk using q1
      exact ⟨_, rfl, h⟩
section
variable {prog : Program} {w : World} {A : Around} {E : Value → Shared → Prop} {s : Shared}
theorem enum_begins1 {v : Value} {o : Obj} {H : Heap → Prop} {Q : Value → Shared → Prop} (B : Begins v o H) (h1 : H s.heap)
    (h : ∀ h', IsEnum h' (s.heap.objs.size + 1) s.heap.objs.size 0 .none → h'.get? s.heap.objs.size = some o → h'.objs.size = s.heap.objs.size + 2 →
      (∀ b o, s.heap.get? b = some o → h'.get? b = some o) → Q (.ref (s.heap.objs.size + 1)) { s with heap := h' }) :
    wpAny (model prog w) A (call (.type "enumerate") [v]) Q E s := by
  refine callType_new F.called_enumerate (by decide) (F.typeCall_enumerate_1 _) (F.newCall_enumerate_1 _) (fun obj => F.args_object_init_2 obj _) F.entry_enumerate_new
    (meets_enumerate_newB1 B) ⟨h1, ?_⟩
  have hz : (s.heap.push o).objs.size = s.heap.objs.size + 1 := Heap.size_push ..
  show _ ∧ _
  rw [hz]
  have he : IsEnum ((s.heap.push o).push { cls := .type "enumerate", data := .fields #[.none, .bool false, .ref s.heap.objs.size, rawInt 0, .none, .none] }) (s.heap.objs.size + 1) s.heap.objs.size 0 .none := by
    have := Heap.get?_push_size (s.heap.push o) (o := { cls := .type "enumerate", data := .fields #[.none, .bool false, .ref s.heap.objs.size, rawInt 0, .none, .none] }) rfl
    rw [hz] at this; exact this
  refine ⟨⟨_, he, rfl⟩, h _ he (Heap.get?_push_of_some _ (Heap.get?_push_size _ B.free)) (by rw [Heap.size_push, hz]) fun b o x => Heap.get?_push_of_some _ (Heap.get?_push_of_some _ x)⟩
theorem enumT_end {e it l : Addr} {i : Nat} {items : Array Value} {old : Value} {Q : Option Value → Shared → Prop} (hh : A.handled = none)
    (he : IsEnum s.heap e it i old) (hit : s.heap.IsTupleIter it l i) (hl : s.heap.IsTuple l items) (hx : items[i]? = none)
    (hQ : ∀ h', Heap.ExtBut it s.heap h' → Q none { s with heap := h' }) : wpAny (model prog w) A (pyNext (.ref e)) Q E s := by
  have hT : s.TypeIs (.ref e) "enumerate" := ⟨_, he, rfl⟩
  unfold pyNext
  refine wpAny_bind (wpAny_attempt (wpAny_callSpecial?_slot (name := Str.ofString "__next__") hT F.slot_enumerate_next
    (wpAny_call_entry F.slot_enumerate_next hT F.entry_enumerate_next ?_ (F.args_enumerate_next_1 _))))
  show wpAny _ _ (field (.ref e) 2 >>= _) _ _ _
  refine wpAny_bind (wpAny_field he rfl (x := .ref it) rfl ?_)
  refine wpAny_bind (wpAny_nextOf_tuple_end hh hit hl hx fun h' x he' hx' => ?_)
  obtain ⟨o, ho, hc⟩ := hx'
  refine wpAny_bind (wpAny_isInstance (T := "StopIteration") (b := true) ⟨o, ho, hc⟩ isSubtype_stop ?_)
  exact wpAny_pure (hQ _ he')
end
end PySem
namespace VT
open PySem PySem.Spec PyProof.Rows L2
/-- the tuple at a at each turn, each item in a new pair -/
def IteT (K : PySem.W.Frag) (a : Addr) : It :=
  ⟨fun i H => ∃ (xs : List V) (x : V), SqT K H a xs ∧ xs[i]? = some x, fun i H v H' => ∃ T x, v = .ref T ∧ H T = none ∧ H' = upd H T (.tup [.int (i : Nat), x]) ∧ ∀ xs, SqT K H a xs → xs[i]? = some x, fun i H => ∃ xs : List V, SqT K H a xs ∧ xs.length ≤ i⟩
theorem turn_enumT {P : Program} {w : World} {K : PySem.W.Frag} {elts : List Expr} {kk : Nat} {tpos : Pos} (a e it : Addr) :
    Turn P w K (.Tuple elts kk tpos) (IteT K a) [e, it] e (fun i h => (∃ old, IsEnum h e it ((i : Nat) : Int) old) ∧ h.IsTupleIter it a i ∧ e ≠ it ∧ a ≠ it) where
  mem := by simp
  obj := fun i h st b hb => by
    obtain ⟨⟨old, he⟩, ⟨o, ho, hc, hd⟩, _⟩ := st
    have e' : b = e ∨ b = it := by simpa using hb
    rcases e' with z | z
    · rw [z]; exact ⟨_, he, fun v q => nomatch q⟩
    · rw [z]; exact ⟨o, ho, fun v q => by rw [hd] at q; cases q⟩
  keep := fun i h h' st k => let ⟨⟨old, he⟩, hi, hne⟩ := st; ⟨⟨old, k e (by simp) _ he⟩, hi.at fun o q => k it (by simp) o q, hne⟩
  item := by
    intro X hP hw hK hc i pins s σ H E I hf st hg
    subst hP hw hK
    obtain ⟨⟨old, he⟩, hit, hne, hna⟩ := st
    obtain ⟨xs, x, hq, hx⟩ := hg
    obtain ⟨its, rv, p, hz⟩ := I.tuple hq
    obtain ⟨u, hu, ru⟩ := rv.get hx
    have hel : e < s.heap.objs.size := Heap.lt_size he
    have hil : it < s.heap.objs.size := by obtain ⟨_, q, _⟩ := hit; exact Heap.lt_size q
    have pt : s.heap.IsTuple a its.toArray := p
    have hii : i < its.toArray.size := by
      have := (List.getElem?_eq_some_iff.mp hu).1
      simpa using this
    have D := Draws.tuple (prog := X.prog) (w := X.w) (A := X.A.in1) (show X.A.in1.handled = none from I.ok.hd hc) it a hna its.toArray
    have hef : e ∉ [it, a] := by
      intro h
      rcases List.mem_cons.mp h with h | h
      · exact hne h
      · have hea := List.mem_singleton.mp h
        subst hea
        obtain ⟨o', ho', hc', _⟩ := pt
        have he' : s.heap.get? e = _ := he
        rw [ho'] at he'
        cases he'
        injection hc' with h
        exact absurd h (by decide)
    refine wpAny_pyNext_enum_itemD D he ⟨hit, pt⟩ hii hne hef fun x' h' tk hP ho hit' hT hsz hk => ?_
    have hx' : x' = u := by
      have h1 : its.toArray[i]? = some u := by simpa using hu
      exact Option.some.inj (hP.symm.trans h1)
    subst hx'
    refine ⟨_, rfl, wpAny_letOwnedTupleGo_enum (s := { s with heap := h', toks := tk + 1 }) ho fun h'' he' sb => ?_⟩
    have hT2 : h''.get? s.heap.objs.size = some { cls := .type "tuple", data := .seq #[.int i tk, x'] } := (sb.2 _ (Nat.ne_of_gt hel)).trans hT
    have new : ObjOk X.prog X.w (upd H s.heap.objs.size (.tup [.int (i : Nat), x])) h'' s.heap.objs.size (.tup [.int (i : Nat), x]) :=
      ⟨by show 2 ≤ sizeLine; decide, [.int i tk, x'], .cons ⟨_, rfl⟩ (.cons ru .nil), ⟨_, hT2, rfl, _, rfl⟩⟩
    have I1 : Inv X pins σ (upd H s.heap.objs.size (.tup [.int (i : Nat), x])) { s with heap := h'', toks := tk + 1 } :=
      I.turnedNew (ch := [e, it]) (fun b ob hb q => (sb.2 b (fun z => hb (by simp [z]))).trans (hk b ob (fun z => hb (by simp [z])) (fun z => hb (by simp [z])) q)) hf (Nat.le_refl _) new
    refine ⟨.ref s.heap.objs.size, _, I1, rfl, ⟨_, x, rfl, I.hok.fresh (Nat.le_refl _), rfl, fun ys hy => by rw [I.tuple_inj hy hq]; exact hx⟩, ⟨⟨x', ?_⟩, hit'.1.at fun o q => (sb.2 it (Ne.symm hne)).trans q, hne, hna⟩, fun b hb => ?_⟩
    · have e1 : ((i + 1 : Nat) : Int) = (i : Int) + 1 := by omega
      rw [e1]; exact he'
    · have hb' : b < s.heap.objs.size := by
        have e' : b = e ∨ b = it := by simpa using hb
        rcases e' with z | z
        · rw [z]; exact hel
        · rw [z]; exact hil
      rw [upd_ne (Nat.ne_of_lt hb')]
      exact (hf b hb).1
  done := by
    intro X hP hw hK hc i pins s σ H E I hf st hg
    subst hP hw hK
    obtain ⟨⟨old, he⟩, hit, hne, hna⟩ := st
    obtain ⟨xs, hq, hx⟩ := hg
    obtain ⟨its, rv, p, hz⟩ := I.tuple hq
    obtain ⟨f0, f1, f2, f3, f4, f5⟩ := hf it (by simp)
    have hl := rv.length
    exact enumT_end (I.ok.hd hc) he hit p (by simp; omega) fun h' eb => ⟨rfl, I.turned (t' := s.toks) (fun b o hb q => eb b o hb q) f0 f1 f3 f4 f5⟩
  self := fun A i s Q E st h => let ⟨⟨_, he⟩, _⟩ := st; wpAny_pyIter_enum he h
def iEnumA (K : PySem.W.Frag) (ta : TA) : TI := fun σ H R => ta σ H fun vs H1 => ∃ a xs, vs = [.ref a] ∧ ((SqL K H1 a xs ∧ R (Ite K a) H1) ∨ (SqT K H1 a xs ∧ R (IteT K a) H1))
theorem pi_enumA {X : Cx} {e : Expr} {ta : TA} {p pos tpos : Pos} {elts : List Expr} {kk : Nat} (hg : Gl X "enumerate") (hm : X.mg "enumerate" = none) (ha : PA X [e] ta) (hs : starEach [e] X.env = [(false, eval e X.env)] := by rfl) :
    PI X (.Tuple elts kk tpos) (.Call (.Name "enumerate" p) [e] [] pos) (iEnumA X.K ta) := by
  refine ⟨fun pins s σ H R I h => ?_⟩
  refine Call_ (ld_blt I hg hm boot_enumerate (PyProof.Rows.callWith_type1 (thn (ha.run pos pins s σ H _ I h) fun us s1 ⟨vs, H1, I1, r1, q1⟩ => ?_) hs rfl))
  obtain ⟨a, xs, ex, q1⟩ := q1
  subst ex
  cases r1 with
  | cons r rr =>
    cases rr
    cases r
    have fresh2 : ∀ b, b ∈ [s1.heap.objs.size + 1, s1.heap.objs.size] → FpOk X pins H1 b := fun b hb => by
      have e' : b = s1.heap.objs.size + 1 ∨ b = s1.heap.objs.size := by simpa using hb
      have hle : s1.heap.objs.size ≤ b := by
        rcases e' with z | z
        · rw [z]; exact Nat.le_add_right _ _
        · rw [z]; exact Nat.le_refl _
      exact I1.fpOk hle (I1.hok.fresh hle)
    rcases q1 with ⟨hq, q⟩ | ⟨hq, q⟩
    · obtain ⟨its, rv, p', hz⟩ := I1.list hq
      refine call_enumerate_list p'.isList fun h' he hit hsz hk => wpAny_pyIter_enum he ?_
      have I2 : Inv X pins σ H1 { s1 with heap := h' } := I1.kept (t' := s1.toks) hk
      exact ⟨s1.heap.objs.size + 1, [s1.heap.objs.size + 1, s1.heap.objs.size], _, _, H1, rfl, I2, turn_enum a (s1.heap.objs.size + 1) s1.heap.objs.size, ⟨⟨.none, he⟩, hit, Nat.succ_ne_self _⟩, fresh2, q⟩
    · obtain ⟨its, rv, p', hz⟩ := I1.tuple hq
      have pt : s1.heap.IsTuple a its.toArray := p'
      have hal : a < s1.heap.objs.size := by obtain ⟨_, y, _⟩ := pt; exact Heap.lt_size y
      refine enum_begins1 (begins_tuple a its.toArray) pt fun h' he hit hsz hk => wpAny_pyIter_enum he ?_
      have I2 : Inv X pins σ H1 { s1 with heap := h' } := I1.kept (t' := s1.toks) hk
      exact ⟨s1.heap.objs.size + 1, [s1.heap.objs.size + 1, s1.heap.objs.size], _, _, H1, rfl, I2, turn_enumT a (s1.heap.objs.size + 1) s1.heap.objs.size, ⟨⟨.none, he⟩, ⟨_, hit, rfl, rfl⟩, Nat.succ_ne_self _, Nat.ne_of_lt hal⟩, fresh2, q⟩
@[simp] theorem kind_fn (f : Addr) (b : LamB) : D.kind (.fn f b) = none := rfl
@[simp] theorem isNon_fn (f : Addr) (b : LamB) : D.isNon (.fn f b) = false := rfl
@[simp] theorem tru_fn (f : Addr) (b : LamB) : D.tru (.fn f b) = none := rfl
@[simp] theorem items_fn (f : Addr) (b : LamB) : D.items (.fn f b) = none := rfl
@[simp] theorem dat_fn (f : Addr) (b : LamB) : D.dat (.fn f b) = false := rfl
@[simp] theorem isT_fn (f : Addr) (b : LamB) (t : Ty) : D.isT (.fn f b) t = false := by cases t <;> rfl
/-- enumerate(xs), xs a list or a tuple -/
def giEnumA (c : Bool) (ga : GA) : GI := fun S Q => ga S fun svs => ∃ sv ds, svs = [sv] ∧ ((sv.stays c ∧ sv.d = .lst ds) ∨ sv.d = .tup ds) ∧ Q (enumD ds)
def enumA (c : Bool) (Q : List D → Prop) : List SV → Prop := fun svs => ∃ sv ds, svs = [sv] ∧ ((sv.stays c ∧ sv.d = .lst ds) ∨ sv.d = .tup ds) ∧ Q (enumD ds)
@[simp] theorem giEnumA_eq (c : Bool) (ga : GA) (S : S) (Q : List D → Prop) : giEnumA c ga S Q = ga S (enumA c Q) := rfl
theorem enumA_lst (c : Bool) (Q : List D → Prop) (x : SV) (xs : List D) (hx : x.d = .lst xs) (sx : x.stays c) : enumA c Q [x] ↔ Q (enumD xs) := by
  constructor
  · rintro ⟨a, ds, e, h1, h⟩
    cases e
    rcases h1 with ⟨_, e1⟩ | e1
    · rw [hx] at e1
      cases e1
      exact h
    · rw [hx] at e1
      cases e1
  · exact fun h => ⟨x, xs, rfl, .inl ⟨sx, hx⟩, h⟩
theorem enumA_tup (c : Bool) (Q : List D → Prop) (x : SV) (xs : List D) (hx : x.d = .tup xs) : enumA c Q [x] ↔ Q (enumD xs) := by
  constructor
  · rintro ⟨a, ds, e, h1, h⟩
    cases e
    rcases h1 with ⟨_, e1⟩ | e1
    · rw [hx] at e1
      cases e1
    · rw [hx] at e1
      cases e1
      exact h
  · exact fun h => ⟨x, xs, rfl, .inr hx, h⟩
@[simp] theorem enumA_t (c : Bool) (Q : List D → Prop) (xs : List D) : enumA c Q [.tr (.lst xs)] ↔ Q (enumD xs) := enumA_lst c Q _ xs rfl trivial
@[simp] theorem enumA_b (c : Bool) (Q : List D → Prop) (xs : List D) : enumA c Q [.brw (.lst xs)] ↔ Q (enumD xs) := enumA_lst c Q _ xs rfl trivial
@[simp] theorem enumA_tt (c : Bool) (Q : List D → Prop) (xs : List D) : enumA c Q [.tr (.tup xs)] ↔ Q (enumD xs) := enumA_tup c Q _ xs rfl
section
variable {c : Bool} {X : Cx} {EX : EXT} {tg e : Expr} {ga : GA} {p pos tpos : Pos} {elts : List Expr} {kk : Nat}
theorem vi_enumA (hg : Gl X "enumerate") (hm : X.mg "enumerate" = none) (ha : VA X EX [e] ga) (hs : starEach [e] X.env = [(false, eval e X.env)] := by rfl) : VI c X EX (.Tuple elts kk tpos) (.Call (.Name "enumerate" p) [e] [] pos) (giEnumA c ga) := by
  refine ⟨fun G0 H0 tk => piMono (pi_enumA hg hm (ha.pa G0 H0 tk) hs) fun σ H Q ⟨G, S, Qs, R, q, k⟩ => ?_⟩
  refine ⟨G, S, _, R, q, fun vs H1 G1 svs E1 r1 q1 => ?_⟩
  obtain ⟨sv, ds, rfl, hd, q1⟩ := q1
  cases r1 with
  | cons rv rr _ =>
    cases rr
    rcases hd with ⟨st, hd⟩ | hd
    · obtain ⟨a, vs, rfl, ea, ra⟩ := rv.lst E1.ok hd
      refine ⟨a, vs, rfl, .inl ⟨.of ea, k _ _ _ _ E1 (fun G2 H2 l => ?_) q1⟩⟩
      obtain ⟨a', ws, e', e2, r2, _⟩ := rv.later (R.ext.trans E1) st hd l
      cases e'
      refine ⟨fun i hi => ⟨ws, .of e2, ?_⟩, fun i d hi => ?_⟩
      · rw [enumD, List.length_map, List.length_range] at hi
        rw [r2.length]; exact hi
      · rw [enumD, List.getElem?_map] at hi
        by_cases h : i < ds.length
        · rw [List.getElem?_range h] at hi
          cases hi
          obtain ⟨w, hw, rw_⟩ := r2.get (List.getElem?_eq_getElem h)
          refine ⟨⟨ws, w, .of e2, hw⟩, fun x H3 y => ?_⟩
          obtain ⟨T, x', rfl, hT, eT, y⟩ := y
          have hx : x' = w := Option.some.inj ((y ws (.of e2)).symm.trans hw)
          subst hx
          refine yields_pair (c := true) l.ok hT (x := .int (i : Nat)) (show V.int _ = V.int _ from rfl) ?_ eT
          rw [show ds.getD i D.non = ds[i] by simp [h]]
          exact rw_
        · rw [List.getElem?_eq_none (by simpa using h)] at hi
          cases hi
    · have t := rv.tree hd (fun _ _ _ z => z) (fun z => nomatch z)
      obtain ⟨a, vs, rfl, ea, ra⟩ := t
      refine ⟨a, vs, rfl, .inr ⟨.inl (rdUp E1.ok.sub ea), k _ _ _ _ E1 (fun G2 H2 l => ?_) q1⟩⟩
      have e2 := rdUp l.ok.sub (rdUp l.frz ea)
      have r2 := reps.mono l.frz _ _ ra
      refine ⟨fun i hi => ⟨vs, .inl e2, ?_⟩, fun i d hi => ?_⟩
      · rw [enumD, List.length_map, List.length_range] at hi
        rw [r2.length]; exact hi
      · rw [enumD, List.getElem?_map] at hi
        by_cases h : i < ds.length
        · rw [List.getElem?_range h] at hi
          cases hi
          obtain ⟨w, hw, rw_⟩ := r2.get (List.getElem?_eq_getElem h)
          refine ⟨⟨vs, w, .inl e2, hw⟩, fun x H3 y => ?_⟩
          obtain ⟨T, x', rfl, hT, eT, y⟩ := y
          have hx : x' = w := Option.some.inj ((y vs (.inl e2)).symm.trans hw)
          subst hx
          refine yields_pair (c := true) l.ok hT (x := .int (i : Nat)) (show V.int _ = V.int _ from rfl) ?_ eT
          rw [show ds.getD i D.non = ds[i] by simp [h]]
          exact rw_
        · rw [List.getElem?_eq_none (by simpa using h)] at hi
          cases hi
end
end VT

/-! class constants; o.append(x) of a list that nobody else holds -/
namespace VT
open PySem PySem.Spec PyProof.Rows L2
/-- C.f is the number i -/
def ClsI (K : PySem.W.Frag) (C : Addr) (f : Str) (i : Int) : Prop := ∃ t, PySem.W.readsIn K C (.type "type") = true ∧ PySem.W.specialIn K (.ref C) "__getattribute__" = some (some (.builtin "type.__getattribute__")) ∧ PySem.W.findCls K (.ref C) (.type "type") f = some (.val (.int i t))
def clsiB (x f : Str) (i : Int) (K : PySem.W.Frag) : Bool := PySem.W.readsIn K (He.ga K x) (.type "type") && (decide (PySem.W.specialIn K (.ref (He.ga K x)) "__getattribute__" = some (some (.builtin "type.__getattribute__"))) &&
  match PySem.W.findCls K (.ref (He.ga K x)) (.type "type") f with
  | some (.val (.int j _)) => decide (j = i)
  | _ => false)
theorem clsiB_ok {x f : Str} {i : Int} {K : PySem.W.Frag} (h : clsiB x f i K = true) : ClsI K (He.ga K x) f i := by
  unfold clsiB at h
  simp only [Bool.and_eq_true, decide_eq_true_eq] at h
  obtain ⟨h1, h2, h3⟩ := h
  split at h3
  · rename_i j t e
    exact ⟨t, h1, h2, by rw [e, of_decide_eq_true h3]⟩
  · cases h3
section
variable {X : Cx} {EX : EXT} {C : Addr} {x f : Str} {i : Int} {p pos : Pos}
theorem ve_cval (hg : Gl X x) (hm : X.mg x = some (.ref C)) (c : ClsI X.K C f i) (hd : (x == ("__debug__" : Str)) = false := by decide) (hb : attributeBase (.Name x p) f X.env (eval (.Name x p) X.env) = eval (.Name x p) X.env := by rfl) : VE X EX (.Attribute (.Name x p) f pos) (gC (.int i)) := by
  obtain ⟨t, h1, h2, h3⟩ := c
  refine ⟨fun G0 H0 tk => peMono (ClX.pe_cval (pe_glob hg hm (v := .ref C) rfl hd) hb) fun σ H Q ⟨G, S, Qs, R, q, k⟩ => ?_⟩
  exact ⟨C, .type "type", .int i, .int i t, rfl, ⟨h1, h2⟩, ⟨h3, ⟨t, rfl⟩⟩, k _ _ G (.tr (.int i)) (.refl R.ok) rfl q⟩
end
/-- o.append(e), o a list that nobody else holds: it is lost -/
def gTApp (go : GE) (ga : GA) : GS := fun D S => go S fun sv => ∃ ds, sv = .own (.lst ds) ∧ ga S fun svs => ∃ y, svs = [.tr y] ∧ ds.length < sizeLine ∧ D.nx S
@[simp] theorem gTApp_eq (go : GE) (ga : GA) (D : VEnds) (S : S) : gTApp go ga D S = go S fun sv => ∃ ds, sv = .own (.lst ds) ∧ ga S fun svs => ∃ y, svs = [.tr y] ∧ ds.length < sizeLine ∧ D.nx S := rfl
section
variable {X : Cx} {EX : EXT} {o e : Expr} {go : GE} {ga : GA} {apos cpos pos : Pos}
theorem vs_tappend (ho : VE X EX o go) (ha : VA X EX [e] ga) (hbase : attributeBase o "append" X.env (eval o X.env) = eval o X.env := by rfl)
    (hfew : ((backTo cpos (starEach [e] X.env)).all (fun x => !x.1) && (backToKw cpos (keywordEach [] X.env)).all (fun x => x.1.isSome)
      && decide (([e] : List Expr).length + ([] : List Keyword).length + (if ([] : List Keyword).isEmpty then 0 else 1) < 30)) = true := by rfl)
    (hline : (apos.endLine == cpos.line) = true := by rfl) (hs : starEach [e] X.env = (false, eval e X.env) :: starEach [] X.env := by rfl) (hsw : swapsWith (.Call (.Attribute o "append" apos) [e] [] cpos) none pos.line X.env = pure false := by rfl) :
    VS X EX (.Expr (.Call (.Attribute o "append" apos) [e] [] cpos) pos) (gTApp go ga) := by
  refine ⟨fun G0 H0 tk => psMono (ps_expr (pe_bm PySem.F.plainAttrs_list PySem.F.slot_list_append PySem.F.type_list_append mtr_any (ho.pe G0 H0 tk) (ha.pa G0 H0 tk) hbase hfew hline hs rfl) hsw) fun D σ H ⟨G, S, DV, R, q, k⟩ => ?_⟩
  refine ⟨G, S, _, R, q, fun v H1 G1 sv E1 r1 q1 => ?_⟩
  obtain ⟨ds, rfl, q1⟩ := q1
  refine ⟨r1.tyV E1.ok rfl, G1, S, _, R.go E1, q1, fun ws H2 G2 svs E2 r2 q2 => ?_⟩
  obtain ⟨y, rfl, hz, q2⟩ := q2
  have r3 := r1.ext E2
  obtain ⟨a, rfl, hn, hF, hb, vs, ea, rv⟩ := r3
  cases r2 with
  | cons ry rr _ =>
    cases rr
    exact ⟨_, mt_append, a, vs, _, rfl, rfl, ea, by rw [rv.length]; exact hz, k.nx _ _ G2 _ (R.go (ext_write (E1.trans E2) hn hF hb (.lst _) (.lst ea))) (E1.trans E2).frz q2⟩
end
end VT

/-! isinstance by own classes -/
namespace VT
open PySem PySem.Spec PyProof.Rows L2
/-- what isinstance asks of the class of a value -/
structure IsK (K : PySem.W.Frag) (D : Addr) : Prop where
  ha : PySem.W.findIn K (.ref D) "__class__" = some (some (.builtin "object.__class__"))
  hn : PySem.W.specialIn K (.builtin "object.__class__") "__get__" = some (some (.builtin "getset_descriptor.__get__"))
  htk : PySem.W.takesIn K (.builtin "object.__class__") = some true
  hm : PySem.W.mroIn K D (.type "object") = some true
def iskB (x : Str) (K : PySem.W.Frag) : Bool := decide (PySem.W.findIn K (.ref (He.ga K x)) "__class__" = some (some (.builtin "object.__class__"))) && (decide (PySem.W.specialIn K (.builtin "object.__class__") "__get__" = some (some (.builtin "getset_descriptor.__get__"))) &&
  (decide (PySem.W.takesIn K (.builtin "object.__class__") = some true) && decide (PySem.W.mroIn K (He.ga K x) (.type "object") = some true)))
theorem iskB_ok {x : Str} {K : PySem.W.Frag} (h : iskB x K = true) : IsK K (He.ga K x) := by
  unfold iskB at h
  simp only [Bool.and_eq_true, decide_eq_true_eq] at h
  exact ⟨h.1, h.2.1, h.2.2.1, h.2.2.2⟩
/-- no built-in kind is of the class at C -/
def NoK (K : PySem.W.Frag) (C : Addr) : Prop := ∀ n ∈ ["NoneType", "bool", "int", "str", "list", "tuple", "dict"], PySem.W.kitOne K (.type n) (.ref C) = some false
def nokB (x : Str) (K : PySem.W.Frag) : Bool := ["NoneType", "bool", "int", "str", "list", "tuple", "dict"].all fun n => decide (PySem.W.kitOne K (.type n) (.ref (He.ga K x)) = some false)
theorem nokB_ok {x : Str} {K : PySem.W.Frag} (h : nokB x K = true) : NoK K (He.ga K x) := fun n hn => of_decide_eq_true (List.all_eq_true.mp h n hn)
/-- an instance of D, asked for C: b -/
def InK (K : PySem.W.Frag) (D C : Addr) (b : Bool) : Prop := PySem.W.kitOne K (.ref D) (.ref C) = some b
def inkB (x y : Str) (b : Bool) (K : PySem.W.Frag) : Bool := decide (PySem.W.kitOne K (.ref (He.ga K x)) (.ref (He.ga K y)) = some b)
theorem inkB_ok {x y : Str} {b : Bool} {K : PySem.W.Frag} (h : inkB x y b K = true) : InK K (He.ga K x) (He.ga K y) b := by
  show PySem.W.kitOne K (.ref (He.ga K x)) (.ref (He.ga K y)) = some b
  exact of_decide_eq_true h
/-- isinstance(e, C); alts: the classes of instances that come here, with the answer -/
def isiC (alts : List (Addr × Bool)) (sv : SV) (Q : SV → Prop) : Prop := match sv.ins? with
  | some (D, _) => ∃ b, (D, b) ∈ alts ∧ Q (.tr (.bl b))
  | none => sv.d.kind.isSome = true ∧ Q (.tr (.bl false))
def gIsiC (alts : List (Addr × Bool)) (g : GE) : GE := fun S Q => g S fun sv => isiC alts sv Q
@[simp] theorem gIsiC_eq (alts : List (Addr × Bool)) (g : GE) (S : S) (Q : SV → Prop) : gIsiC alts g S Q = g S fun sv => isiC alts sv Q := rfl
section
variable {X : Cx} {EX : EXT} {C : Addr} {x : Str} {e : Expr} {g : GE} {p p2 pos : Pos} {alts : List (Addr × Bool)}
theorem ve_isiC (alts : List (Addr × Bool)) (he : VE X EX e g) (gI : Gl X "isinstance") (mI : X.mg "isinstance" = none) (gC : Gl X x) (mC : X.mg x = some (.ref C)) (nk : NoK X.K C) (hal : ∀ D b, (D, b) ∈ alts → Cls X.K D ∧ IsK X.K D ∧ InK X.K D C b) (hd : (x == ("__debug__" : Str)) = false := by decide)
    (h1 : starEach [e, .Name x p2] X.env = (false, eval e X.env) :: starEach [.Name x p2] X.env := by rfl) (h2 : starEach [.Name x p2] X.env = (false, eval (.Name x p2) X.env) :: starEach [] X.env := by rfl)
    (hpl : (backTo pos (starEach [.Name x p2] X.env)).any (·.1) = false := by rfl) : VE X EX (.Call (.Name "isinstance" p) [e, .Name x p2] [] pos) (gIsiC alts g) := by
  refine ⟨fun G0 H0 tk => peMono (pe_callB call_isi gI mI (by decide +kernel) (pa_cons (he.pe G0 H0 tk) (pa_cons (pe_glob (v := .ref C) gC mC rfl hd) pa_nil h2) h1) (by decide) (by decide) h1 hpl) fun σ H Q ⟨G, S, Qs, R, q, k⟩ => ?_⟩
  refine ⟨G, S, _, R, q, fun v H1 G1 sv E1 r1 q1 => ?_⟩
  unfold isiC at q1
  split at q1
  · rename_i D fs hi
    obtain ⟨b, hm, q1⟩ := q1
    obtain ⟨c, ik, hk⟩ := hal D b hm
    obtain ⟨a, dx, ws, rfl, ea⟩ := r1.spot E1.ok hi
    exact ⟨.ref a, .ref C, .ref D, .ref C, b, rfl, .own C, .base (.ins ea c ik.ha ik.hn ik.htk ik.hm), hk, kq_tr (d := .bl _) (kq_back E1 k) E1.ok rfl q1⟩
  · obtain ⟨hk, q1⟩ := q1
    obtain ⟨n, hn⟩ := Option.isSome_iff_exists.mp hk
    exact ⟨v, .ref C, .type n, .ref C, false, rfl, .own C, r1.ty E1.ok hn, nk n (kind_mem hn), kq_tr (d := .bl _) (kq_back E1 k) E1.ok rfl q1⟩
end
theorem isa_nil {X : Cx} {C : Addr} : ∀ D b, (D, b) ∈ ([] : List (Addr × Bool)) → Cls X.K D ∧ IsK X.K D ∧ InK X.K D C b := fun _ _ h => (nomatch h)
theorem isa_cons {X : Cx} {C D : Addr} {b : Bool} {l : List (Addr × Bool)} (h1 : Cls X.K D) (h2 : IsK X.K D) (h3 : InK X.K D C b) (t : ∀ D b, (D, b) ∈ l → Cls X.K D ∧ IsK X.K D ∧ InK X.K D C b) : ∀ D' b', (D', b') ∈ (D, b) :: l → Cls X.K D' ∧ IsK X.K D' ∧ InK X.K D' C b' := fun D' b' hm => by
  rcases List.mem_cons.mp hm with e | hm
  · cases e
    exact ⟨h1, h2, h3⟩
  · exact t _ _ hm
theorem ins_dat {sv : SV} (h : sv.d.dat = true) : sv.ins? = none := by
  cases sv with
  | tr d => cases d <;> first | rfl | cases h
  | _ => first | rfl | cases h
theorem isiC_dat {alts : List (Addr × Bool)} {sv : SV} {Q : SV → Prop} (h : sv.d.dat = true) (q : Q (.tr (.bl false))) : isiC alts sv Q := by
  unfold isiC
  rw [ins_dat h]
  exact ⟨by rw [dat_kind h], q⟩
end VT

/-! the end of a law: its tables of lambdas, the program's own tuples -/
namespace VT
open PySem PySem.Spec PyProof.Rows L2
/-! ### a tuple of the program's own, as data -/
def uV : Value → V
  | .bool b => .bl b
  | .int i _ => .int i
  | .str x _ => .str x
  | _ => .non
def tupV (o : Obj) : List V := match o.data with
  | .seq its _ => its.toList.map uV
  | _ => []
abbrev tupO (o : Obj) : HO := .frz o (.tup (tupV o))
theorem nt_own (x : Addr) : ∀ o, HO.own x ≠ tupO o := fun o z => by cases z
theorem nt_tup (x : List V) : ∀ o, HO.tup x ≠ tupO o := fun o z => by cases z
theorem nt_tbl (x : Array Value) : ∀ o, HO.tbl x ≠ tupO o := fun o z => by cases z
structure TupB (ds : List D) (o : Obj) : Prop where
  cls : o.cls = .type "tuple"
  dict : o.dict = none
  data : ∃ its n, o.data = .seq its n ∧ Vals (tupV o) its.toList
  reps : reps (fun _ => none) ds (tupV o)
  len : (tupV o).length ≤ sizeLine
def repB : List D → List Value → Bool
  | [], [] => true
  | .non :: ds, .none :: us => repB ds us
  | .bl b :: ds, .bool c :: us => decide (b = c) && repB ds us
  | .int i :: ds, .int j _ :: us => decide (i = j) && repB ds us
  | .str x :: ds, .str y _ :: us => decide (x = y) && (decide (okS x) && repB ds us)
  | _, _ => false
theorem repB_ok : ∀ {ds : List D} {us : List Value}, repB ds us = true → reps (fun _ => none) ds (us.map uV) ∧ Vals (us.map uV) us
  | [], us, h => by
    cases us with
    | nil => exact ⟨rfl, .nil⟩
    | cons u us => cases h
  | d :: ds, us, h => by
    unfold repB at h
    split at h
    · rename_i e
      cases e
    · rename_i e
      cases e
      obtain ⟨a, b⟩ := repB_ok h
      exact ⟨⟨_, _, rfl, rfl, a⟩, .cons rfl b⟩
    · rename_i e
      cases e
      simp only [Bool.and_eq_true, decide_eq_true_eq] at h
      obtain ⟨a, b⟩ := repB_ok h.2
      exact ⟨⟨_, _, rfl, by rw [h.1]; rfl, a⟩, .cons rfl b⟩
    · rename_i e
      cases e
      simp only [Bool.and_eq_true, decide_eq_true_eq] at h
      obtain ⟨a, b⟩ := repB_ok h.2
      exact ⟨⟨_, _, rfl, by rw [h.1]; rfl, a⟩, .cons ⟨_, rfl⟩ b⟩
    · rename_i e
      cases e
      simp only [Bool.and_eq_true, decide_eq_true_eq] at h
      obtain ⟨a, b⟩ := repB_ok h.2.2
      exact ⟨⟨_, _, rfl, ⟨by rw [h.1]; rfl, h.2.1⟩, a⟩, .cons ⟨_, rfl⟩ b⟩
    · cases h
def tupB (ds : List D) (o : Obj) : Bool := match o with
  | ⟨.type c, none, .seq its _, _⟩ => decide (c = "tuple") && (repB ds its.toList && decide (its.size ≤ 1000))
  | _ => false
theorem tupB_ok {ds : List D} {o : Obj} (h : tupB ds o = true) : TupB ds o := by
  unfold tupB at h
  split at h
  · simp only [Bool.and_eq_true, decide_eq_true_eq] at h
    obtain ⟨h1, h2, h3⟩ := h
    subst h1
    obtain ⟨a, b⟩ := repB_ok h2
    refine ⟨rfl, rfl, ⟨_, _, rfl, b⟩, a, ?_⟩
    show (List.map uV _).length ≤ _
    rw [List.length_map, Array.length_toList]
    exact Nat.le_trans h3 (by decide)
  · cases h
/-! ### tracked -/
def addH (ext : List (Addr × Obj)) (H : Hp) : Hp := fun b => match ext.lookup b with
  | some o => some (tupO o)
  | none => H b
section
variable {P : Program} {w : World} {ext : List (Addr × Obj)} {H H' : Hp} {b : Addr} {o : Obj} {u : HO} {h h' : Heap} {fs : List Addr}
theorem add_at (h : ext.lookup b = some o) : addH ext H b = some (tupO o) := by unfold addH; rw [h]
theorem add_off (h : ext.lookup b = none) : addH ext H b = H b := by unfold addH; rw [h]
abbrev KnT (ext : List (Addr × Obj)) (H : Hp) : Prop := ∀ c o, ext.lookup c = some o → H c = some (tupO o)
theorem KnT.free (h : KnT ext H) (e : H b = some u) (n : ∀ o, u ≠ tupO o) : freeH ext H b = some u := by
  cases q : ext.lookup b with
  | none => rw [free_off q]; exact e
  | some o => rw [h b o q] at e; exact (n o (Option.some.inj e).symm).elim
theorem Out.add (h : Out ext H) (e : H b = some u) : addH ext H b = some u := by rw [add_off (h.off e)]; exact e
theorem addN (h : ext.lookup b = none) (e : H b = none) : addH ext H b = none := by rw [add_off h]; exact e
/-- they stand in h, and are tuples -/
def Stand (ext : List (Addr × Obj)) (h : Heap) : Prop := ∀ c o, ext.lookup c = some o → h.get? c = some o ∧ ∃ ds, TupB ds o
theorem hok_add (hok : HOk P w H h) (ho : Out ext H) (hc : Stand ext h) : HOk P w (addH ext H) h := fun b u e => by
  cases q : ext.lookup b with
  | some o =>
    rw [add_at q] at e
    cases e
    obtain ⟨z, ds, t⟩ := hc b o q
    obtain ⟨its, n, hd, hv⟩ := t.data
    exact ⟨z, t.len, its.toList, hv, o, z, t.cls, n, by rw [hd]⟩
  | none =>
    rw [add_off q] at e
    exact (hok b u e).stay (fun _ _ _ q => q) (fun c q => ho.add q) fun c xs q => ho.add q
theorem hok_drop (hok : HOk P w H h) (hk : KnT ext H) : HOk P w (freeH ext H) h := fun b u e => by
  obtain ⟨q, e⟩ := of_free e
  exact (hok b u e).stay (fun _ _ _ q => q) (fun c q => hk.free q (nt_own _)) fun c xs q => hk.free q (nt_tup _)
theorem un_add (u : Un fs [] (addH ext H) H' h h') (ho : Out ext H) (hc : Stand ext h) (hok : HOk P w H' h') : Un fs [] H (freeH ext H') h h' := by
  have kn : KnT ext H' := fun c o q => u.frzs c o _ (add_at q)
  have at_ : ∀ c o ob, h.get? c = some ob → ext.lookup c = some o → h'.get? c = some ob := fun c o ob e q => by
    have z := (hok c _ (kn c o q)).1
    rw [(hc c o q).1] at e
    cases e
    exact z
  refine ⟨fun b o e n hb hx => ?_, fun b o e n hb hx => ?_, fun b o e n hx => ?_, fun b o e hx => u.there b o e hx, fun b xs e => kn.free (u.tups b xs (ho.add e)) (nt_tup _), fun b o xs e => ?_, fun b ps e => ?_⟩
  · cases q : ext.lookup b with
    | some ob => exact at_ b ob o e q
    | none => exact u.keep b o e (addN q n) hb hx
  · cases q : ext.lookup b with
    | some ob => exact ⟨o.slots, at_ b ob o e q⟩
    | none => exact u.slot b o e (addN q n) hb hx
  · cases q : ext.lookup b with
    | some ob => exact free_at q
    | none => exact freeN (u.free b o e (addN q n) hx)
  · have q := ho.off e
    rw [free_off q]
    exact u.frzs b o xs (ho.add e)
  · obtain ⟨m, z⟩ := u.tbls b ps (ho.add e)
    exact ⟨m, kn.free z (nt_tbl _)⟩
end
theorem ff_base {h base base' : Heap} (k : ∀ b, base.get? b = none → base'.get? b = none) : ∀ {l : List Env}, h.FunFrames base l → h.FunFrames base' l
  | [], _ => trivial
  | _ :: _, ⟨a, ⟨L, o, h1, h2, h3, h4⟩, r⟩ => ⟨a, ⟨L, o, h1, k _ h2, h3, h4⟩, ff_base k r⟩
theorem ff_frs {h base : Heap} {b : Addr} : ∀ {l : List Env}, h.FunFrames base l → b ∈ frs l → base.get? b = none
  | [], _, hb => by cases hb
  | e :: l, ⟨a, ⟨L, o, h1, h2, h3, h4⟩, r⟩, hb => by
    unfold frs at hb
    rw [List.filterMap_cons, h1] at hb
    rcases List.mem_cons.mp hb with rfl | hb
    · exact h2
    · exact ff_frs r hb
/-- what the law is given, K' looked at from outside -/
def spLaw2 (K K2 : PySem.W.Frag) : Sp := fun vs H Q _ => ∃ (a : Addr) (ns : List Int), vs = [.ref a] ∧ SqL K2 H a (ns.map V.int) ∧ (∀ p ∈ (TabsOf K).tabs, H p.1 = some (.tbl #[])) ∧ ∀ H', Q (.bl true) H'
section
variable {P : Program} {w : World} {K : PySem.W.Frag} {ext : List (Addr × Obj)} {mg : Str → Option Value} {base : Heap} {k : Nat} {fa : Addr} {fd : FuncData} {x : Str}
theorem look2 {a : Addr} : List.lookup a (K ++ ext) = (List.lookup a K).or (List.lookup a ext) := List.lookup_append
theorem fnok_tup (hN : ∀ c o, ext.lookup c = some o → K.lookup c = none ∧ ∃ ds, TupB ds o) (hT : ∀ p ∈ tupIn K, ∃ o, ext.lookup p.1 = some o ∧ TupB p.2 o) (hb : PySem.W.Frag.In (K ++ ext) base) (hG : base.Ns mainGlobals mg) (hTB : TabBs K mg base)
    (hF : ∀ base' : Heap, K.In base' → base'.Ns mainGlobals mg → TabBs K mg base' → FnOk P w K mg base' CX0 k fa fd [x] (spLaw K)) : FnOk P w (K ++ ext) mg base CX0 k fa fd [x] (spLaw2 K (K ++ ext)) := by
  have inB : ∀ c o, ext.lookup c = some o → base.get? c = some o := fun c o e => hb c o (by
    show List.lookup c (K ++ ext) = _
    rw [look2, show List.lookup c K = none from (hN c o e).1]; exact e)
  have inK : ∀ c o, K.lookup c = some o → base.get? c = some o := fun c o e => hb c o (by
    show List.lookup c (K ++ ext) = _
    rw [look2, show List.lookup c K = some o from e]; rfl)
  have st : Stand ext base := fun c o e => ⟨inB c o e, (hN c o e).2⟩
  let B := hidT base (addH ext fun _ => none)
  have kept : ∀ {b : Addr} {o : Obj}, base.get? b = some o → (∀ its n, o.data ≠ .seq its n) → B.get? b = some o := fun {b o} e n => hidT_get e (by
    cases q : ext.lookup b with
    | none => exact addN q rfl
    | some o' =>
      obtain ⟨z, ds, t⟩ := st b o' q
      rw [e] at z
      cases z
      obtain ⟨its, m, hd, _⟩ := t.data
      exact (n its m hd).elim)
  have keptN : ∀ {b : Addr} {m : Str → Option Value}, base.Ns b m → B.Ns b m := fun ⟨o, es, ep, e, d, r⟩ => ⟨o, es, ep, kept e (fun its n z => by rw [d] at z; cases z), d, r⟩
  have ofB : ∀ {b : Addr} {o : Obj}, B.get? b = some o → base.get? b = some o ∧ ext.lookup b = none := fun {b o} e => by
    obtain ⟨e1, e2⟩ := of_hidT e
    refine ⟨e1, ?_⟩
    cases q : ext.lookup b with
    | none => rfl
    | some o' => rw [add_at q] at e2; cases e2
  have KB : K.In B := fun c o e => hidT_get (inK c o e) (by
    cases q : ext.lookup c with
    | none => exact addN q rfl
    | some o' => rw [(hN c o' q).1] at e; cases e)
  have TB : TabBs K mg B := fun p hp => by
    obtain ⟨⟨o, vs, file, tf, flags, tg, inF, text, tt, e1, e2, e3, r⟩, ⟨bm, ob, b1, b2, b3, b4, b5, b6, b7, b8⟩, g⟩ := hTB p hp
    exact ⟨⟨o, vs, file, tf, flags, tg, inF, text, tt, kept e1 (fun its n z => by rw [e3] at z; cases z), e2, e3, r⟩, ⟨bm, ob, b1, b2, b3, b4, kept b5 (fun its n z => by rw [b8] at z; cases z), b6, b7, b8⟩, g⟩
  have F := hF B KB (keptN hG) TB
  refine ⟨fun vs H Q E ⟨a, ns, e, _⟩ => by rw [e]; rfl, fun A outer s H args us vs Q E hr e0 hbi rv hs => ?_⟩
  obtain ⟨a, ns, rfl, hS, hTb, hq⟩ := hs
  have out : Out ext H := fun c o e => (e0.bs c o (inB c o e)).2
  have stS : Stand ext s.heap := fun c o e => ⟨(e0.bs c o (inB c o e)).1, (hN c o e).2⟩
  have nfr : ∀ b ∈ frs outer, ext.lookup b = none := fun b hb' => by
    have z := ff_frs e0.funs hb'
    cases q : ext.lookup b with
    | none => rfl
    | some o => rw [inB b o q] at z; cases z
  obtain ⟨mb, m1, m2⟩ := e0.mod.blt
  obtain ⟨mc, l1, l2⟩ := e0.mod.nolimit
  have e1 : Env0 P w K mg B A outer s (addH ext H) := ⟨e0.frames, ⟨KB, keptN e0.mod.glob, ⟨mb, keptN m1, m2⟩, ⟨mc, keptN l1, l2⟩⟩, fun b o e => ⟨(e0.bs b o (ofB e).1).1, addN (ofB e).2 (e0.bs b o (ofB e).1).2⟩, by
      rw [show B.objs.size = base.objs.size from hidT_size _ _]
      exact e0.bsz, ff_base (fun b n => by
      cases q : B.get? b with
      | none => rfl
      | some o => rw [(ofB q).1] at n; cases n) e0.funs, fun b hb' => addN (nfr b hb') (e0.frf b hb'), hok_add e0.hok out stS, e0.bare⟩
  have hS1 : SqL K (addH ext H) a (ns.map V.int) := by
    rcases hS with (q | ⟨o, q⟩) | ⟨o, its, n, q, c, r⟩
    · exact .inl (.inl (out.add q))
    · exact .inl (.inr ⟨o, out.add q⟩)
    · have q : List.lookup a (K ++ ext) = some o := q
      rw [look2] at q
      cases z : List.lookup a K with
      | some o' =>
        rw [z] at q
        cases q
        exact .inr ⟨_, its, n, z, c, r⟩
      | none =>
        rw [z] at q
        obtain ⟨_, ds, t⟩ := hN a o q
        have c1 := t.cls.symm.trans c
        injection c1 with z
        exact absurd z (by decide)
  refine codeAny_mono (F.run A outer s (addH ext H) args us [.ref a] (fun v _ => v = .bl true) E hr e1 hbi rv ⟨a, ns, rfl, hS1, ⟨fun p hp => out.add (hTb p hp), fun p hp => ?_⟩, fun _ => rfl⟩) fun r s' z => ?_
  · obtain ⟨o, q, t⟩ := hT p hp
    exact ⟨o, tupV o, t.dict, add_at q, t.reps⟩
  · cases r with
    | error e => exact z
    | ok fl =>
      cases fl with
      | ret u =>
        obtain ⟨v, H', os, ag, un, hok, rv', q⟩ := z
        have q : v = .bl true := q
        subst q
        have kn : KnT ext H' := fun c o q => un.frzs c o _ (add_at q)
        exact ⟨.bl true, freeH ext H', os, ag, un_add un out stS hok, hok_drop hok kn, rv', hq _⟩
      | next => exact z
      | brk => exact z
      | cont => exact z
end
/-! ### the end -/
/-- the program's own objects, and the table of what is noted -/
def asY (g : Addr → Option Obj) (n : Nat) : List Addr := cStatics :: He.asD g n
def dropK (l : List (Addr × List D)) (K : PySem.W.Frag) : PySem.W.Frag := List.filter (fun q : Addr × Obj => !l.any fun p => decide (p.1 = q.1)) K
theorem lookup_mem {α : Type} {a : Addr} {o : α} : ∀ {l : List (Addr × α)}, l.lookup a = some o → (a, o) ∈ l
  | [], h => by cases h
  | (b, u) :: l, h => by
    by_cases e : a = b
    · subst e
      have h : some u = some o := by simpa [List.lookup] using h
      cases h
      exact List.mem_cons_self ..
    · have h : l.lookup a = some o := by
        rw [List.lookup_cons] at h
        rwa [show (a == b) = false from beq_false_of_ne e] at h
      exact List.mem_cons_of_mem _ (lookup_mem h)
theorem dropK_at {g : Addr → Option Obj} {as : List Addr} {l : List (Addr × List D)} {a : Addr} {o : Obj} (h : (dropK l (He.frT g as)).lookup a = some o) : g a = some o ∧ He.emptyTab o = false := by
  have h1 := (List.mem_filter.mp (lookup_mem h)).1
  have h2 := List.mem_filter.mp h1
  exact ⟨He.frG_mem h2.1, by simpa using h2.2⟩
/-- what is looked at: all but the tables and the tuples that are tracked -/
def frZ (g : Addr → Option Obj) (n : Nat) : PySem.W.Frag := let K0 := He.frT g (asY g n); dropK (tupIn K0) K0
def tabE (g : Addr → Option Obj) (K : PySem.W.Frag) : Bool := (lamIn K).all fun x => match g (He.cT K (x, none)).2 with
  | some o => He.emptyTab o
  | none => false
def tupE (g : Addr → Option Obj) (K : PySem.W.Frag) : Bool := (tupIn K).all fun p => match g p.1, K.lookup p.1 with
  | some o, none => tupB p.2 o
  | _, _ => false
abbrev obsZ {β : Type} (n : Nat) (o : PySem.W.Frag → β) (g : Addr → Option Obj) : β × Bool := (o (frZ g n), tabE g (frZ g n) && tupE g (frZ g n))
def hookZ {β : Type} (n : Nat) (o : PySem.W.Frag → β) (v : β) : PySem.W.Hook where
  α := β × Bool
  obs := fun s => obsZ n o s.heap.get?
  val := fun _ => (v, true)
  says := fun _ h => ∃ K : PySem.W.Frag, K.In h ∧ o K = v ∧ (∀ x ∈ lamIn K, h.get? (He.cT K (x, none)).2 = some { cls := .none, data := .fields #[] } ∧ K.lookup (He.cT K (x, none)).2 = none) ∧
    ∀ p ∈ tupIn K, ∃ o, h.get? p.1 = some o ∧ K.lookup p.1 = none ∧ TupB p.2 o
  of := fun w h e => by
    refine ⟨frZ h.heap.get? n, fun a o q => (dropK_at q).1, congrArg (fun z : β × Bool => z.1) e, fun x hx => ?_, fun p hp => ?_⟩
    · have e2 : (tabE h.heap.get? (frZ h.heap.get? n) && tupE h.heap.get? (frZ h.heap.get? n)) = true := congrArg (fun z : β × Bool => z.2) e
      rw [Bool.and_eq_true] at e2
      have e3 := List.all_eq_true.mp e2.1 x hx
      cases q : h.heap.get? (He.cT (frZ h.heap.get? n) (x, none)).2 with
      | none => rw [q] at e3; cases e3
      | some o =>
        rw [q] at e3
        refine ⟨congrArg some (He.emptyTab_eq e3), ?_⟩
        cases z : (frZ h.heap.get? n).lookup (He.cT (frZ h.heap.get? n) (x, none)).2 with
        | none => rfl
        | some u =>
          obtain ⟨z1, z2⟩ := dropK_at z
          rw [q] at z1
          cases z1
          rw [show He.emptyTab o = true from e3] at z2
          cases z2
    · have e2 : (tabE h.heap.get? (frZ h.heap.get? n) && tupE h.heap.get? (frZ h.heap.get? n)) = true := congrArg (fun z : β × Bool => z.2) e
      rw [Bool.and_eq_true] at e2
      have e3 := List.all_eq_true.mp e2.2 p hp
      split at e3
      · rename_i o q1 q2
        exact ⟨o, q1, q2, tupB_ok e3⟩
      · cases e3
  keeps := fun _ _ _ ⟨K, hK, c, t, u⟩ k => ⟨K, PySem.W.Frag.In.keeps hK k, c, fun x hx => ⟨k _ _ (t x hx).1, (t x hx).2⟩, fun p hp => let ⟨o, h1, h2, h3⟩ := u p hp; ⟨o, k _ _ h1, h2, h3⟩⟩
theorem hookZ_eq {β : Type} {n : Nat} {o : PySem.W.Frag → β} {v : β} {g : Addr → Option Obj} {s : Shared} (h : ∀ a, g a = s.heap.get? a) : obsZ n o g = (hookZ n o v).obs s := by
  have e : g = s.heap.get? := funext h
  rw [e]
  rfl
def mkExt (h : Heap) : List (Addr × List D) → List (Addr × Obj)
  | [] => []
  | p :: l => match h.get? p.1 with
    | some o => (p.1, o) :: mkExt h l
    | none => mkExt h l
theorem mkExt_of {h : Heap} {a : Addr} {o : Obj} : ∀ {l : List (Addr × List D)}, (mkExt h l).lookup a = some o → h.get? a = some o ∧ ∃ p ∈ l, p.1 = a
  | [], e => by cases e
  | p :: l, e => by
    unfold mkExt at e
    split at e
    · rename_i o' q
      by_cases z : a = p.1
      · subst z
        have e : some o' = some o := by simpa [List.lookup] using e
        cases e
        exact ⟨q, p, List.mem_cons_self .., rfl⟩
      · rw [List.lookup_cons, show (a == p.1) = false from beq_false_of_ne z] at e
        obtain ⟨e1, r, e2, e3⟩ := mkExt_of e
        exact ⟨e1, r, List.mem_cons_of_mem _ e2, e3⟩
    · obtain ⟨e1, r, e2, e3⟩ := mkExt_of e
      exact ⟨e1, r, List.mem_cons_of_mem _ e2, e3⟩
theorem mkExt_at {h : Heap} {a : Addr} {o : Obj} (q : h.get? a = some o) : ∀ {l : List (Addr × List D)}, (∃ p ∈ l, p.1 = a) → (mkExt h l).lookup a = some o
  | [], ⟨p, hp, _⟩ => by cases hp
  | r :: l, ⟨p, hp, e⟩ => by
    unfold mkExt
    by_cases z : a = r.1
    · rw [← z, q]
      simp [List.lookup]
    · have hl : ∃ p ∈ l, p.1 = a := by
        rcases List.mem_cons.mp hp with rfl | hp
        · exact (z e.symm).elim
        · exact ⟨p, hp, e⟩
      split
      · rw [List.lookup_cons, show (a == r.1) = false from beq_false_of_ne z]
        exact mkExt_at q hl
      · exact mkExt_at q hl
theorem lawAtZ {l : PySem.W.OpenLaw} {w : World} {K : PySem.W.Frag} {k n : Nat} {x : Str} {mg : Str → Option Value} {fa : Addr} {h : Heap} {fd : FuncData} (KX : K.In h) (t : ∀ x ∈ lamIn K, h.get? (He.cT K (x, none)).2 = some { cls := .none, data := .fields #[] } ∧ K.lookup (He.cT K (x, none)).2 = none)
    (u : ∀ p ∈ tupIn K, ∃ o, h.get? p.1 = some o ∧ K.lookup p.1 = none ∧ TupB p.2 o)
    (hb : ∀ (s : Shared) (u : Value), BindsTo s fd ⟨[u], []⟩ [(x, u)]) (hF : ∀ base : Heap, K.In base → base.Ns mainGlobals mg → TabBs K mg base → FnOk l.prog w K mg base CX0 k fa fd [x] (spLaw K)) :
    ∃ K2 : PySem.W.Frag, K2.In h ∧ LamX.LawAtS l w K2 CX0 k n x mg fa h := by
  have hN : ∀ c o, (mkExt h (tupIn K)).lookup c = some o → K.lookup c = none ∧ ∃ ds, TupB ds o := fun c o e => by
    obtain ⟨e1, p, hp, rfl⟩ := mkExt_of e
    obtain ⟨o', h1, h2, h3⟩ := u p hp
    rw [e1] at h1
    cases h1
    exact ⟨h2, _, h3⟩
  have inn : PySem.W.Frag.In (K ++ mkExt h (tupIn K)) h := fun a o e => by
    have e : List.lookup a (K ++ mkExt h (tupIn K)) = some o := e
    rw [look2] at e
    cases z : List.lookup a K with
    | some o' =>
      rw [z] at e
      cases e
      exact KX a _ z
    | none =>
      rw [z] at e
      exact (mkExt_of e).1
  refine ⟨K ++ mkExt h (tupIn K), inn, fd, (lamIn K).map fun x => He.cT K (x, none), spLaw2 K (K ++ mkExt h (tupIn K)), fun p hp => ?_, fun p hp => ?_, fun p hp => ?_, hb, fun H a ns _ _ hT hS => ⟨a, ns, rfl, hS, fun p hp => ?_, fun _ => rfl⟩, fun base h1 h2 h3 => fnok_tup hN (fun p hp => ?_) h1 h2 h3 hF⟩
  · obtain ⟨x, hx, rfl⟩ := List.mem_map.mp hp
    exact (t x hx).1
  · obtain ⟨x, hx, rfl⟩ := List.mem_map.mp hp
    show List.lookup _ (K ++ mkExt h (tupIn K)) = none
    rw [look2, show List.lookup _ K = none from (t x hx).2]
    cases z : (mkExt h (tupIn K)).lookup (He.cT K (x, none)).2 with
    | none => rfl
    | some o =>
      obtain ⟨_, ds, tb⟩ := hN _ o z
      obtain ⟨z1, _⟩ := mkExt_of z
      rw [(t x hx).1] at z1
      cases z1
      cases tb.cls
  · obtain ⟨x, hx, rfl⟩ := List.mem_map.mp hp
    exact PySem.W.codeHd_of_K KX (List.mem_filter.mp hx).2
  · obtain ⟨x, hx, rfl⟩ := List.mem_map.mp hp
    exact hT _ (List.mem_map.mpr ⟨x, hx, rfl⟩)
  · obtain ⟨o, h1, h2, h3⟩ := u p hp
    exact ⟨o, mkExt_at h1 ⟨p, hp, rfl⟩, h3⟩
/-! ### a default that is a tuple -/
def dflB (f : Str × Option Str) (i : Nat) (K : PySem.W.Frag) : Bool := !decide (He.dflAt f i K = 0)
theorem dflB_ok {f : Str × Option Str} {i : Nat} {ds : List D} {K : PySem.W.Frag} (h : dflB f i K = true) (hm : (f, i, ds) ∈ dflTups) : (He.dflAt f i K, ds) ∈ (TabsOf K).tups := by
  unfold dflB at h
  refine List.mem_filter.mpr ⟨List.mem_append_left _ (List.mem_map.mpr ⟨_, hm, rfl⟩), h⟩
end VT

namespace VT
open PySem PySem.Spec PyProof.Rows L2
/-! ### str(x) of a number or a text -/
def gStrOf : List D → (SV → Prop) → Prop
  | [.int i], Q => i.natAbs.log2 < 1920 ∧ Q (.tr (.str (Str.ofString (toString i))))
  | [.str z], Q => Q (.tr (.str z))
  | _, _ => False
@[simp] theorem gStrOf_int (i : Int) (Q : SV → Prop) : gStrOf [.int i] Q = (i.natAbs.log2 < 1920 ∧ Q (.tr (.str (Str.ofString (toString i))))) := rfl
@[simp] theorem gStrOf_str (z : Str) (Q : SV → Prop) : gStrOf [.str z] Q = Q (.tr (.str z)) := rfl
section
variable {X : Cx} {EX : EXT}
theorem cw_str : CallW X (.type "str") gStrOf := by
  intro H0 Hs G H vs svs Qs Q ok r q k
  unfold gStrOf at q
  split at q
  · rename_i i h
    obtain ⟨v, sv, rfl, rfl, e, rv⟩ := repl1 r h
    cases rv.int e
    exact ⟨_, call_str_int, i, rfl, q.1, kq_tr (d := .str _) k ok ⟨rfl, okS_ofString _ (int_text_fits q.1)⟩ q.2⟩
  · rename_i z h
    obtain ⟨v, sv, rfl, rfl, e, rv⟩ := repl1 r h
    obtain ⟨rfl, hz⟩ := rv.str e
    exact ⟨_, SkE.call_str_str, z, rfl, kq_tr (d := .str _) k ok ⟨rfl, hz⟩ q⟩
  · exact q.elim
end
end VT

/-! items by a star; defs with a star parameter -/
namespace VT
open PySem PySem.Spec PyProof.Rows L2
/-! ### *e among items -/
def gaStar (ge : GE) (ga : GA) : GA := fun S Q => ge S fun sv => ∃ ds, (sv.d = .lst ds ∨ sv.d = .tup ds) ∧ ga S fun svs => Q (ds.map SV.tr ++ svs)
@[simp] theorem gaStar_eq (ge : GE) (ga : GA) (S : S) (Q : List SV → Prop) : gaStar ge ga S Q = ge S fun sv => ∃ ds, (sv.d = .lst ds ∨ sv.d = .tup ds) ∧ ga S fun svs => Q (ds.map SV.tr ++ svs) := rfl
theorem repl_trs {H0 Hs H : Hp} {G : Gh} : ∀ {ds : List D} {vs : List V}, reps G.F ds vs → RepL H0 Hs G H vs (ds.map SV.tr)
  | [], _, r => by rw [show _ = [] from r]; exact .nil
  | d :: ds, _, ⟨v, t, e, h, r⟩ => by
    rw [e]
    exact .cons h (repl_trs r) fun _ o => o.elim
theorem trs_arg (ds : List D) : ∀ sv ∈ ds.map SV.tr, sv.isArg := fun sv h => by
  obtain ⟨d, _, rfl⟩ := List.mem_map.mp h
  trivial
theorem onTrs_app {P : List D → Prop} {r : List SV} : ∀ {ds : List D}, onTrs (ds.map SV.tr ++ r) P ↔ onTrs r fun es => P (ds ++ es)
  | [] => Iff.rfl
  | d :: ds => by
    show onTrs (ds.map SV.tr ++ r) (fun es => P (d :: es)) ↔ _
    exact onTrs_app (ds := ds)
@[simp] theorem onTrs_apps {P : List D → Prop} {r : List SV} {ds : List D} : onTrs (ds.map SV.tr ++ r) P = onTrs r fun es => P (ds ++ es) := propext onTrs_app
@[simp] theorem onTrs_maps {P : List D → Prop} {ds : List D} : onTrs (ds.map SV.tr) P = P ds := by
  have := onTrs_apps (P := P) (r := []) (ds := ds)
  simpa using this
/-- the items of a list or a tuple that is held -/
theorem RepV.seq {K : PySem.W.Frag} {H0 Hs H : Hp} {G : Gh} {v : V} {sv : SV} {ds : List D} (r : RepV H0 Hs G H v sv) (ok : OkG G H) (h : sv.d = .lst ds ∨ sv.d = .tup ds) : ∃ a ws, v = .ref a ∧ (SqT K H a ws ∨ SqL K H a ws) ∧ reps G.F ds ws := by
  rcases h with h | h
  · obtain ⟨a, ws, rfl, ea, q⟩ := r.lst ok h
    exact ⟨a, ws, rfl, .inr (.of ea), q⟩
  · obtain ⟨a, ws, rfl, ea, q⟩ := r.tup ok h
    exact ⟨a, ws, rfl, .inl (.inl ea), q⟩
section
variable {X : Cx} {EX : EXT} {e : Expr} {es : List Expr} {ge : GE} {ga : GA} {p : Pos}
theorem va_star (he : VE X EX e ge) (hr : VA X EX es ga) (hs : starEach (.Starred e p :: es) X.env = (true, eval e X.env) :: starEach es X.env := by rfl) : VA X EX (.Starred e p :: es) (gaStar ge ga) := by
  refine ⟨fun G0 H0 tk => paMono (StX.pa_star (he.pe G0 H0 tk) (hr.pa G0 H0 tk) hs) fun σ H Q ⟨G, S, Qs, R, q, k⟩ => ?_⟩
  refine ⟨G, S, _, R, q, fun v H1 G1 sv E1 r1 q1 => ?_⟩
  obtain ⟨ds, hd, q1⟩ := q1
  obtain ⟨a, ws, rfl, ea, rw_⟩ := r1.seq (K := X.K) E1.ok hd
  refine ⟨a, ws, rfl, ea, G1, S, _, R.go E1, q1, fun ys H2 G2 svs E2 r2 q2 => k _ _ _ _ (E1.trans E2) ?_ q2⟩
  exact (repl_trs (reps.mono E2.frz _ _ rw_)).append (r2.back fun b z => E1.dom z) (trs_arg ds)
end
/-! ### defs with a star parameter -/
/-- the binding makes the tuple of what is left over -/
def BindsStar (s : Shared) (fd : FuncData) (args : Args) (bs : List (Str × Value)) (pv : Str) (rest : List Value) : Prop :=
  ∀ (M : Model) (A : Around) (Q : List (Str × Value) → Shared → Prop) (E : Value → Shared → Prop), wpAny M A (newTuple rest >>= fun t => pure (bs ++ [(pv, t)])) Q E s → wpAny M A (bindArgs fd args) Q E s
structure KBs (K : PySem.W.Frag) (fd : FuncData) (ps : List Str) (pv : Str) (n : Nat) (ks : List Str) (ix : List Nat) (ds : List V) : Prop where
  to : ∃ mv : List Value, Vals ds mv ∧ ∀ (s : Shared) (us rest ws : List Value), K.In s.heap → us.length = n → ws.length = ks.length → BindsStar s fd ⟨us ++ rest, ks.zip ws⟩ (ps.zip (arr ix (us ++ ws ++ mv))) pv rest
theorem FG.kbS {K : PySem.W.Frag} {x qual : Str} {params : Arguments} {body : List Stmt} {scope : Scope} {cl : List (Str × Addr)} {kws : List (Str × V)} {f : Addr} {fd : FuncData} {ps : List Str} {pv : Str} {n : Nat} {ks : List Str} {ix : List Nat} (F : FG K x qual params body scope cl [] kws f fd)
    (h : ∀ (kV doc pm cdv ct : Value) (an : Option Addr) (us rest ws : List Value), us.length = n → ws.length = ks.length → bindArgs (PySem.W.fnX x qual params body scope cl .none kV doc pm an cdv ct) ⟨us ++ rest, ks.zip ws⟩ = (newTuple rest >>= fun t => pure (ps.zip (arr ix (us ++ ws)) ++ [(pv, t)]))) : KBs K fd ps pv n ks ix [] := by
  obtain ⟨osl, od, an, oc, dV, kV, doc, pm, cdv, ct, rfl, lk, hcd, hD, hK⟩ := F.ex
  rcases hD with ⟨_, rfl⟩ | ⟨e, _⟩
  · exact ⟨[], .nil, fun s us rest ws _ h1 h2 M A Q E z => by rw [List.append_nil] at z; rw [h kV doc pm cdv ct an us rest ws h1 h2]; exact z⟩
  · exact absurd rfl e
/-- a def's promise, whatever its binding makes -/
def FnB (P : Program) (w : World) (K : PySem.W.Frag) (mg : Str → Option Value) (base : Heap) (CX : CXT) (k : Nat) (f : Addr) (fd : FuncData) (ps : List Str) (sp : Sp) : Prop :=
  ∀ (A : Around) (outer : List Env) (s : Shared) (H : Hp) (args : Args) (Q : VK) (E : XK), Room k A → Env0 P w K mg base A outer s H → StX.Bnd CX P w K mg base fd args ps A outer s H E (fun vs H2 => sp vs H2 Q E) →
    codeAny (model P w) A (.call (.ref f) args) (CR CX outer P w H s Q E) s
theorem FnB.mono {P : Program} {w : World} {K : PySem.W.Frag} {mg : Str → Option Value} {base : Heap} {CX : CXT} {j k : Nat} {f : Addr} {fd : FuncData} {ps : List Str} {sp : Sp} (h : FnB P w K mg base CX j f fd ps sp) (hj : j ≤ k) : FnB P w K mg base CX k f fd ps sp :=
  fun A outer s H args Q E hr => h A outer s H args Q E (hr.mono hj)
theorem fun_okB {P : Program} {w : World} {K : PySem.W.Frag} {mg : Str → Option Value} {base : Heap} {CX : CXT} {k : Nat} {x qual : Str} {params : Arguments} {body : List Stmt} {scope : Scope} {dvs : List V} {kws : List (Str × V)} {f : Addr} {fd : FuncData} {N ps : List Str} {sp : Sp}
    (F : FunD K x qual params body scope dvs kws f fd) (Sc : FnScope N ps scope)
    (hbody : ∀ (cdv : Value) (A : Around) (outer : List Env) (s : Shared) (H : Hp) (vs : List V) (Q : VK) (E : XK), Room k (A.deeper (envOfC qual scope s.heap.objs.size f cdv)) → sp vs H Q E →
      ∃ t, PSs (cxOf CX P w K mg base N qual scope f cdv A outer s H E) body t ∧ t { nx := fun _ H' => Q .non H', rt := Q } (L2.start N vs) H) : FnB P w K mg base CX (k + 1) f fd ps sp := by
  obtain ⟨⟨oc, od, dV, kV, doc, pm, an, cdv, ct, osl, rfl, lk, hcd, _, _⟩, _⟩ := F
  exact fun A outer s H args Q E hr e0 hb => StX.run_bnd lk hcd Sc hr e0 hb fun s2 H2 vs g hr' => hbody cdv A outer s2 H2 vs Q E hr' g
structure FnS (P : Program) (w : World) (K : PySem.W.Frag) (mg : Str → Option Value) (base : Heap) (d : He.DefD) (f : Addr) (k : Nat) (ps : List Str) (F : FXp) : Prop where
  ex : ∃ fd cl, FG K d.name d.qual d.params d.body d.scope cl (d.dvs K) (d.kws K) f fd ∧ FnB P w K mg base (L2.CX P w) k f fd ps (spX K F)
structure IniS (P : Program) (w : World) (K : PySem.W.Frag) (mg : Str → Option Value) (base : Heap) (d : He.DefD) (C f : Addr) (k : Nat) (ps : List Str) (F : FXp) : Prop where
  ex : ∃ fd cl, FG K d.name d.qual d.params d.body d.scope cl (d.dvs K) (d.kws K) f fd ∧ FnB P w K mg base (L2.CX P w) k f fd ps (spIniX K C F)
section
variable {P : Program} {w : World} {K : PySem.W.Frag} {mg : Str → Option Value} {base : Heap} {d : He.DefD} {C f : Addr} {j k : Nat} {N ps : List Str} {F F' : FXp} {g : EXT → GS}
theorem FnS.mono (h : FnS P w K mg base d f j ps F) (hj : j ≤ k) : FnS P w K mg base d f k ps F := by
  obtain ⟨fd, cl, hf, hk⟩ := h
  exact ⟨fd, cl, hf, hk.mono hj⟩
theorem fns_ok (hf : ∃ fd, FunD K d.name d.qual d.params d.body d.scope (d.dvs K) (d.kws K) f fd) (Sc : FnScope N ps d.scope)
    (hbody : ∀ (EX : EXT) (cdv : Value) (A : Around) (outer : List Env) (s : Shared) (H : Hp) (E : XK), Room k (A.deeper (envOfC d.qual d.scope s.heap.objs.size f cdv)) → VSs (cxOf (L2.CX P w) P w K mg base N d.qual d.scope f cdv A outer s H E) EX d.body (g EX))
    (spec : ∀ svs Qs Qx, F svs Qs Qx → g ⟨fun C fs _ => Qx C fs, TL0⟩ { nx := fun _ => Qs (.tr .non), rt := Qs } (startS N svs)) : FnS P w K mg base d f (k + 1) ps F := by
  obtain ⟨fd, hf⟩ := hf
  refine ⟨fd, [], .of hf, fun_okB hf Sc fun cdv A outer s H vs Q E hr h => ?_⟩
  obtain ⟨G, svs, Qs, Qx, ok, r, ha, h, z, zx⟩ := h
  have tk : Lk (cxOf (L2.CX P w) P w K mg base N d.qual d.scope f cdv A outer s H E) ⟨fun C fs _ => Qx C fs, TL0⟩ G H :=
    ⟨(takes_of rfl rfl rfl rfl).imp fun cls d σ H' ⟨G', S, C, dx, fs, ws, e1, e2, R, e3, e4, q⟩ => zx _ _ _ ⟨C, dx, fs, ws, G', e1, e2, R.ext, e3, e4, q⟩, ok.2, thk0⟩
  refine ⟨TSV G H (g _), (hbody _ cdv A outer s H E hr).pss _ _ tk, ?_⟩
  refine ⟨_, startS N svs, _, Rel.start ok.1 r ha, spec svs Qs Qx h, fun σ' H' G' S' R' _ q => ?_, fun v H' G' sv E' r' ir q => z v H' G' sv E' r' ir q, fun σ' H' G' S' R' _ q => q.elim, fun σ' H' G' S' R' _ q => q.elim⟩
  exact z .non H' G' (.tr .non) R'.ext rfl trivial q
theorem inis_ok (hf : ∃ fd, FunD K d.name d.qual d.params d.body d.scope (d.dvs K) (d.kws K) f fd) (Sc : FnScope N ps d.scope)
    (hbody : ∀ (EX : EXT) (cdv : Value) (A : Around) (outer : List Env) (s : Shared) (H : Hp) (E : XK), Room k (A.deeper (envOfC d.qual d.scope s.heap.objs.size f cdv)) → VSs (cxOf (L2.CX P w) P w K mg base N d.qual d.scope f cdv A outer s H E) EX d.body (g EX))
    (spec : ∀ xa svs Qs Qx, F svs Qs Qx → g ⟨fun C fs _ => Qx C fs, TL0⟩ (iniE C xa Qs) (startS N (.obj xa C [] :: svs))) : IniS P w K mg base d C f (k + 1) ps F := by
  obtain ⟨fd, hf⟩ := hf
  refine ⟨fd, [], .of hf, fun_okB hf Sc fun cdv A outer s H vs Q E hr h => ?_⟩
  obtain ⟨G, H1, xa, dx, vs', svs, Qs, Qx, eH, hx, hd, hne, ok, ev, r, ha, hF, z, zx⟩ := h
  have tk : Lk (cxOf (L2.CX P w) P w K mg base N d.qual d.scope f cdv A outer s H E) ⟨fun C fs _ => Qx C fs, TL0⟩ G H1 :=
    ⟨(takes_of rfl rfl rfl rfl).imp fun cls d σ H' ⟨G', S, C, dx, fs, ws, e1, e2, R, e3, e4, q⟩ => zx _ _ _ ⟨C, dx, fs, ws, G', e1, e2, R.ext, e3, e4, q⟩, ok.2, thk0⟩
  refine ⟨TSV G H1 (g _), (hbody _ cdv A outer s H E hr).pss _ _ tk, ?_⟩
  subst eH ev
  refine ⟨G, _, _, Rel.startI (N := N) ok.1 hx hd hne r ha, spec xa svs Qs Qx hF, fun σ' H' G' S' R' _ q => ?_, fun v H' G' sv E' r' ir q => q.elim, fun σ' H' G' S' R' _ q => q.elim, fun σ' H' G' S' R' _ q => q.elim⟩
  obtain ⟨fs, e0, q⟩ := q
  obtain ⟨v, ev, rv⟩ := R'.slot 0 _ e0
  have e1 : v = .ref xa := by
    obtain ⟨a, _, _, e, _, _, _, _, _, _, hq⟩ := rv
    rw [e, hq]
  rw [e1] at rv
  exact z H' G' fs R'.ext rv q
/-- such a binding -/
theorem bnd_star {CX : CXT} {fd : FuncData} {args : Args} {A : Around} {outer : List Env} {s : Shared} {H : Hp} {E : XK} {pv : Str} {us rest : List Value} {vs rs : List V} {Z : List V → Hp → Prop} (hC : StX.CXUp CX) (e0 : Env0 P w K mg base A outer s H) (hb : BindsStar s fd args (ps.zip us) pv rest)
    (rv : Vals vs us) (rr : Vals rs rest) (hl : vs.length = ps.length) (hz : rs.length ≤ sizeLine) (hZ : ∀ p, H p = none → Z (vs ++ [.ref p]) (upd H p (.tup rs))) : StX.Bnd CX P w K mg base fd args (ps ++ [pv]) A outer s H E Z := by
  intro A' Ex Q h
  have hn : H s.heap.objs.size = none := e0.hok.fresh (Nat.le_refl _)
  refine hb _ _ _ _ (wpAny_bind (wpAny_newTuple (wpAny_pure ?_) (by rw [← rr.length]; exact hz)))
  have un := StX.un_laid (fs := frs outer) (s := s) (o := ({ cls := .type "tuple", data := .seq rest.toArray } : Obj)) (u := .tup rs) hn
  have new : ObjOk P w (upd H s.heap.objs.size (.tup rs)) (s.heap.push ({ cls := .type "tuple", data := .seq rest.toArray } : Obj)) s.heap.objs.size (.tup rs) := ⟨hz, rest, rr, _, Heap.get?_push_size _ rfl, rfl, _, rfl⟩
  have z := h _ _ (vs ++ [V.ref s.heap.objs.size]) (us ++ [Value.ref s.heap.objs.size]) (StX.env0_laid e0 new) un rfl (fun e s' => hC outer s H _ _ E e s' un (fun b o q => Heap.get?_push_of_some _ q) rfl)
    (rv.append (.cons rfl .nil)) (by simp [hl]) (hZ _ hn)
  rw [List.zip_append (by rw [← hl, rv.length])] at z
  exact z
end
theorem arg_id {svs : List SV} (h : ∀ sv ∈ svs, sv.isArg) : svs.map SV.arg = svs := by
  induction svs with
  | nil => rfl
  | cons sv svs ih =>
    rw [List.map_cons, ih fun s hs => h s (List.mem_cons_of_mem _ hs)]
    have := h sv (List.mem_cons_self ..)
    cases sv <;> first | rfl | exact this.elim
theorem upd_comm {H : Hp} {a b : Addr} {x y : HO} (h : a ≠ b) : upd (upd H a x) b y = upd (upd H b y) a x := by
  funext c
  unfold upd
  by_cases h1 : c = b
  · subst h1
    simp [h.symm]
  · simp [h1]
section
variable {X : Cx} {EX : EXT} {G0 G : Gh} {H0 H : Hp} {pins : List (Addr × Obj)} {σ : L2.St} {S : S} {s : Shared} {k n : Nat} {f C : Addr} {fd : FuncData} {ps ks : List Str} {pv : Str} {F : FXp} {vs rs : List V} {us rest ws : List Value} {svs : List SV} {ds : List D} {Qs : SV → Prop} {Qx : XP} {Q : VK} {E : XK}
theorem spX_star (ok : OkG G H) (hT : G.T = TabsOf X.K) (rl : RepL H H G H vs svs) (ha : ∀ sv ∈ svs, sv.isArg) (rd : reps G.F ds rs) (hF : F (svs ++ [.tr (.tup ds)]) Qs Qx)
    (kq : ∀ v H' G' sv, Ext G H G' H' → RepV H H G' H' v sv → sv.isRet → Qs sv → Q v H') (kx : ∀ cls d H', XOf G H Qx cls d H' → E cls d H') (p : Addr) (hp : H p = none) : spX X.K F (vs ++ [.ref p]) (upd H p (.tup rs)) Q E := by
  have Ex := ext_frz ok hp (.tup rs)
  have r1 := (rl.ext Ex).toArg.1
  rw [arg_id ha] at r1
  have rt : rep (upd G.F p (.tup rs)) (.tup ds) (.ref p) := ⟨p, rs, rfl, .inl upd_same, reps.mono Ex.frz _ _ rd⟩
  refine ⟨_, _, Qs, Qx, ⟨Ex.ok, Ex.tt.trans hT⟩, r1.append (.cons (sv := .tr (.tup ds)) rt .nil fun _ o => o.elim) ha, fun sv h => ?_, hF, fun v H' G' sv E' r' ir q => kq v H' G' sv (Ex.trans E') (RepV.call (fun b z => Ex.dom z) ir r') ir q, fun cls d H' ⟨C, dx, fs, ws, G', e1, e2, E', z⟩ => kx cls d H' ⟨C, dx, fs, ws, G', e1, e2, Ex.trans E', z⟩⟩
  rcases List.mem_append.mp h with h | h
  · exact ha sv h
  · rw [List.mem_singleton.mp h]
    trivial
theorem run_st {args : Args} (Fn : FnB X.prog X.w X.K X.mg X.base (L2.CX X.prog X.w) k f fd (ps ++ [pv]) (spX X.K F)) (hr : Room k X.A) (tk : Lk X EX G0 H0) (I : Inv X pins σ H s) (R : Rel G0 H0 G H σ S) (rl : RepL H H G H vs svs) (ha : ∀ sv ∈ svs, sv.isArg) (rd : reps G.F ds rs) (hF : F (svs ++ [.tr (.tup ds)]) Qs Qx)
    (hb : BindsStar s fd args (ps.zip us) pv rest) (rv : Vals vs us) (rr : Vals rs rest) (hl : vs.length = ps.length) (hz : rs.length ≤ sizeLine) (kq : ∀ v H' G' sv, Ext G H G' H' → RepV H H G' H' v sv → sv.isRet → Qs sv → Q v H') (kx : ∀ C fs, Qx C fs → EX C fs S) :
    codeAny (model X.prog X.w) X.A (.call (.ref f) args) (fun r s' => match r with | .ok (.ret u) => EP X pins σ Q u s' | .ok _ => False | .error e => X.xe e s') s := by
  refine codeAny_mono (Fn X.A X.stack s H args Q (XOf G H Qx) hr I.env0 (bnd_star StX.cxUp I.env0 hb rv rr hl hz (spX_star R.ok (tk.tt R (.refl R.ok)) rl ha rd hF kq fun _ _ _ z => z))) fun r s' hq => ?_
  cases r with
  | error e => exact tk.takes e s' (XE.of_call I (xof_take tk R kx) hq)
  | ok fl =>
    cases fl with
    | ret u => exact I.after hq
    | next => exact False.elim hq
    | brk => exact False.elim hq
    | cont => exact False.elim hq
theorem run_sx (M : Mk X.K C f) (Fn : FnB X.prog X.w X.K X.mg X.base (L2.CX X.prog X.w) k f fd (ps ++ [pv]) (spIniX X.K C F)) (hr : Room (k + 1) X.A) (tk : Lk X EX G0 H0) (I : Inv X pins σ H s) (R : Rel G0 H0 G H σ S) (rl : RepL H H G H vs svs) (ha : ∀ sv ∈ svs, sv.isArg) (rd : reps G.F ds rs) (hF : F (svs ++ [.tr (.tup ds)]) Qs Qx) {us' : List Value}
    (hb : ∀ u, BindsStar { s with heap := (s.heap.push PySem.W.emptyDict).push (PySem.W.instObj C s.heap.objs.size) } fd ⟨u :: us, ks.zip ws⟩ (ps.zip (u :: us')) pv rest) (rv : Vals vs us') (rr : Vals rs rest) (hl : vs.length + 1 = ps.length) (hz : rs.length ≤ sizeLine)
    (kq : ∀ v H' G' sv, Ext G H G' H' → RepV H H G' H' v sv → sv.isRet → Qs sv → Q v H') (kx : ∀ C fs, Qx C fs → EX C fs S) :
    wpAny (model X.prog X.w) X.A (call (.ref C) us (ks.zip ws)) (EP X pins σ Q) X.xe s := by
  have hx : H (s.heap.objs.size + 1) = none := I.hok.fresh (Nat.le_succ _)
  have hd : H s.heap.objs.size = none := I.hok.fresh (Nat.le_refl _)
  have hne : s.heap.objs.size ≠ s.heap.objs.size + 1 := Nat.ne_of_lt (Nat.lt_succ_self _)
  have I2 := Inv.made (C := C) I
  refine wpAny_call (make_map (f := f) I.kIn M.makes M.init (beq_iff_eq.mp M.fn) (codeAny_mono (Fn _ X.stack _ _ ⟨Value.ref (s.heap.objs.size + 1) :: us, ks.zip ws⟩ (fun v H2 => v = .non ∧ Q (.ref (s.heap.objs.size + 1)) H2) (XOf G H Qx) (hr.make C us (ks.zip ws)) (I2.env0.make C us (ks.zip ws))
    (bnd_star StX.cxUp (I2.env0.make C us (ks.zip ws)) (hb _) (vs := V.ref (s.heap.objs.size + 1) :: vs) (.cons rfl rv) rr (by rw [List.length_cons]; exact hl) hz fun p hp => ?_)) fun r s' hq' => ?_))
  · have n1 : p ≠ s.heap.objs.size + 1 := fun z => by rw [z, upd_same] at hp; cases hp
    have n2 : p ≠ s.heap.objs.size := fun z => by rw [z, upd_ne hne, upd_same] at hp; cases hp
    have hp1 : H p = none := by rw [upd_ne n1, upd_ne n2] at hp; exact hp
    have Ex := ext_frz R.ok hp1 (.tup rs)
    have r1 := (rl.ext Ex).toArg.1
    rw [arg_id ha] at r1
    have rt : rep (upd G.F p (.tup rs)) (.tup ds) (.ref p) := ⟨p, rs, rfl, .inl upd_same, reps.mono Ex.frz _ _ rd⟩
    have r3 : RepL (upd H p (.tup rs)) (upd H p (.tup rs)) ⟨upd G.F p (.tup rs), G.pb, G.T⟩ (upd H p (.tup rs)) (vs ++ [.ref p]) (svs ++ [.tr (.tup ds)]) := r1.append (.cons (sv := .tr (.tup ds)) rt .nil fun _ o => o.elim) ha
    refine ⟨_, upd H p (.tup rs), _, s.heap.objs.size, vs ++ [.ref p], _, Qs, Qx, ?_, by rw [upd_ne (Ne.symm n1)]; exact hx, by rw [upd_ne (Ne.symm n2)]; exact hd, hne, ⟨Ex.ok, Ex.tt.trans (tk.tt R (.refl R.ok))⟩, rfl, r3, fun sv h => ?_, hF, fun H' G' fs E' r' q' => ⟨rfl, ?_⟩, fun cls d H' ⟨C, dx, fs, ws, G', e1, e2, E', z⟩ => ⟨C, dx, fs, ws, G', e1, e2, Ex.trans E', z⟩⟩
    · rw [upd_comm n1.symm, upd_comm n2.symm]
    · rcases List.mem_append.mp h with h | h
      · exact ha sv h
      · rw [List.mem_singleton.mp h]
        trivial
    · obtain ⟨G2, E2, _, r2⟩ := obj_freeze E' r'
      exact kq _ H' G2 (.tr (.ins C (frzF fs))) (Ex.trans E2) r2 trivial q'
  cases r with
  | error e =>
    exact tk.takes e s' (XE.of_call I2 (fun cls d H' ⟨C', dx, fs, ws, G', e1, e2, E', e3, e4, q⟩ => ⟨G', S, C', dx, fs, ws, e1, e2, R.go E', e3, e4, kx C' fs q⟩) hq')
  | ok fl =>
    cases fl with
    | ret u =>
      obtain ⟨v, H', I3, rv, ev, q3⟩ := I2.after hq'
      subst ev
      exact ⟨rv, ⟨V.ref (s.heap.objs.size + 1), H', I3, rfl, q3⟩⟩
    | next => exact False.elim hq'
    | brk => exact False.elim hq'
    | cont => exact False.elim hq'
end
end VT

/-! calls of defs with a star parameter -/
namespace VT
open PySem PySem.Spec PyProof.Rows L2
theorem RepL.take {H0 Hs H : Hp} {G : Gh} : ∀ {vs : List V} {svs : List SV} (n : Nat), RepL H0 Hs G H vs svs → RepL H0 Hs G H (vs.take n) (svs.take n)
  | _, _, 0, _ => .nil
  | _, _, n + 1, .nil => .nil
  | _, _, n + 1, .cons (vs := vs) (svs := svs) r t no => .cons r (RepL.take n t) fun b o1 o2 => no b o1 (own_take n o2)
where
  own_take {H : Hp} {b : Addr} : ∀ {vs : List V} {svs : List SV} (n : Nat), OwnsL H (vs.take n) (svs.take n) b → OwnsL H vs svs b
    | [], _, n, o => by cases n <;> exact False.elim o
    | _ :: _, [], n, o => by cases n <;> exact o.elim
    | _ :: _, _ :: _, 0, o => o.elim
    | _ :: vs, _ :: svs, n + 1, o => o.imp id fun o => own_take n o
theorem RepL.drop {H0 Hs H : Hp} {G : Gh} : ∀ {vs : List V} {svs : List SV} (n : Nat), RepL H0 Hs G H vs svs → RepL H0 Hs G H (vs.drop n) (svs.drop n)
  | _, _, 0, r => r
  | _, _, n + 1, .nil => .nil
  | _, _, n + 1, .cons _ t _ => RepL.drop n t
/-- what a def with a star parameter is given: n arguments, the rest a tuple -/
def starA (n : Nat) (ix : List Nat) (dd : List D) (svs kvs : List SV) (P : List SV → Prop) : Prop := n ≤ svs.length ∧ onTrs (svs.drop n) fun ds => ds.length ≤ sizeLine ∧ P (arr ix ((svs.take n).map SV.arg ++ kvs.map SV.arg ++ dd.map SV.tr) ++ [.tr (.tup ds)])
@[simp] theorem starA_eq (n : Nat) (ix : List Nat) (dd : List D) (svs kvs : List SV) (P : List SV → Prop) : starA n ix dd svs kvs P = (n ≤ svs.length ∧ onTrs (svs.drop n) fun ds => ds.length ≤ sizeLine ∧ P (arr ix ((svs.take n).map SV.arg ++ kvs.map SV.arg ++ dd.map SV.tr) ++ [.tr (.tup ds)])) := rfl
structure MAltS (X : Cx) (m : Str) (k n : Nat) (ks : List Str) (ix : List Nat) (dd : List D) (C : Addr) (F : FXp) : Prop where
  cls : Cls X.K C
  ex : ∃ f d ps pv dvs, Meth X.K C m f ∧ FnS X.prog X.w X.K X.mg X.base d f k (ps ++ [pv]) F ∧ (∀ fd cl, FG X.K d.name d.qual d.params d.body d.scope cl (d.dvs X.K) (d.kws X.K) f fd → KBs X.K fd ps pv (n + 1) ks (0 :: ix.map (· + 1)) dvs) ∧ Wrs (TabsOf X.K) dd dvs ∧ ps.length = ix.length + 1 ∧ ∀ i ∈ ix, i < n + ks.length + dd.length
def gMS (EX : EXT) (m : Str) (alts : List (Addr × FXp)) (n l : Nat) (ix : List Nat) (dd : List D) (go : GE) (ga gk : GA) : GE := fun S Q => go S fun so => ∃ C fs F, so.ins? = some (C, fs) ∧ (C, F) ∈ alts ∧ fs.lookup m = none ∧
  ga S fun svs => gk S fun kvs => kvs.length = l ∧ starA n ix dd svs kvs fun as => F (so.arg :: as) Q fun C fs => EX C fs S
@[simp] theorem gMS_eq (EX : EXT) (m : Str) (alts : List (Addr × FXp)) (n l : Nat) (ix : List Nat) (dd : List D) (go : GE) (ga gk : GA) (S : S) (Q : SV → Prop) : gMS EX m alts n l ix dd go ga gk S Q = go S fun so => ∃ C fs F, so.ins? = some (C, fs) ∧ (C, F) ∈ alts ∧ fs.lookup m = none ∧
  ga S fun svs => gk S fun kvs => kvs.length = l ∧ starA n ix dd svs kvs fun as => F (so.arg :: as) Q fun C fs => EX C fs S := rfl
theorem arr_len {α : Type} {l : List α} : ∀ {ix : List Nat}, (∀ i ∈ ix, i < l.length) → (arr ix l).length = ix.length
  | [], _ => rfl
  | i :: ix, h => by
    have hi := h i (List.mem_cons_self ..)
    have := arr_len (l := l) (ix := ix) fun j hj => h j (List.mem_cons_of_mem _ hj)
    unfold arr at this ⊢
    rw [List.filterMap_cons, List.getElem?_eq_getElem hi]
    simp [this]
theorem Wrs.len {T : TBL} : ∀ {ds : List D} {vs : List V}, Wrs T ds vs → vs.length = ds.length
  | _, _, .nil => rfl
  | _, _, .cons _ t => by rw [List.length_cons, List.length_cons, t.len]
  | _, _, .tup _ t => by rw [List.length_cons, List.length_cons, t.len]
section
variable {X : Cx} {EX : EXT} {G0 G G1 G2 : Gh} {H0 H H1 H2 : Hp} {k n : Nat} {f C : Addr} {ps ks : List Str} {F : FXp} {dd : List D} {dvs : List V} {x m : Str} {p pos apos : Pos} {e o : Expr} {es : List Expr} {ga gk : GA} {go : GE} {kws : List Keyword} {ix : List Nat} {d : He.DefD} {alts : List (Addr × FXp)} {vs zs : List V} {svs kvs : List SV} {P : List SV → Prop}
/-- the arguments and the rest -/
theorem star_at (hw : Wrs (TabsOf X.K) dd dvs) (hT : G2.T = TabsOf X.K) (E2 : Ext G1 H1 G2 H2) (r1 : RepL H0 H G1 H1 vs svs) (r2 : RepL H0 H1 G2 H2 zs kvs) (h : starA n ix dd svs kvs P) :
    ∃ ds, RepL H2 H2 G2 H2 (arr ix (vs.take n ++ zs ++ dvs)) (arr ix ((svs.take n).map SV.arg ++ kvs.map SV.arg ++ dd.map SV.tr)) ∧ (∀ sv ∈ arr ix ((svs.take n).map SV.arg ++ kvs.map SV.arg ++ dd.map SV.tr), sv.isArg) ∧ reps G2.F ds (vs.drop n) ∧ (vs.drop n).length ≤ sizeLine ∧ n ≤ vs.length ∧ P (arr ix ((svs.take n).map SV.arg ++ kvs.map SV.arg ++ dd.map SV.tr) ++ [.tr (.tup ds)]) := by
  obtain ⟨hn, h⟩ := h
  obtain ⟨ds, rd, hz, hP⟩ := onTrs_of ((r1.ext E2).drop n) h
  obtain ⟨c1, c2⟩ := args_at (ix := ix) hw hT E2 (r1.take n) r2
  exact ⟨ds, c1, c2, rd, by rw [rd.length]; exact hz, by rw [r1.length]; exact hn, hP⟩
theorem ve_ms {pl : Sem Bool} (hal : ∀ C F, (C, F) ∈ alts → MAltS X m k n ks ix dd C F) (hr : Room k X.A) (ho : VE X EX o go) (ha : VA X EX (e :: es) ga) (hkw : VKw X EX kws gk) (hall : (backToKw pos (keywordEach kws X.env)).all (·.1.isSome) = true := by rfl)
    (hks : (backToKw pos (keywordEach kws X.env)).filterMap (·.1) = ks := by rfl) (he : starEach (e :: es) X.env = (false, eval e X.env) :: starEach es X.env := by rfl)
    (hpl : ((backTo pos (starEach (e :: es) X.env)).any (·.1) || (backToKw pos (keywordEach kws X.env)).any (·.1.isNone)) = false := by rfl)
    (ht : eval (.Call (.Attribute o m apos) (e :: es) kws pos) X.env = (do
      let ov ← eval o X.env
      standAt apos.atName
      let (f, first) ← holding [ov] (getMethod ov m pl)
      callWith pos f first (backTo pos (starEach (e :: es) X.env)) (backToKw pos (keywordEach kws X.env))) := by rfl) :
    VE X EX (.Call (.Attribute o m apos) (e :: es) kws pos) (gMS EX m alts n ks.length ix dd go ga gk) := by
  refine ⟨fun G0 H0 tk => ⟨fun pins s σ H Q I h => ?_⟩⟩
  obtain ⟨G, S, Qs, R, q, kq⟩ := h
  refine PySem.W.methodCall_KW (pl := pl) (thn ((ho.pe G0 H0 tk).run pins s σ H (fun v H1 => ∃ G1 so, Ext G H G1 H1 ∧ RepV H0 H G1 H1 v so ∧ ∃ C fs F, so.ins? = some (C, fs) ∧ (C, F) ∈ alts ∧ fs.lookup m = none ∧
    ga S fun svs => gk S fun kvs => kvs.length = ks.length ∧ starA n ix dd svs kvs fun as => F (so.arg :: as) Qs fun C fs => EX C fs S) I ⟨G, S, _, R, q, fun v H1 G1 so E1 r1 q1 => ⟨G1, so, E1, r1, q1⟩⟩) fun u s1 ⟨v, H1, I1, rv1, Ga, so, Ea, ra, C, fs, F, hi, hA, hn, q1⟩ => ?_) ht
  obtain ⟨hc, f, d, ps, pv, dvs, hmt, Fn, hb, hw, hlp, hix⟩ := hal C F hA
  obtain ⟨fd, cl, hf, hF⟩ := Fn.ex
  obtain ⟨mv, rd, hto⟩ := (hb fd cl hf).to
  obtain ⟨a, dx, wf, ev, ea, hl⟩ := ra.insNone Ea.ok hi hn
  subst ev
  obtain rfl : u = Value.ref a := rv1
  refine getmeth_ok I1 ea hc hmt hl ?_
  refine args_run (first := [.ref a]) (keepsK hmt.kp) ha hkw hall hks he hpl tk I1 (R.go Ea) q1 fun us ws vs zs svs kvs G1 G2 H1' H2 s2 E1 r1 E2 r2 ⟨l2, q2⟩ I2 rv rz => ⟨I2.kIn, ?_⟩
  obtain ⟨ds, c1, c2, rr, hz, hn2, q2⟩ := star_at hw (tk.tt R (Ea.trans (E1.trans E2))) E2 r1 r2 q2
  obtain ⟨e1, e2⟩ := self_at ra (E1.trans E2) c1 c2
  have lu : us.length = vs.length := rv.length.symm
  have h3 := hto s2 (.ref a :: us.take n) (us.drop n) ws I2.kIn (by rw [List.length_cons, List.length_take, lu]; omega) (rz.length.symm.trans (r2.length.trans l2))
  rw [show (Value.ref a :: us.take n) ++ us.drop n = Value.ref a :: us by rw [List.cons_append, List.take_append_drop], show (Value.ref a :: us.take n) ++ ws ++ mv = Value.ref a :: (us.take n ++ ws ++ mv) from rfl, arr_self] at h3
  have h4 : (arr ix (vs.take n ++ zs ++ dvs)).length = ix.length := arr_len fun i hi => by
    have := hix i hi
    rw [List.length_append, List.length_append, List.length_take, hw.len, r2.length, l2]
    omega
  exact call_of_code (run_st hF hr tk I2 (((R.go Ea).go E1).go E2) e1 e2 rr q2 h3 (.cons rfl (vals_arr ix (((rv.take n).append rz).append rd))) (rv.drop n) (by rw [List.length_cons, h4, hlp]) hz (kq_call R (Ea.trans (E1.trans E2)) kq) fun _ _ z => z)
theorem ve_ms0 {pl : Sem Bool} (hal : ∀ C F, (C, F) ∈ alts → MAltS X m k 0 ks ix dd C F) (hr : Room k X.A) (ho : VE X EX o go) (hkw : VKw X EX kws gk) (hall : (backToKw pos (keywordEach kws X.env)).all (·.1.isSome) = true := by rfl)
    (hks : (backToKw pos (keywordEach kws X.env)).filterMap (·.1) = ks := by rfl)
    (hpl : ((backTo pos (starEach [] X.env)).any (·.1) || (backToKw pos (keywordEach kws X.env)).any (·.1.isNone)) = false := by rfl)
    (ht : eval (.Call (.Attribute o m apos) [] kws pos) X.env = (do
      let ov ← eval o X.env
      standAt apos.atName
      let (f, first) ← holding [ov] (getMethod ov m pl)
      callWith pos f first (backTo pos (starEach [] X.env)) (backToKw pos (keywordEach kws X.env))) := by rfl) :
    VE X EX (.Call (.Attribute o m apos) [] kws pos) (gMS EX m alts 0 ks.length ix dd go gaNil gk) := by
  refine ⟨fun G0 H0 tk => ⟨fun pins s σ H Q I h => ?_⟩⟩
  obtain ⟨G, S, Qs, R, q, kq⟩ := h
  refine PySem.W.methodCall_KW (pl := pl) (thn ((ho.pe G0 H0 tk).run pins s σ H (fun v H1 => ∃ G1 so, Ext G H G1 H1 ∧ RepV H0 H G1 H1 v so ∧ ∃ C fs F, so.ins? = some (C, fs) ∧ (C, F) ∈ alts ∧ fs.lookup m = none ∧
    gaNil S fun svs => gk S fun kvs => kvs.length = ks.length ∧ starA 0 ix dd svs kvs fun as => F (so.arg :: as) Qs fun C fs => EX C fs S) I ⟨G, S, _, R, q, fun v H1 G1 so E1 r1 q1 => ⟨G1, so, E1, r1, q1⟩⟩) fun u s1 ⟨v, H1, I1, rv1, Ga, so, Ea, ra, C, fs, F, hi, hA, hn, q1⟩ => ?_) ht
  obtain ⟨hc, f, d, ps, pv, dvs, hmt, Fn, hb, hw, hlp, hix⟩ := hal C F hA
  obtain ⟨fd, cl, hf, hF⟩ := Fn.ex
  obtain ⟨mv, rd, hto⟩ := (hb fd cl hf).to
  obtain ⟨a, dx, wf, ev, ea, hl⟩ := ra.insNone Ea.ok hi hn
  subst ev
  obtain rfl : u = Value.ref a := rv1
  refine getmeth_ok I1 ea hc hmt hl ?_
  refine args_run0 (first := [.ref a]) (Z := fun svs kvs => kvs.length = ks.length ∧ starA 0 ix dd svs kvs fun as => F (so.arg :: as) Qs fun C fs => EX C fs S) (keepsK hmt.kp) hkw hall hks hpl tk I1 (R.go Ea) q1 fun ws zs kvs G2 H2 s2 E2 r2 ⟨l2, q2⟩ I2 rz => ⟨I2.kIn, ?_⟩
  obtain ⟨ds, c1, c2, rr, hz, hn2, q2⟩ := star_at (vs := []) (svs := []) (H := H1) hw (tk.tt R (Ea.trans E2)) E2 .nil r2 q2
  obtain ⟨e1, e2⟩ := self_at ra E2 c1 c2
  have h3 := hto s2 [.ref a] [] ws I2.kIn rfl (rz.length.symm.trans (r2.length.trans l2))
  rw [show [Value.ref a] ++ ws ++ mv = Value.ref a :: ([] ++ ws ++ mv) from rfl, arr_self] at h3
  have h4 : (arr ix (([] : List V).take 0 ++ zs ++ dvs)).length = ix.length := arr_len fun i hi => by
    have := hix i hi
    rw [List.length_append, List.length_append, hw.len, r2.length, l2]
    simp
    omega
  exact call_of_code (run_st hF hr tk I2 ((R.go Ea).go E2) e1 e2 rr q2 h3 (.cons rfl (vals_arr ix ((Vals.append (xs := []) (us := []) .nil rz).append rd))) .nil (by rw [List.length_cons, h4, hlp]) hz (kq_call R (Ea.trans E2) kq) fun _ _ z => z)
theorem alt1S {C : Addr} {F : FXp} (h : MAltS X m k n ks ix dd C F) : ∀ C' F', (C', F') ∈ [(C, F)] → MAltS X m k n ks ix dd C' F' := fun C' F' hx => by
  cases List.mem_singleton.mp hx
  exact h
end
end VT

/-! where the running def is known: super() in own classes -/
namespace VT
open PySem PySem.Spec PyProof.Rows L2
structure PAA (X : Cx) (c : List Stmt) (es : List Expr) (t : TA) : Prop where
  run : ∀ (pos : Pos) (pins : List (Addr × Obj)) (s : Shared) (σ : L2.St) (H : Hp) (Q : List V → Hp → Prop), Inv X pins σ H s → t σ H Q → PySem.wpAt (model X.prog X.w) X.A (.func c X.env) (spliced (backTo pos (starEach es X.env))) (AP X pins σ Q) X.xe s
structure VEA (X : Cx) (c : List Stmt) (EX : EXT) (e : Expr) (g : GE) : Prop where
  pe : ∀ G0 H0, Lk X EX G0 H0 → PEA X c e (TV G0 H0 g)
structure VAA (X : Cx) (c : List Stmt) (EX : EXT) (es : List Expr) (g : GA) : Prop where
  pa : ∀ G0 H0, Lk X EX G0 H0 → PAA X c es (TAV G0 H0 g)
structure VSA (X : Cx) (c : List Stmt) (EX : EXT) (st : Stmt) (g : GS) : Prop where
  ps : ∀ G0 H0, Lk X EX G0 H0 → PSA X c st (TSV G0 H0 g)
structure VSsA (X : Cx) (c : List Stmt) (EX : EXT) (sts : List Stmt) (g : GS) : Prop where
  pss : ∀ G0 H0, Lk X EX G0 H0 → PSsA X c sts (TSV G0 H0 g)
section
variable {X : Cx} {c : List Stmt} {EX : EXT} {e : Expr} {es : List Expr} {st : Stmt} {sts : List Stmt} {g g' : GS} {ge : GE} {ga : GA} {p pos : Pos}
theorem peaMono {t t' : TE} (h : PEA X c e t) (k : ∀ σ H Q, t' σ H Q → t σ H Q) : PEA X c e t' := ⟨fun pins s σ H Q I q => h.run pins s σ H Q I (k σ H Q q)⟩
theorem paaMono {t t' : TA} (h : PAA X c es t) (k : ∀ σ H Q, t' σ H Q → t σ H Q) : PAA X c es t' := ⟨fun pos pins s σ H Q I q => h.run pos pins s σ H Q I (k σ H Q q)⟩
theorem psaMono {t t' : TS} (h : PSA X c st t) (k : ∀ D σ H, t' D σ H → t D σ H) : PSA X c st t' := ⟨fun pins s σ H D I q => h.run pins s σ H D I (k D σ H q)⟩
theorem pssaMono {t t' : TS} (h : PSsA X c sts t) (k : ∀ D σ H, t' D σ H → t D σ H) : PSsA X c sts t' := ⟨fun pins s σ H D I q => h.run pins s σ H D I (k D σ H q)⟩
theorem vea_of (h : VE X EX e ge) : VEA X c EX e ge := ⟨fun G0 H0 tk => pea_of (h.pe G0 H0 tk)⟩
theorem vsa_of (h : VS X EX st g) : VSA X c EX st g := ⟨fun G0 H0 tk => psa_of (h.ps G0 H0 tk)⟩
theorem vssa_of (h : VSs X EX sts g) : VSsA X c EX sts g := ⟨fun G0 H0 tk => pssa_of (h.pss G0 H0 tk)⟩
theorem vssa_cons (h1 : VSA X c EX st g) (h2 : VSsA X c EX sts g') : VSsA X c EX (st :: sts) (gSeq g g') :=
  ⟨fun G0 H0 tk => pssaMono (pssa_cons (h1.ps G0 H0 tk) (h2.pss G0 H0 tk)) fun D σ H ⟨G, S, DV, R, q, k⟩ => ⟨G, S, _, R, q, fun σ' H' G' S' R' m q' => ⟨G', S', DV, R', q', k.go m⟩, k.rt, k.bk, k.ct⟩⟩
theorem vssa_one (h : VSA X c EX st g) : VSsA X c EX [st] g := by
  refine ⟨fun G0 H0 tk => ⟨fun pins s σ H D I q => ks_wpAt_execs_cons (ks_wpAt_mono ((h.ps G0 H0 tk).run pins s σ H D I q) (fun fl s' hs => ?_) fun _ _ z => z)⟩⟩
  cases fl with
  | next =>
    obtain ⟨σ', H', J, z⟩ := hs
    exact PySem.wpAt_of_wpAny ((pss_nil (X := X)).run pins s' σ' H' D J z)
  | ret _ => exact hs
  | brk => exact hs
  | cont => exact hs
theorem vsa_ret (he : VEA X c EX e ge) : VSA X c EX (.Return (some e) pos) (gRet ge) :=
  ⟨fun G0 H0 tk => psaMono (psa_ret (he.pe G0 H0 tk)) fun D σ H ⟨G, S, DV, R, q, k⟩ => ⟨G, S, _, R, q, fun v H1 G1 sv E1 r1 q1 => k.rt v H1 G1 sv (R.ext.trans E1) (r1.back fun _ z => R.ext.dom z) q1.1 q1.2⟩⟩
/-! ### displays -/
theorem paa_of {t : TA} (h : PA X es t) : PAA X c es t := ⟨fun pos pins s σ H Q I q => PySem.wpAt_of_wpAny (h.run pos pins s σ H Q I q)⟩
theorem at_cons {M : Model} {A : Around} {E : Value → Shared → Prop} {s : Shared} {k : Code} {x : Sem Value} {rest : List (Bool × Sem Value)} {Q : List Value → Shared → Prop} (h : PySem.wpAt M A k x (fun v s1 => PySem.wpAt M A k (spliced rest) (fun vs s2 => Q (v :: vs) s2) E s1) E s) :
    PySem.wpAt M A k (spliced ((false, x) :: rest)) Q E s := by
  rw [spliced]
  refine PySem.wpAt_bind (ks_wpAt_mono h (fun v s1 h1 => ?_) fun _ _ z => z)
  simp only [Bool.false_eq_true, if_false]
  refine PySem.wpAt_bind (PySem.wpAt_of_wpAny (wpAny_pure (PySem.wpAt_bind (ks_wpAt_holding (ks_wpAt_mono h1 (fun vs s2 h2 => PySem.wpAt_of_wpAny (wpAny_pure h2)) fun _ _ z => z)))))
theorem vaa_cons (he : VE X EX e ge) (hr : VAA X c EX es ga) (hs : starEach (e :: es) X.env = (false, eval e X.env) :: starEach es X.env := by rfl) : VAA X c EX (e :: es) (gaCons ge ga) := by
  refine ⟨fun G0 H0 tk => ⟨fun pos pins s σ H Q I ⟨G, S, Qs, R, q, k⟩ => ?_⟩⟩
  rw [hs]
  refine at_cons (rest := backTo pos (starEach es X.env)) (ks_wpAt_mono (PySem.wpAt_of_wpAny ((he.pe G0 H0 tk).run pins s σ H (fun v H1 => ∃ G1 sv, Ext G H G1 H1 ∧ RepV H0 H G1 H1 v sv ∧ ga S fun svs => Qs (sv :: svs)) I ⟨G, S, _, R, q, fun v H1 G1 sv E1 r1 q1 => ⟨G1, sv, E1, r1, q1⟩⟩)) (fun u s1 ⟨v, H1, I1, rv, G1, sv, E1, r1, q1⟩ => ?_) fun _ _ z => z)
  refine ks_wpAt_mono ((hr.pa G0 H0 tk).run pos pins s1 σ H1 (fun vs H2 => ∃ G2 svs, Ext G1 H1 G2 H2 ∧ RepL H0 H1 G2 H2 vs svs ∧ Qs (sv :: svs)) I1 ⟨G1, S, _, R.go E1, q1, fun vs H2 G2 svs E2 r2 q2 => ⟨G2, svs, E2, r2, q2⟩⟩) (fun us s2 ⟨vs, H2, I2, rvs, G2, svs, E2, r2, q2⟩ => ?_) fun _ _ z => z
  exact ⟨v :: vs, H2, I2, .cons rv rvs, k _ _ _ _ (E1.trans E2) (RepL.cons' (fun _ z => E1.dom z) E2 r1 r2) q2⟩
theorem at_star {M : Model} {A : Around} {E : Value → Shared → Prop} {s : Shared} {k : Code} {x : Sem Value} {Q : List Value → Shared → Prop} (h : PySem.wpAt M A k x (fun v s1 => PySem.W.StarOf M A E v (fun vs s2 => Q vs s2) s1) E s) :
    PySem.wpAt M A k (spliced (backTo pos [(true, x)])) Q E s := by
  show PySem.wpAt M A k (spliced [(true, (do let v ← x; standAt pos; pure v))]) Q E s
  rw [spliced]
  refine PySem.wpAt_bind (PySem.wpAt_bind (ks_wpAt_mono h (fun v s1 z => PySem.wpAt_bind (PySem.wpAt_of_wpAny (wpAny_standAt (PySem.wpAt_of_wpAny (wpAny_pure (PySem.wpAt_of_wpAny ?_)))))) fun _ _ z => z))
  unfold PySem.W.StarOf at z
  refine wpAny_bind (wpAny_mono z (fun b s2 h2 => ?_) fun _ _ z => z)
  obtain ⟨rfl, h2⟩ := h2
  have y := wpAny_mono h2 (fun us s3 h3 => (wpAny_bind (wpAny_holding (Calls.spliced_nil (wpAny_pure (by rw [List.append_nil]; exact h3)))) : wpAny M A (holding us (spliced []) >>= fun r => pure (us ++ r)) Q E s3)) fun _ _ z => z
  try simp only [Bool.false_eq_true, if_false]
  first
    | exact y
    | exact wpAny_bind y
    | exact wpAny_bind (wpAny_pure y)
theorem vaa_star (he : VEA X c EX e ge) (hs : starEach [.Starred e p] X.env = [(true, eval e X.env)] := by rfl) : VAA X c EX [.Starred e p] (gaStar ge gaNil) := by
  refine ⟨fun G0 H0 tk => ⟨fun pos pins s σ H Q I ⟨G, S, Qs, R, q, k⟩ => ?_⟩⟩
  rw [hs]
  refine at_star (ks_wpAt_mono ((he.pe G0 H0 tk).run pins s σ H (fun v H1 => ∃ G1 sv, Ext G H G1 H1 ∧ RepV H0 H G1 H1 v sv ∧ ∃ ds, (sv.d = .lst ds ∨ sv.d = .tup ds) ∧ Qs (ds.map SV.tr)) I ⟨G, S, _, R, q, fun v H1 G1 sv E1 r1 q2 => ?_⟩) (fun u s1 ⟨v, H1, I1, rv, G1, sv, E1, r1, ds, hd, q1⟩ => ?_) fun _ _ z => z)
  · obtain ⟨ds, hd, q1⟩ := q2
    exact ⟨G1, sv, E1, r1, ds, hd, by simpa [gaNil] using q1⟩
  · obtain ⟨a, ws, rfl, ea, rw_⟩ := r1.seq (K := X.K) E1.ok hd
    obtain rfl : u = Value.ref a := rv
    exact StX.star_any I1 ea fun us s' I2 r2 => ⟨ws, H1, I2, r2, k _ _ _ _ E1 (repl_trs rw_) q1⟩
theorem vea_tup {x1} (h : VAA X c EX es ga) : VEA X c EX (.Tuple es x1 pos) (gTup ga) := by
  refine ⟨fun G0 H0 tk => ⟨fun pins s σ H Q I ⟨G, S, Qs, R, q, k⟩ => ?_⟩⟩
  rw [arm_eval_Tuple]
  refine PySem.wpAt_bind (PySem.wpAt_of_wpAny (wpAny_standAt (PySem.wpAt_bind (ks_wpAt_mono ((h.pa G0 H0 tk).run pos pins s σ H (fun vs H1 => ∃ G1 svs, Ext G H G1 H1 ∧ RepL H0 H G1 H1 vs svs ∧ onTrs svs fun ds => ds.length ≤ sizeLine ∧ Qs (.tr (.tup ds))) I ⟨G, S, _, R, q, fun vs H1 G1 svs E1 r1 q1 => ⟨G1, svs, E1, r1, q1⟩⟩) (fun us s1 ⟨vs, H1, I1, rv, G1, svs, E1, r1, q1⟩ => PySem.wpAt_of_wpAny ?_) fun _ _ z => z))))
  obtain ⟨ds, r2, hz, q2⟩ := onTrs_of r1 q1
  have hz2 : vs.length ≤ sizeLine := by rw [r2.length]; exact hz
  have hf : H1 s1.heap.objs.size = none := I1.hok.fresh (Nat.le_refl _)
  refine wpAny_newTuple ⟨.ref s1.heap.objs.size, upd H1 s1.heap.objs.size (.tup vs), I1.laid (t' := s1.toks) (fun b u e => Heap.get?_push_of_some _ e) (Nat.le_refl _) ⟨hz2, us, rv, ⟨_, Heap.get?_push_size _ rfl, rfl, _, rfl⟩⟩, rfl, kq_tup (kq_back E1 k) E1.ok hf r2 q2⟩ (by rw [← rv.length]; exact hz2)
end
end VT

/-! an own object under way is handed to another def; super() -/
namespace VT
open PySem PySem.Spec PyProof.Rows L2
/-! ### the frame while its object is away -/
section
variable {G0 G G' : Gh} {H0 H H' Hb : Hp} {σ : L2.St} {S : S} {i : Nat} {v : V} {x C dx : Addr} {fs fs' : List (Str × FV)} {ws : List (Str × V)}
theorem Rel.off {L : Addr → Prop} (R : Rel G0 H0 G H σ S) (E : Ext G0 H0 G H') (off : ∀ b, ¬ L b → H' b = H b) (hL : ∀ b, L b → H0 b = none) (no : ∀ (i : Nat) (sv : SV) (v : V) (b : Addr), S[i]? = some (some sv) → σ[i]? = some (some v) → Owns H v sv b → ¬ L b) : Rel G0 H0 G H' σ S := by
  have old : ∀ b, H0 b ≠ none → H' b = H b := fun b h => off b fun z => h (hL b z)
  have back : ∀ (i : Nat) (sv : SV) (v : V) (b : Addr), S[i]? = some (some sv) → σ[i]? = some (some v) → Owns H' v sv b → Owns H v sv b := fun i sv v b e1 e2 o => by
    obtain ⟨u, e6, r6⟩ := R.slot i sv e1
    rw [e2] at e6
    cases e6
    exact o.at r6 fun b ob => off b (no i sv v b e1 e2 ob)
  refine ⟨E, R.len, fun j sw ej => ?_, fun j l sj sl u w b hjl e2 e3 e4 e5 o1 o2 => R.sep j l sj sl u w b hjl e2 e3 e4 e5 (back _ _ _ _ e2 e4 o1) (back _ _ _ _ e3 e5 o2), R.nopk⟩
  obtain ⟨u, e6, r6⟩ := R.slot j sw ej
  refine ⟨u, e6, ?_⟩
  have keep : ∀ b, Owns H u sw b → Mine H0 G b ∧ H' b = H b := fun b ob => ⟨(r6.owns ob).1, off b (no j sw u b ej e6 ob)⟩
  have okj := R.nopk j sw ej
  cases sw with
  | tr d' => exact r6
  | exc a' C d fs => exact r6
  | tz ds => exact r6
  | fn f => exact r6
  | own d' => exact r6.at (fun _ => nofun) (fun _ => nofun) nofun (fun _ _ => nofun) (fun _ _ => nofun) (fun _ _ z => z) keep
  | obj q C fs => exact r6.at (fun _ => nofun) (fun _ => nofun) nofun (fun _ _ => nofun) (fun _ _ => nofun) (fun _ _ z => z) keep
  | brw d' =>
    obtain ⟨b, rfl, q1, q2, q3⟩ := r6
    exact ⟨b, rfl, q1, q2, q3.at (fun _ _ z => z) (old b q1)⟩
  | pk d' => exact okj.elim
  | bag => exact r6
  | pob C fs => exact okj.elim
  | bob C fs =>
    obtain ⟨b, dx, ws, q1, q2, q3, q4, q5⟩ := r6
    exact ⟨b, dx, ws, q1, q2, (old b q2).trans q3, q4, q5.off fun b h u hu => (old b h).trans hu⟩
/-- the heap without the places in L -/
def outH (L : List Addr) (H : Hp) : Hp := fun b => if b ∈ L then none else H b
theorem outH_in {L : List Addr} {b : Addr} (h : b ∈ L) : outH L H b = none := if_pos h
theorem outH_off {L : List Addr} {b : Addr} (h : b ∉ L) : outH L H b = H b := if_neg h
theorem ext_out {L : List Addr} (E : Ext G0 H0 G H) (h0 : ∀ b ∈ L, Mine H0 G b ∧ There H b) : Ext G0 H0 G (outH L H) := by
  have nb : ∀ b o, G.F b = some o → b ∉ L := fun b o e z => by rw [(h0 b z).1.2.1] at e; cases e
  have np : ∀ b, G.pb = some b → b ∉ L := fun b e z => (h0 b z).1.2.2 e
  have n0 : ∀ b, H0 b ≠ none → b ∉ L := fun b e z => e (h0 b z).1.1
  have nt : ∀ b ps, H b = some (.tbl ps) → b ∉ L := fun b ps e z => by
    obtain ⟨o, e2, n⟩ := (h0 b z).2
    rw [e] at e2
    exact n ps (Option.some.inj e2).symm
  refine ⟨⟨fun b o e => by rw [outH_off (nb b o e)]; exact E.ok.sub b o e, fun p e => ⟨(E.ok.bag p e).1.go (fun o q => by rw [outH_off (np p e)]; exact q) fun _ _ z => z, (E.ok.bag p e).2⟩, E.ok.tabs.ext (fun _ _ z => z) (fun b ps e => by rw [outH_off (nt b ps e)]; exact e) fun _ _ n _ => n⟩,
    fun b o e q n => ?_, fun b ps e => ?_, E.tt, E.pb, E.pnew, E.frz, E.new⟩
  · rw [outH_off (n0 b (by rw [e]; nofun))]
    exact E.same b o e q n
  · obtain ⟨ps', z⟩ := E.tbl b ps e
    exact ⟨ps', by rw [outH_off (n0 b (by rw [e]; nofun))]; exact z⟩
theorem ext_in {L : List Addr} (E : Ext G0 H0 G H) (h0 : ∀ b ∈ L, Mine H0 G b ∧ There H b) : Ext G (outH L H) G H := by
  have un : ∀ b o, outH L H b = some o → b ∉ L ∧ H b = some o := fun b o e => by
    by_cases h : b ∈ L
    · rw [outH_in h] at e; cases e
    · rw [outH_off h] at e; exact ⟨h, e⟩
  exact ⟨E.ok, fun b o e _ _ => (un b o e).2, fun b ps e => ⟨ps, (un b _ e).2⟩, rfl, fun _ z => z, fun _ z => .inl z, fun _ _ z => z, fun _ _ z => .inl z⟩
/-- the object's places -/
theorem obj_out (R : Rel G0 H0 G H σ S) (e : S[i]? = some (some (.obj x C fs))) : ∃ L, (∀ b ∈ L, Mine H0 G b ∧ There H b) ∧ σ[i]? = some (some (.ref x)) ∧ RepV (outH L H) (outH L H) G H (.ref x) (.obj x C fs) ∧ (∃ dx ws, H x = some (.ins C dx ws)) ∧ Rel G0 H0 G (outH L H) (σ.set i none) (S.set i none) := by
  obtain ⟨v, ev, r⟩ := R.slot i _ e
  have r0 := r
  obtain ⟨a, dx, ws, rfl, ea, ed, ma, md, nd, rf, rfl⟩ := r
  have hm : ∀ b ∈ a :: dx :: adrs fs ws, Mine H0 G b ∧ There H b := fun b hb => r0.owns ⟨a, dx, ws, rfl, ea, by simpa using hb⟩
  refine ⟨a :: dx :: adrs fs ws, hm, ev, ⟨a, dx, ws, rfl, ea, ed, ⟨outH_in (by simp), ma.2⟩, ⟨outH_in (by simp), md.2⟩, nd, rf.at (fun _ _ z => z) fun b hb => ⟨⟨outH_in (by simp [hb]), (hm b (by simp [hb])).1.2⟩, rfl⟩, rfl⟩, ⟨dx, ws, ea⟩, ?_⟩
  refine (R.forget i).off (L := fun b => b ∈ a :: dx :: adrs fs ws) (ext_out R.ext hm) (fun b hb => outH_off hb) (fun b hb => (hm b hb).1.1) fun j sv v b e1 e2 ob hb => ?_
  rcases set_slot e1 with ⟨rfl, e1, _⟩ | ⟨hne, e1⟩
  · cases e1
  · rw [List.getElem?_set_ne hne] at e2
    exact R.sep i j _ sv (.ref a) v b hne e e1 ev e2 ⟨a, dx, ws, rfl, ea, by simpa using hb⟩ ob
/-- it is back, changed -/
theorem obj_back (R : Rel G0 H0 G Hb (σ.set i none) (S.set i none)) (ev : σ[i]? = some (some (.ref x))) (E : Ext G Hb G' H') (r : RepV Hb Hb G' H' (.ref x) (.obj x C fs')) : Rel G0 H0 G' H' σ (S.set i (some (.obj x C fs'))) := by
  have r2 : RepV H0 Hb G' H' (.ref x) (.obj x C fs') := r
  have z := R.setE E i r2 trivial
  rw [List.set_set, List.set_set] at z
  have e2 : σ.set i (some (.ref x)) = σ := by
    have hi := (List.getElem?_eq_some_iff.mp ev).1
    have hv := (List.getElem?_eq_some_iff.mp ev).2
    rw [← hv]
    exact List.set_getElem_self hi
  rwa [e2] at z
end
end VT

/-! super(): of a frozen object, of an object under way -/
namespace VT
open PySem PySem.Spec PyProof.Rows L2
/-- what super().m finds for an object of the class at C, in a def of the class at D -/
structure SupM (K : PySem.W.Frag) (D C : Addr) (m : Str) (f : Addr) : Prop where
  sub : PySem.W.mroIn K C (.ref D) = some true
  at_ : PySem.W.ks_superIn K C D m = some (some (.ref f))
  ty : PySem.W.typeIn K (.ref f) = some (.type "function")
  fi : PySem.W.fnIn K f = true
def supmB (x y m z : Str) (K : PySem.W.Frag) : Bool := decide (PySem.W.mroIn K (He.ga K y) (.ref (He.ga K x)) = some true) && (decide (PySem.W.ks_superIn K (He.ga K y) (He.ga K x) m = some (some (.ref (He.fAd K (z, some m))))) &&
  (decide (PySem.W.typeIn K (.ref (He.fAd K (z, some m))) = some (.type "function")) && PySem.W.fnIn K (He.fAd K (z, some m))))
theorem supmB_ok {x y m z : Str} {K : PySem.W.Frag} (h : supmB x y m z K = true) : SupM K (He.ga K x) (He.ga K y) m (He.fAd K (z, some m)) := by
  unfold supmB at h
  simp only [Bool.and_eq_true, decide_eq_true_eq] at h
  exact ⟨h.1, h.2.1, h.2.2.1, h.2.2.2⟩
section
variable {X : Cx} {EX : EXT} {c : List Stmt} {pins : List (Addr × Obj)} {σ : L2.St} {H : Hp} {s : Shared} {k n : Nat} {D C x so f : Addr} {self m : Str} {A : Around} {Ex : Value → Shared → Prop} {p0 p1 apos pos : Pos} {e : Expr} {es : List Expr} {kws : List Keyword} {ks : List Str} {ix : List Nat} {dd : List VT.D} {ga gk : GA} {alts : List (Addr × FXp)}
theorem getmeth_sup {pl : Sem Bool} {Q : Value × List Value → Shared → Prop} (T : SupX X D self) (k : SupM X.K D C m f) {dx : Addr} {ws : List (Str × V)} (I : Inv X ((so, PySem.W.ks_superObj D x C) :: pins) σ H s) (ea : H x = some (.ins C dx ws)) (hn : (m == ("__class__" : Str)) = false)
    (h : ∀ q s', Inv X ((q, PySem.W.methodObj (.ref f) (.ref x)) :: (so, PySem.W.ks_superObj D x C) :: pins) σ H s' → Q (.ref q, []) s') : wpAny (model X.prog X.w) A (getMethod (.ref so) m pl) Q Ex s := by
  have hu := ClX.pin_at I
  obtain ⟨ox, od, J⟩ := inst_at I ea
  obtain ⟨hh, g, d, t, os⟩ := s
  have hm := k.at_
  cases hc : PySem.W.clsIn X.K C with
  | none => unfold PySem.W.ks_superIn at hm; rw [hc] at hm; cases hm
  | some cd =>
    unfold PySem.W.ks_superIn at hm
    rw [hc] at hm
    obtain ⟨of, hof, hofc⟩ : ∃ of, hh.get? f = some of ∧ of.cls = .type "function" := by
      have ht' : (X.K.lookup f).map (·.cls) = some (.type "function") := k.ty
      cases z : X.K.lookup f with
      | none => rw [z] at ht'; cases ht'
      | some of => rw [z] at ht'; exact ⟨of, I.kIn _ _ z, Option.some.inj ht'⟩
    refine ks_wpAny_getMethod_super hu (PySem.W.looks_opaque I.kIn T.opq) (l₀ := cd.mro) ?_ rfl I.kIn hm hof hofc (PySem.W.ks_ne I.kIn J hc) hn ?_
    · exact fun A Q E s k q => wpAny_bind ((PySem.W.looks_clsIn I.kIn hc) A _ E s k (wpAny_pure q))
    · exact h _ _ (ClX.pin_new (t' := t + 1) (o := PySem.W.methodObj (.ref f) (.ref x)) (h' := hh.push (PySem.W.methodObj (.ref f) (.ref x))) I (fun b o z => Heap.get?_push_of_some _ z) (Nat.le_refl _) (Heap.get?_push_at rfl rfl) (fun v z => by cases z))
/-- o.m(.., k=..) where the code is known -/
theorem at_mcall {o : Expr} {pl : Sem Bool} {Q : Value → Shared → Prop} {E : Value → Shared → Prop} {env : Env} {M : Model} {kc : Code} (h : PySem.wpAt M A kc (attributeBase o m env (eval o env)) (fun ov s1 => wpAny M A (getMethod ov m pl) (fun fx s2 => wpAny M A (callWith pos fx.1 fx.2 (backTo pos (starEach es env)) (backToKw pos (keywordEach kws env))) Q E s2) E s1) E s)
    (he : eval (.Call (.Attribute o m apos) es kws pos) env = (do
      let ov ← attributeBase o m env (eval o env)
      standAt apos.atName
      let (f, first) ← holding [ov] (getMethod ov m pl)
      callWith pos f first (backTo pos (starEach es env)) (backToKw pos (keywordEach kws env)))) : PySem.wpAt M A kc (eval (.Call (.Attribute o m apos) es kws pos) env) Q E s := by
  rw [he]
  refine PySem.wpAt_bind (ks_wpAt_mono h (fun ov s1 h1 => PySem.wpAt_of_wpAny (wpAny_bind (wpAny_standAt (wpAny_bind (wpAny_holding (wpAny_mono h1 (fun fx s2 h2 => ?_) fun _ _ z => z)))))) fun _ _ z => z)
  exact h2
/-! ### super().m(..) of a frozen object -/
structure SupAlt (X : Cx) (D : Addr) (m : Str) (k n : Nat) (ks : List Str) (ix : List Nat) (dd : List VT.D) (C : Addr) (F : FXp) : Prop where
  ex : ∃ f d ps dvs, SupM X.K D C m f ∧ FnX X.prog X.w X.K X.mg X.base d f k ps F ∧ (∀ fd cl, FG X.K d.name d.qual d.params d.body d.scope cl (d.dvs X.K) (d.kws X.K) f fd → KBi X.K fd ps (n + 1) ks (0 :: ix.map (· + 1)) dvs) ∧ Wrs (TabsOf X.K) dd dvs
def gSupV (EX : EXT) (alts : List (Addr × FXp)) (n l : Nat) (ix : List Nat) (dd : List VT.D) (ga gk : GA) : GE := fun S Q => ∃ C fs F, S[0]? = some (some (.tr (.ins C fs))) ∧ (C, F) ∈ alts ∧
  ga S fun svs => gk S fun kvs => svs.length = n ∧ kvs.length = l ∧ F (.tr (.ins C fs) :: arr ix (svs.map SV.arg ++ kvs.map SV.arg ++ dd.map SV.tr)) Q fun C fs => EX C fs S
@[simp] theorem gSupV_eq (EX : EXT) (alts : List (Addr × FXp)) (n l : Nat) (ix : List Nat) (dd : List VT.D) (ga gk : GA) (S : S) (Q : SV → Prop) : gSupV EX alts n l ix dd ga gk S Q = ∃ C fs F, S[0]? = some (some (.tr (.ins C fs))) ∧ (C, F) ∈ alts ∧
  ga S fun svs => gk S fun kvs => svs.length = n ∧ kvs.length = l ∧ F (.tr (.ins C fs) :: arr ix (svs.map SV.arg ++ kvs.map SV.arg ++ dd.map SV.tr)) Q fun C fs => EX C fs S := rfl
theorem salt1U {C : Addr} {F : FXp} (h : SupAlt X D m k n ks ix dd C F) : ∀ C' F', (C', F') ∈ [(C, F)] → SupAlt X D m k n ks ix dd C' F' := fun C' F' hx => by
  cases List.mem_singleton.mp hx
  exact h
theorem vea_sup0 {pl : Sem Bool} (T : SupX X D self) (hal : ∀ C F, (C, F) ∈ alts → SupAlt X D m k 0 ks ix dd C F) (hr : Room k X.A) (hkw : VKw X EX kws gk) (hall : (backToKw pos (keywordEach kws X.env)).all (·.1.isSome) = true := by rfl)
    (hks : (backToKw pos (keywordEach kws X.env)).filterMap (·.1) = ks := by rfl) (hpl : ((backTo pos (starEach [] X.env)).any (·.1) || (backToKw pos (keywordEach kws X.env)).any (·.1.isNone)) = false := by rfl) (hm1 : (m == ("__class__" : Str)) = false := by decide)
    (ht : eval (.Call (.Attribute (.Call (.Name "super" p0) [] [] p1) m apos) [] kws pos) X.env = (do
      let ov ← attributeBase (.Call (.Name "super" p0) [] [] p1) m X.env (eval (.Call (.Name "super" p0) [] [] p1) X.env)
      standAt apos.atName
      let (f, first) ← holding [ov] (getMethod ov m pl)
      callWith pos f first (backTo pos (starEach [] X.env)) (backToKw pos (keywordEach kws X.env))) := by rfl) :
    VEA X c EX (.Call (.Attribute (.Call (.Name "super" p0) [] [] p1) m apos) [] kws pos) (gSupV EX alts 0 ks.length ix dd gaNil gk) := by
  refine ⟨fun G0 H0 tk => ⟨fun pins s σ H Q I h => ?_⟩⟩
  obtain ⟨G, S, Qs, R, ⟨C, fs, F, e0, hA, q⟩, kq⟩ := h
  obtain ⟨f, d, ps, dvs, hS, Fn, hb, hw⟩ := hal C F hA
  obtain ⟨fd, cl, hf, hF⟩ := Fn.ex
  obtain ⟨mv, rd, hto⟩ := (hb fd cl hf).to
  obtain ⟨v, ev, r⟩ := R.slot 0 _ e0
  have r0 := r
  obtain ⟨a, dx, ws, rfl, e1, e2, rf⟩ := r
  have ea := R.ok.sub _ _ e1
  have ho := (I.hok a _ ea).2.2.2.1
  refine at_mcall ?_ ht
  refine sup_base T I ho rfl (fun k z => by cases z) hS.sub ev hm1 fun so s1 I1 _ => ?_
  refine getmeth_sup T hS I1 ea hm1 fun q1 s2 I2 => ?_
  refine args_run0 (first := []) (P := PySem.W.MethP X.K q1 f (.ref a)) (Z := fun svs kvs => svs.length = 0 ∧ kvs.length = ks.length ∧ F (.tr (.ins C fs) :: arr ix (svs.map SV.arg ++ kvs.map SV.arg ++ dd.map SV.tr)) Qs fun C fs => EX C fs S) (PySem.W.keeps_M hS.fi) hkw hall hks hpl tk I2 R q fun us zs kvs G2 H2 s3 E2 r2 ⟨_, l2, q2⟩ I3 rz => ⟨⟨ClX.pin_at I3, I3.kIn⟩, ?_⟩
  obtain ⟨c1, c2⟩ := args_at (ix := ix) (vs := []) (svs := []) (H := H) hw (tk.tt R E2) E2 .nil r2
  obtain ⟨d1, d2⟩ := self_at (H0 := H0) (Ha := H0) (sv := .tr (.ins C fs)) r0 E2 c1 c2
  have h3 := hto s3 [.ref a] us I3.kIn rfl (rz.length.symm.trans (r2.length.trans l2))
  rw [show [Value.ref a] ++ us ++ mv = Value.ref a :: ([] ++ us ++ mv) from rfl, arr_self] at h3
  have h4 := run_cx hF hr tk I3 (R.go E2) d1 d2 q2 h3 (.cons rfl (vals_arr ix ((Vals.append (xs := []) (us := []) .nil rz).append rd))) (kq_call R E2 kq) fun _ _ z => z
  exact wpAny_mono (call_of_code (PySem.W.method_call (ClX.pin_at I3) h4)) (fun u s' z => ClX.unpinE (ClX.unpinE z)) fun _ _ z => z
theorem vea_sup {pl : Sem Bool} (T : SupX X D self) (hal : ∀ C F, (C, F) ∈ alts → SupAlt X D m k n ks ix dd C F) (hr : Room k X.A) (ha : VA X EX (e :: es) ga) (hkw : VKw X EX kws gk) (hall : (backToKw pos (keywordEach kws X.env)).all (·.1.isSome) = true := by rfl)
    (hks : (backToKw pos (keywordEach kws X.env)).filterMap (·.1) = ks := by rfl) (he : starEach (e :: es) X.env = (false, eval e X.env) :: starEach es X.env := by rfl) (hpl : ((backTo pos (starEach (e :: es) X.env)).any (·.1) || (backToKw pos (keywordEach kws X.env)).any (·.1.isNone)) = false := by rfl) (hm1 : (m == ("__class__" : Str)) = false := by decide)
    (ht : eval (.Call (.Attribute (.Call (.Name "super" p0) [] [] p1) m apos) (e :: es) kws pos) X.env = (do
      let ov ← attributeBase (.Call (.Name "super" p0) [] [] p1) m X.env (eval (.Call (.Name "super" p0) [] [] p1) X.env)
      standAt apos.atName
      let (f, first) ← holding [ov] (getMethod ov m pl)
      callWith pos f first (backTo pos (starEach (e :: es) X.env)) (backToKw pos (keywordEach kws X.env))) := by rfl) :
    VEA X c EX (.Call (.Attribute (.Call (.Name "super" p0) [] [] p1) m apos) (e :: es) kws pos) (gSupV EX alts n ks.length ix dd ga gk) := by
  refine ⟨fun G0 H0 tk => ⟨fun pins s σ H Q I h => ?_⟩⟩
  obtain ⟨G, S, Qs, R, ⟨C, fs, F, e0, hA, q⟩, kq⟩ := h
  obtain ⟨f, d, ps, dvs, hS, Fn, hb, hw⟩ := hal C F hA
  obtain ⟨fd, cl, hf, hF⟩ := Fn.ex
  obtain ⟨mv, rd, hto⟩ := (hb fd cl hf).to
  obtain ⟨v, ev, r⟩ := R.slot 0 _ e0
  have r0 := r
  obtain ⟨a, dx, ws, rfl, e1, e2, rf⟩ := r
  have ea := R.ok.sub _ _ e1
  have ho := (I.hok a _ ea).2.2.2.1
  refine at_mcall ?_ ht
  refine sup_base T I ho rfl (fun k z => by cases z) hS.sub ev hm1 fun so s1 I1 _ => ?_
  refine getmeth_sup T hS I1 ea hm1 fun q1 s2 I2 => ?_
  refine args_run (first := []) (P := PySem.W.MethP X.K q1 f (.ref a)) (PySem.W.keeps_M hS.fi) ha hkw hall hks he hpl tk I2 R q fun us ws vs zs svs kvs G1 G2 H1 H2 s3 E1 r1 E2 r2 ⟨l1, l2, q2⟩ I3 rv rz => ⟨⟨ClX.pin_at I3, I3.kIn⟩, ?_⟩
  obtain ⟨c1, c2⟩ := args_at (ix := ix) hw (tk.tt R (E1.trans E2)) E2 r1 r2
  obtain ⟨d1, d2⟩ := self_at (H0 := H0) (Ha := H0) (sv := .tr (.ins C fs)) r0 (E1.trans E2) c1 c2
  have h3 := hto s3 (.ref a :: us) ws I3.kIn (by rw [List.length_cons, rv.length.symm.trans (r1.length.trans l1)]) (rz.length.symm.trans (r2.length.trans l2))
  rw [show (Value.ref a :: us) ++ ws ++ mv = Value.ref a :: (us ++ ws ++ mv) from rfl, arr_self] at h3
  have h4 := run_cx hF hr tk I3 ((R.go E1).go E2) d1 d2 q2 h3 (.cons rfl (vals_arr ix ((rv.append rz).append rd))) (kq_call R (E1.trans E2) kq) fun _ _ z => z
  exact wpAny_mono (call_of_code (PySem.W.method_call (ClX.pin_at I3) h4)) (fun u s' z => ClX.unpinE (ClX.unpinE z)) fun _ _ z => z
end
end VT

/-! defs that say super(); __init__ upon an object under way -/
namespace VT
open PySem PySem.Spec PyProof.Rows L2
/-- what a def with super() (at f, of the class at D) has -/
structure SupD (P : Program) (K : PySem.W.Frag) (mg : Str → Option Value) (d : He.DefD) (f D : Addr) (N ps : List Str) (sf : Str) : Prop where
  fg : ∃ fd, FG K d.name d.qual d.params d.body d.scope [("__class__", ccA K f)] (d.dvs K) (d.kws K) f fd
  sup : SupK P K mg f D
  sc : SupScope N ps d.scope
  hd : ∃ ar, (d.params.posonlyargs ++ d.params.args).head? = some ar ∧ ar.arg = sf
  ks : d.scope.names.lookup ("super" : Str) = some .globalImplicit
  kc : d.scope.names.lookup ("__class__" : Str) = some .free
  ka : d.scope.names.lookup sf = some .local
  n0 : N[0]? = some sf
/-- a promise of what an __init__ makes of an object under way -/
abbrev FUp := Addr → List (Str × FV) → List SV → (List (Str × FV) → Prop) → XP → Prop
def spU (K : PySem.W.Frag) (F : FUp) : Sp := fun vs H Q E => ∃ G Hb x C fs vs' svs Qf Qx, G.T = TabsOf K ∧ Ext G Hb G H ∧ vs = .ref x :: vs' ∧ RepV Hb Hb G H (.ref x) (.obj x C fs) ∧ RepL Hb Hb G H vs' svs ∧ (∀ sv ∈ svs, sv.isArg) ∧ F C fs svs Qf Qx ∧
  (∀ H' G' fs', Ext G Hb G' H' → RepV Hb Hb G' H' (.ref x) (.obj x C fs') → Qf fs' → Q .non H') ∧ ∀ cls d H', XOf G Hb Qx cls d H' → E cls d H'
structure IniU (P : Program) (w : World) (K : PySem.W.Frag) (mg : Str → Option Value) (base : Heap) (d : He.DefD) (f : Addr) (k : Nat) (ps : List Str) (F : FUp) : Prop where
  ex : ∃ fd cl, FG K d.name d.qual d.params d.body d.scope cl (d.dvs K) (d.kws K) f fd ∧ FnOk P w K mg base (L2.CX P w) k f fd ps (spU K F)
/-- what the body of an __init__ must come to -/
abbrev iniU (C xa : Addr) (Qf : List (Str × FV) → Prop) : VEnds := { nx := fun S => ∃ fs, S[0]? = some (some (.obj xa C fs)) ∧ Qf fs, rt := fun _ => False }
section
variable {P : Program} {w : World} {K : PySem.W.Frag} {mg : Str → Option Value} {base : Heap} {d : He.DefD} {C D f : Addr} {j k : Nat} {N ps : List Str} {self : Str} {F : FXp} {FU : FUp} {g : EXT → GS}
theorem IniU.mono (h : IniU P w K mg base d f j ps FU) (hj : j ≤ k) : IniU P w K mg base d f k ps FU := by
  obtain ⟨fd, cl, hf, hk⟩ := h
  exact ⟨fd, cl, hf, hk.mono hj⟩
/-- C(..) by it -/
theorem IniU.ini (h : IniU P w K mg base d f k ps FU) (C : Addr) : IniX P w K mg base d C f k ps (fun svs Q Qx => FU C [] svs (fun fs => Q (.tr (.ins C (frzF fs)))) Qx) := by
  obtain ⟨fd, cl, hf, hk⟩ := h
  refine ⟨fd, cl, hf, hk.imp fun vs H Q E ⟨G, H1, x, dx, vs', svs, Qs, Qx, e1, e2, e3, e4, ok, ev, r, ha, q, z, zx⟩ => ?_⟩
  obtain ⟨E1, ro⟩ := ext_made (C := C) ok.1 e2 e3 e4
  subst e1
  exact ⟨G, H1, x, C, [], vs', svs, _, Qx, ok.2, E1, ev, ro, r.ext E1, ha, q, fun H' G' fs' E' r' q' => z H' G' fs' E' r' q', zx⟩
theorem Rel.startU {G : Gh} {H Hb : Hp} {xa : Addr} {fs : List (Str × FV)} {vs : List V} {svs : List SV} (E : Ext G Hb G H) (ro : RepV Hb Hb G H (.ref xa) (.obj xa C fs)) (r : RepL Hb Hb G H vs svs) (ha : ∀ sv ∈ svs, sv.isArg) :
    Rel G Hb G H (L2.start N (.ref xa :: vs)) (startS N (.obj xa C fs :: svs)) := by
  have hl := r.length
  have gets : ∀ (i : Nat) (sv : SV), (startS N (.obj xa C fs :: svs))[i]? = some (some sv) → (i = 0 ∧ sv = .obj xa C fs) ∨ (∃ j, i = j + 1 ∧ svs[j]? = some sv) := fun i sv e => by
    have e' := start_get e
    cases i with
    | zero => cases e'; exact .inl ⟨rfl, rfl⟩
    | succ j => exact .inr ⟨j, rfl, e'⟩
  refine ⟨E, by simp [startS, L2.start, hl], fun i sv e => ?_, fun i j sv sw v w b hij e1 e2 _ _ o1 o2 => ?_, fun i sv e => ?_⟩
  · rcases gets i sv e with ⟨rfl, rfl⟩ | ⟨j, rfl, e'⟩
    · exact ⟨.ref xa, rfl, ro⟩
    · obtain ⟨v, hv, rv⟩ := r.get e'
      refine ⟨v, ?_, rv⟩
      unfold L2.start
      have hi : j < vs.length := (List.getElem?_eq_some_iff.mp hv).1
      rw [List.getElem?_append_left (by simpa using hi), List.getElem?_map, List.getElem?_cons_succ, hv]
      rfl
  · rcases gets i sv e1 with ⟨rfl, rfl⟩ | ⟨i', rfl, e1'⟩
    · rcases gets j sw e2 with ⟨rfl, rfl⟩ | ⟨j', rfl, e2'⟩
      · exact hij rfl
      · exact (ha _ (List.mem_of_getElem? e2')).none o2
    · exact (ha _ (List.mem_of_getElem? e1')).none o1
  · rcases gets i sv e with ⟨rfl, rfl⟩ | ⟨j, rfl, e'⟩
    · trivial
    · have := ha _ (List.mem_of_getElem? e')
      cases sv <;> first | exact this.elim | trivial
/-- from the body's end to the promise's -/
theorem iniU_end {G : Gh} {Hb H : Hp} {x : Addr} {fs : List (Str × FV)} {vs : List V} {svs : List SV} {Qf : List (Str × FV) → Prop} {Q : VK} {g : GS} (E1 : Ext G Hb G H) (ro : RepV Hb Hb G H (.ref x) (.obj x C fs)) (r : RepL Hb Hb G H vs svs) (ha : ∀ sv ∈ svs, sv.isArg)
    (z : ∀ H' G' fs', Ext G Hb G' H' → RepV Hb Hb G' H' (.ref x) (.obj x C fs') → Qf fs' → Q .non H') (q : g (iniU C x Qf) (startS N (.obj x C fs :: svs))) : TSV G Hb g { nx := fun _ H' => Q .non H', rt := Q } (L2.start N (.ref x :: vs)) H := by
  refine ⟨G, _, _, Rel.startU (N := N) E1 ro r ha, q, fun σ' H' G' S' R' _ q => ?_, fun v H' G' sv E' r' ir q => q.elim, fun σ' H' G' S' R' _ q => q.elim, fun σ' H' G' S' R' _ q => q.elim⟩
  obtain ⟨fs', e0, q⟩ := q
  obtain ⟨v, ev, rv⟩ := R'.slot 0 _ e0
  have e1 : v = .ref x := by
    obtain ⟨a, _, _, e, _, _, _, _, _, _, hq⟩ := rv
    rw [e, hq]
  rw [e1] at rv
  exact z H' G' fs' R'.ext rv q
theorem iniu_ok (hf : ∃ fd, FunD K d.name d.qual d.params d.body d.scope (d.dvs K) (d.kws K) f fd) (Sc : FnScope N ps d.scope)
    (hbody : ∀ (EX : EXT) (cdv : Value) (A : Around) (outer : List Env) (s : Shared) (H : Hp) (E : XK), Room k (A.deeper (envOfC d.qual d.scope s.heap.objs.size f cdv)) → VSs (cxOf (L2.CX P w) P w K mg base N d.qual d.scope f cdv A outer s H E) EX d.body (g EX))
    (len : ∀ C fs svs Qf Qx, FU C fs svs Qf Qx → svs.length + 1 = ps.length) (spec : ∀ C fs xa svs Qf Qx, FU C fs svs Qf Qx → g ⟨fun C fs _ => Qx C fs, TL0⟩ (iniU C xa Qf) (startS N (.obj xa C fs :: svs))) : IniU P w K mg base d f (k + 1) ps FU := by
  obtain ⟨fd, hf⟩ := hf
  refine ⟨fd, [], .of hf, hf.ok Sc (fun vs H Q E ⟨G, Hb, x, C, fs, vs', svs, Qf, Qx, _, _, ev, _, r, _, h, _⟩ => by rw [ev, List.length_cons, r.length]; exact len _ _ _ _ _ h) (fun cdv A outer s H vs Q E hr h => ?_)⟩
  obtain ⟨G, Hb, x, C, fs, vs', svs, Qf, Qx, hT, E1, ev, ro, r, ha, hF, z, zx⟩ := h
  have tk : Lk (cxOf (L2.CX P w) P w K mg base N d.qual d.scope f cdv A outer s H E) ⟨fun C fs _ => Qx C fs, TL0⟩ G Hb :=
    ⟨(takes_of rfl rfl rfl rfl).imp fun cls d σ H' ⟨G', S, C, dx, fs, ws, e1, e2, R, e3, e4, q⟩ => zx _ _ _ ⟨C, dx, fs, ws, G', e1, e2, R.ext, e3, e4, q⟩, hT, thk0⟩
  subst ev
  exact ⟨TSV G Hb (g _), (hbody _ cdv A outer s H E hr).pss _ _ tk, iniU_end E1 ro r ha z (spec C fs x svs Qf Qx hF)⟩
theorem iniu_okS (h : SupD P K mg d f D N ps self)
    (hbody : ∀ (EX : EXT) (cdv : Value) (A : Around) (outer : List Env) (s : Shared) (H : Hp) (E : XK), Room k (A.deeper (envS d.qual d.scope s.heap.objs.size f cdv (ccA K f))) → SupX (cxS (L2.CX P w) P w K mg base N d.qual d.scope f cdv (ccA K f) A outer s H E) D self →
      VSsA (cxS (L2.CX P w) P w K mg base N d.qual d.scope f cdv (ccA K f) A outer s H E) d.body EX d.body (g EX))
    (len : ∀ C fs svs Qf Qx, FU C fs svs Qf Qx → svs.length + 1 = ps.length) (spec : ∀ C fs xa svs Qf Qx, FU C fs svs Qf Qx → g ⟨fun C fs _ => Qx C fs, TL0⟩ (iniU C xa Qf) (startS N (.obj xa C fs :: svs))) : IniU P w K mg base d f (k + 1) ps FU := by
  obtain ⟨fd, hf⟩ := h.fg
  obtain ⟨oc, e1, e2⟩ := h.sup.cell
  refine ⟨fd, _, hf, fn_ofS hf e1 e2 h.sc (fun vs H Q E ⟨G, Hb, x, C, fs, vs', svs, Qf, Qx, _, _, ev, _, r, _, h, _⟩ => by rw [ev, List.length_cons, r.length]; exact len _ _ _ _ _ h) (fun cdv A outer s H vs Q E hc lk hp hcd hr hsp => ?_)⟩
  obtain ⟨G, Hb, x, C, fs, vs', svs, Qf, Qx, hT, E1, ev, ro, r, ha, hF, z, zx⟩ := hsp
  obtain ⟨ar, h1, h2⟩ := h.hd
  have SX : SupX (cxS (L2.CX P w) P w K mg base N d.qual d.scope f cdv (ccA K f) A outer s H E) D self := supx_of h.sup lk hp hcd h1 h2 h.ks h.kc h.ka h.n0
  have tk : Lk (cxS (L2.CX P w) P w K mg base N d.qual d.scope f cdv (ccA K f) A outer s H E) ⟨fun C fs _ => Qx C fs, TL0⟩ G Hb :=
    ⟨(takes_of rfl rfl rfl rfl).imp fun cls d σ H' ⟨G', S, C, dx, fs, ws, e1, e2, R, e3, e4, q⟩ => zx _ _ _ ⟨C, dx, fs, ws, G', e1, e2, R.ext, e3, e4, q⟩, hT, thk0⟩
  subst ev
  exact ⟨TSV G Hb (g _), (hbody _ cdv A outer s H E hr SX).pss _ _ tk, iniU_end E1 ro r ha z (spec C fs x svs Qf Qx hF)⟩
theorem fnx_okS (h : SupD P K mg d f D N ps self)
    (hbody : ∀ (EX : EXT) (cdv : Value) (A : Around) (outer : List Env) (s : Shared) (H : Hp) (E : XK), Room k (A.deeper (envS d.qual d.scope s.heap.objs.size f cdv (ccA K f))) → SupX (cxS (L2.CX P w) P w K mg base N d.qual d.scope f cdv (ccA K f) A outer s H E) D self →
      VSsA (cxS (L2.CX P w) P w K mg base N d.qual d.scope f cdv (ccA K f) A outer s H E) d.body EX d.body (g EX))
    (len : ∀ svs Qs Qx, F svs Qs Qx → svs.length = ps.length) (spec : ∀ svs Qs Qx, F svs Qs Qx → g ⟨fun C fs _ => Qx C fs, TL0⟩ { nx := fun _ => Qs (.tr .non), rt := Qs } (startS N svs)) : FnX P w K mg base d f (k + 1) ps F := by
  obtain ⟨fd, hf⟩ := h.fg
  obtain ⟨oc, e1, e2⟩ := h.sup.cell
  refine ⟨fd, _, hf, fn_ofS hf e1 e2 h.sc (fun vs H Q E ⟨G, svs, Qs, Qx, ok, r, ha, h, z⟩ => r.length.trans (len _ _ _ h)) (fun cdv A outer s H vs Q E hc lk hp hcd hr hsp => ?_)⟩
  obtain ⟨G, svs, Qs, Qx, ok, r, ha, hF, z, zx⟩ := hsp
  obtain ⟨ar, h1, h2⟩ := h.hd
  have SX : SupX (cxS (L2.CX P w) P w K mg base N d.qual d.scope f cdv (ccA K f) A outer s H E) D self := supx_of h.sup lk hp hcd h1 h2 h.ks h.kc h.ka h.n0
  have tk : Lk (cxS (L2.CX P w) P w K mg base N d.qual d.scope f cdv (ccA K f) A outer s H E) ⟨fun C fs _ => Qx C fs, TL0⟩ G H :=
    ⟨(takes_of rfl rfl rfl rfl).imp fun cls d σ H' ⟨G', S, C, dx, fs, ws, e1, e2, R, e3, e4, q⟩ => zx _ _ _ ⟨C, dx, fs, ws, G', e1, e2, R.ext, e3, e4, q⟩, ok.2, thk0⟩
  refine ⟨TSV G H (g _), (hbody _ cdv A outer s H E hr SX).pss _ _ tk, ?_⟩
  refine ⟨_, startS N svs, _, Rel.start ok.1 r ha, spec svs Qs Qx hF, fun σ' H' G' S' R' _ q => ?_, fun v H' G' sv E' r' ir q => z v H' G' sv E' r' ir q, fun σ' H' G' S' R' _ q => q.elim, fun σ' H' G' S' R' _ q => q.elim⟩
  exact z .non H' G' (.tr .non) R'.ext rfl trivial q
end
end VT

/-! super().__init__(..) of an object under way -/
namespace VT
open PySem PySem.Spec PyProof.Rows L2
theorem Rel.keepS {G0 G : Gh} {H0 H : Hp} {σ : L2.St} {S : S} {i : Nat} (R : Rel G0 H0 G H (σ.set i none) (S.set i none)) : Rel G0 H0 G H σ (S.set i none) := by
  have at_ : ∀ (j : Nat) (sv : SV), (S.set i none)[j]? = some (some sv) → (σ.set i none)[j]? = σ[j]? := fun j sv e => by
    rcases set_slot e with ⟨rfl, e, _⟩ | ⟨hne, e⟩
    · cases e
    · rw [List.getElem?_set_ne hne]
  exact ⟨R.ext, by have := R.len; rwa [List.length_set (as := σ)] at this, fun j sv e => by
    obtain ⟨v, e1, r⟩ := R.slot j sv e
    exact ⟨v, by rw [← at_ j sv e]; exact e1, r⟩, fun j l sv sw v w b h e1 e2 e3 e4 => R.sep j l sv sw v w b h e1 e2 (by rw [at_ j sv e1]; exact e3) (by rw [at_ l sw e2]; exact e4), R.nopk⟩
structure SupU (X : Cx) (D : Addr) (k n : Nat) (ks : List Str) (ix : List Nat) (dd : List VT.D) (C : Addr) (F : FUp) : Prop where
  ex : ∃ f d ps dvs, SupM X.K D C "__init__" f ∧ IniU X.prog X.w X.K X.mg X.base d f k ps F ∧ (∀ fd cl, FG X.K d.name d.qual d.params d.body d.scope cl (d.dvs X.K) (d.kws X.K) f fd → KBi X.K fd ps (n + 1) ks (0 :: ix.map (· + 1)) dvs) ∧ Wrs (TabsOf X.K) dd dvs
def gSupI (EX : EXT) (alts : List (Addr × FUp)) (n l : Nat) (ix : List Nat) (dd : List VT.D) (ga gk : GA) : GS := fun D S => ∃ x C fs F, S[0]? = some (some (.obj x C fs)) ∧ (C, F) ∈ alts ∧
  ga S fun svs => gk S fun kvs => svs.length = n ∧ kvs.length = l ∧ onTrs (arr ix (svs.map SV.arg ++ kvs.map SV.arg ++ dd.map SV.tr)) fun ds => F C fs (ds.map SV.tr) (fun fs' => D.nx (S.set 0 (some (.obj x C fs')))) fun C fs => EX C fs (S.set 0 none)
@[simp] theorem gSupI_eq (EX : EXT) (alts : List (Addr × FUp)) (n l : Nat) (ix : List Nat) (dd : List VT.D) (ga gk : GA) (D : VEnds) (S : S) : gSupI EX alts n l ix dd ga gk D S = ∃ x C fs F, S[0]? = some (some (.obj x C fs)) ∧ (C, F) ∈ alts ∧
  ga S fun svs => gk S fun kvs => svs.length = n ∧ kvs.length = l ∧ onTrs (arr ix (svs.map SV.arg ++ kvs.map SV.arg ++ dd.map SV.tr)) fun ds => F C fs (ds.map SV.tr) (fun fs' => D.nx (S.set 0 (some (.obj x C fs')))) fun C fs => EX C fs (S.set 0 none) := rfl
section
variable {X : Cx} {EX : EXT} {c : List Stmt} {k n : Nat} {D : Addr} {self : Str} {p0 p1 apos pos pos2 : Pos} {kws : List Keyword} {ks : List Str} {ix : List Nat} {dd : List VT.D} {gk : GA} {alts : List (Addr × FUp)}
theorem salt1I {C : Addr} {F : FUp} (h : SupU X D k n ks ix dd C F) : ∀ C' F', (C', F') ∈ [(C, F)] → SupU X D k n ks ix dd C' F' := fun C' F' hx => by
  cases List.mem_singleton.mp hx
  exact h
theorem vsa_supi0 {pl : Sem Bool} (T : SupX X D self) (hal : ∀ C F, (C, F) ∈ alts → SupU X D k 0 ks ix dd C F) (hr : Room k X.A) (hkw : VKw X EX kws gk) (hall : (backToKw pos (keywordEach kws X.env)).all (·.1.isSome) = true := by rfl)
    (hks : (backToKw pos (keywordEach kws X.env)).filterMap (·.1) = ks := by rfl) (hpl : ((backTo pos (starEach [] X.env)).any (·.1) || (backToKw pos (keywordEach kws X.env)).any (·.1.isNone)) = false := by rfl)
    (hsw : swapsWith (.Call (.Attribute (.Call (.Name "super" p0) [] [] p1) "__init__" apos) [] kws pos) none pos2.line X.env = pure false := by rfl)
    (ht : eval (.Call (.Attribute (.Call (.Name "super" p0) [] [] p1) "__init__" apos) [] kws pos) X.env = (do
      let ov ← attributeBase (.Call (.Name "super" p0) [] [] p1) "__init__" X.env (eval (.Call (.Name "super" p0) [] [] p1) X.env)
      standAt apos.atName
      let (f, first) ← holding [ov] (getMethod ov "__init__" pl)
      callWith pos f first (backTo pos (starEach [] X.env)) (backToKw pos (keywordEach kws X.env))) := by rfl) :
    VSA X c EX (.Expr (.Call (.Attribute (.Call (.Name "super" p0) [] [] p1) "__init__" apos) [] kws pos) pos2) (gSupI EX alts 0 ks.length ix dd gaNil gk) := by
  refine ⟨fun G0 H0 tk => psaMono (psa_expr (te := fun σ H Q => ∃ (G : Gh) (S : VT.S) (x C : Addr) (fs : List (Str × FV)) (F : FUp) (N : VT.S → Prop), Rel G0 H0 G H σ S ∧ S[0]? = some (some (.obj x C fs)) ∧ (C, F) ∈ alts ∧
    (gk S fun kvs => kvs.length = ks.length ∧ onTrs (arr ix (([] : List SV) ++ kvs.map SV.arg ++ dd.map SV.tr)) fun ds => F C fs (ds.map SV.tr) (fun fs' => N (S.set 0 (some (.obj x C fs')))) fun C fs => EX C fs (S.set 0 none)) ∧
    ∀ H' G' S', Rel G0 H0 G' H' σ S' → Mono G G' → N S' → Q .non H') ⟨fun pins s σ H Q I h => ?_⟩ hsw) fun DD σ H h => ?_⟩
  · obtain ⟨G, S, x, C, fs, F, N, R, e0, hA, q, kN⟩ := h
    obtain ⟨f, d, ps, dvs, hS, Fn, hb, hw⟩ := hal C F hA
    obtain ⟨fd, cl, hf, hF⟩ := Fn.ex
    obtain ⟨mv, rd, hto⟩ := (hb fd cl hf).to
    obtain ⟨_, _, ev, _, ⟨dx, ws, ea⟩, _⟩ := obj_out R e0
    have ho := (I.hok x _ ea).2.2.2.1
    refine at_mcall ?_ ht
    refine sup_base T I ho rfl (fun k z => by cases z) hS.sub ev (by decide) fun so s1 I1 _ => ?_
    refine getmeth_sup T hS I1 ea (by decide) fun q1 s2 I2 => ?_
    refine args_run0 (first := []) (P := PySem.W.MethP X.K q1 f (.ref x)) (Z := fun svs kvs => kvs.length = ks.length ∧ onTrs (arr ix (([] : List SV) ++ kvs.map SV.arg ++ dd.map SV.tr)) fun ds => F C fs (ds.map SV.tr) (fun fs' => N (S.set 0 (some (.obj x C fs')))) fun C fs => EX C fs (S.set 0 none)) (PySem.W.keeps_M hS.fi) hkw hall hks hpl tk I2 R q fun us zs kvs G2 H2 s3 E2 r2 ⟨l2, q2⟩ I3 rz => ⟨⟨ClX.pin_at I3, I3.kIn⟩, ?_⟩
    obtain ⟨c1, c2⟩ := args_at (ix := ix) (vs := []) (svs := []) (H := H) hw (tk.tt R E2) E2 .nil r2
    obtain ⟨L, hm, ev2, ro, _, Rb⟩ := obj_out (R.go E2) e0
    obtain ⟨ds, rds, q3⟩ := onTrs_of c1 q2
    have h3 := hto s3 [.ref x] us I3.kIn rfl (rz.length.symm.trans (r2.length.trans l2))
    rw [show [Value.ref x] ++ us ++ mv = Value.ref x :: ([] ++ us ++ mv) from rfl, arr_self] at h3
    have h4 := codeAny_mono (hF.run X.A X.stack s3 H2 ⟨Value.ref x :: [], ks.zip us⟩ _ (V.ref x :: arr ix (([] : List V) ++ zs ++ dvs)) Q (XOf G2 (outH L H2) fun C fs => EX C fs (S.set 0 none)) hr I3.env0 h3 (.cons rfl (vals_arr ix ((Vals.append (xs := []) (us := []) .nil rz).append rd)))
      ⟨G2, outH L H2, x, C, fs, _, ds.map SV.tr, _, _, tk.tt R E2, ext_in (R.go E2).ext hm, rfl, ro, repl_trs rds, trs_arg ds, q3, fun H' G' fs' E' r' q' => kN H' G' _ (obj_back Rb ev2 E' r') (fun b o z => E'.frz b o (E2.frz b o z)) q', fun _ _ _ z => z⟩) (R' := fun r s' => match r with | .ok (.ret u) => EP X ((q1, PySem.W.methodObj (.ref f) (.ref x)) :: (so, PySem.W.ks_superObj D x C) :: pins) σ Q u s' | .ok _ => False | .error e => X.xe e s') fun r s' hq => ?_
    · exact wpAny_mono (call_of_code (PySem.W.method_call (ClX.pin_at I3) h4)) (fun u s' z => ClX.unpinE (ClX.unpinE z)) fun _ _ z => z
    · cases r with
      | error e =>
        exact tk.takes e s' (XE.of_call I3 (fun cls dd H' ⟨C', dx', fs', ws', G', e1, e2, E', e3, e4, q⟩ => ⟨G', S.set 0 none, C', dx', fs', ws', e1, e2, Rb.keepS.go E', e3, e4, q⟩) hq)
      | ok fl =>
        cases fl with
        | ret u => exact I3.after hq
        | next => exact False.elim hq
        | brk => exact False.elim hq
        | cont => exact False.elim hq
  · obtain ⟨G, S, DV, R, ⟨x, C, fs, F, e0, hA, q⟩, k⟩ := h
    exact ⟨G, S, x, C, fs, F, DV.nx, R, e0, hA, by simpa [gaNil] using q, fun H' G' S' R' m q' => k.nx σ H' G' S' R' m q'⟩
end
end VT

/-! facts: defs that say super(), inherited methods, class constants that are texts; a def with lambdas -/
namespace VT
open PySem PySem.Spec PyProof.Rows L2
/-! ### rows -/
theorem in_nil {α : Type} {P : α → Prop} : ∀ x ∈ ([] : List α), P x := fun _ h => nomatch h
theorem in_cons {α : Type} {P : α → Prop} {a : α} {l : List α} (h : P a) (t : ∀ x ∈ l, P x) : ∀ x ∈ a :: l, P x := fun x hx => by
  rcases List.mem_cons.mp hx with rfl | hx
  · exact h
  · exact t x hx
section
variable {X : Cx} {m : Str} {k n : Nat} {ks : List Str} {ix : List Nat} {dd : List D} {D : Addr}
theorem alt_nil : ∀ C' F', (C', F') ∈ ([] : List (Addr × FXp)) → MAlt X m k n ks ix dd C' F' := fun _ _ h => nomatch h
theorem alt_cons {C : Addr} {F : FXp} {l : List (Addr × FXp)} (h : MAlt X m k n ks ix dd C F) (t : ∀ C' F', (C', F') ∈ l → MAlt X m k n ks ix dd C' F') : ∀ C' F', (C', F') ∈ (C, F) :: l → MAlt X m k n ks ix dd C' F' := fun C' F' hx => by
  rcases List.mem_cons.mp hx with e | hx
  · cases e
    exact h
  · exact t C' F' hx
theorem salt_nil {P : Addr → FXp → Prop} : ∀ C' F', (C', F') ∈ ([] : List (Addr × FXp)) → P C' F' := fun _ _ h => nomatch h
theorem salt_cons {P : Addr → FXp → Prop} {C : Addr} {F : FXp} {l : List (Addr × FXp)} (h : P C F) (t : ∀ C' F', (C', F') ∈ l → P C' F') : ∀ C' F', (C', F') ∈ (C, F) :: l → P C' F' := fun C' F' hx => by
  rcases List.mem_cons.mp hx with e | hx
  · cases e
    exact h
  · exact t C' F' hx
end
/-! ### inherited methods -/
theorem meth_inh {K : PySem.W.Frag} {C f g : Addr} {m : Str} (h : Meth K C m f) (e : decide (f = g) = true) : Meth K C m g := by
  rw [← of_decide_eq_true e]
  exact h
def inhB (x y m : Str) (K : PySem.W.Frag) : Bool := decide (He.ma K (He.ga K x) m = He.ma K (He.ga K y) m)
/-! ### C.f is a text -/
def ClsS (K : PySem.W.Frag) (C : Addr) (f z : Str) : Prop := ∃ t, PySem.W.readsIn K C (.type "type") = true ∧ PySem.W.specialIn K (.ref C) "__getattribute__" = some (some (.builtin "type.__getattribute__")) ∧ PySem.W.findCls K (.ref C) (.type "type") f = some (.val (.str z t)) ∧ okS z
def clssB (x f z : Str) (K : PySem.W.Frag) : Bool := PySem.W.readsIn K (He.ga K x) (.type "type") && (decide (PySem.W.specialIn K (.ref (He.ga K x)) "__getattribute__" = some (some (.builtin "type.__getattribute__"))) && (decide (okS z) &&
  match PySem.W.findCls K (.ref (He.ga K x)) (.type "type") f with
  | some (.val (.str y _)) => decide (y = z)
  | _ => false))
theorem clssB_ok {x f z : Str} {K : PySem.W.Frag} (h : clssB x f z K = true) : ClsS K (He.ga K x) f z := by
  unfold clssB at h
  simp only [Bool.and_eq_true, decide_eq_true_eq] at h
  obtain ⟨h1, h2, h3, h4⟩ := h
  split at h4
  · rename_i y t e
    exact ⟨t, h1, h2, by rw [e, of_decide_eq_true h4], h3⟩
  · cases h4
section
variable {X : Cx} {EX : EXT} {C : Addr} {x f z : Str} {p pos : Pos}
theorem ve_cvalS (hg : Gl X x) (hm : X.mg x = some (.ref C)) (c : ClsS X.K C f z) (hd : (x == ("__debug__" : Str)) = false := by decide) (hb : attributeBase (.Name x p) f X.env (eval (.Name x p) X.env) = eval (.Name x p) X.env := by rfl) : VE X EX (.Attribute (.Name x p) f pos) (gC (.str z)) := by
  obtain ⟨t, h1, h2, h3, h4⟩ := c
  refine ⟨fun G0 H0 tk => peMono (ClX.pe_cval (pe_glob hg hm (v := .ref C) rfl hd) hb) fun σ H Q ⟨G, S, Qs, R, q, k⟩ => ?_⟩
  exact ⟨C, .type "type", .str z, .str z t, rfl, ⟨h1, h2⟩, ⟨h3, ⟨t, rfl⟩⟩, k _ _ G (.tr (.str z)) (.refl R.ok) ⟨rfl, h4⟩ q⟩
end
/-! ### defs that say super(): a look at them -/
structure LksZ where
  l : LksX
  ss : List He.DefD
def LksZ.seen (L : LksZ) (K : PySem.W.Frag) : ((Bool × List He.FnW) × Bool × List He.FnW) × Bool × List He.FnW := (L.l.seen K, L.ss.all (fun d => okA K d (He.fAd K d.at_) && supB L.l.P K (He.fAd K d.at_) (He.ga K d.at_.1)), L.ss.map fun d => fnS K (He.fAd K d.at_))
def LksZ.due (L : LksZ) : ((Bool × List He.FnW) × Bool × List He.FnW) × Bool × List He.FnW := (L.l.due, true, L.ss.map fun d => valS d 0)
def LksZ.Ok (L : LksZ) (K : PySem.W.Frag) : Prop := L.seen K = L.due
theorem LksZ.Ok.lx {L : LksZ} {K : PySem.W.Frag} (c : L.Ok K) : L.l.Ok K := congrArg (fun z : ((Bool × List He.FnW) × Bool × List He.FnW) × Bool × List He.FnW => z.1) c
structure SupOk (P : Program) (K : PySem.W.Frag) (d : He.DefD) : Prop where
  fn : fnS K (He.fAd K d.at_) = valS d 0
  ok : okA K d (He.fAd K d.at_) = true
  sup : supB P K (He.fAd K d.at_) (He.ga K d.at_.1) = true
theorem LksZ.Ok.sup {L : LksZ} {K : PySem.W.Frag} (c : L.Ok K) (i : Nat) {d : He.DefD} (h : L.ss[i]? = some d := by rfl) : SupOk L.l.P K d := by
  have c2 : L.ss.all (fun d => okA K d (He.fAd K d.at_) && supB L.l.P K (He.fAd K d.at_) (He.ga K d.at_.1)) = true := congrArg (fun z : ((Bool × List He.FnW) × Bool × List He.FnW) × Bool × List He.FnW => z.2.1) c
  have c3 : (L.ss.map fun d => fnS K (He.fAd K d.at_)) = L.ss.map fun d => valS d 0 := congrArg (fun z : ((Bool × List He.FnW) × Bool × List He.FnW) × Bool × List He.FnW => z.2.2) c
  have e3 := congrArg (fun l => l[i]?) c3
  simp only [List.getElem?_map, h] at e3
  have e2 := List.all_eq_true.mp c2 d (List.mem_of_getElem? h)
  rw [Bool.and_eq_true] at e2
  exact ⟨Option.some.inj e3, e2.1, e2.2⟩
theorem SupOk.d {P : Program} {K : PySem.W.Frag} {mg : Str → Option Value} {d : He.DefD} {N ps : List Str} {sf : Str} (h : SupOk P K d) (hs : mg "super" = none) (sc : SupScope N ps d.scope) (hd : ∃ ar, (d.params.posonlyargs ++ d.params.args).head? = some ar ∧ ar.arg = sf)
    (ks : d.scope.names.lookup ("super" : Str) = some .globalImplicit) (kc : d.scope.names.lookup ("__class__" : Str) = some .free) (ka : d.scope.names.lookup sf = some .local) (n0 : N[0]? = some sf) : SupD P K mg d (He.fAd K d.at_) (He.ga K d.at_.1) N ps sf :=
  ⟨fgS (fnS_of h.fn) h.ok, ⟨h.sup, hs⟩, sc, hd, ks, kc, ka, n0⟩
/-! ### a def with lambdas, by a promise -/
section
variable {P : Program} {w : World} {K : PySem.W.Frag} {mg : Str → Option Value} {base : Heap} {d : He.DefD} {k : Nat} {N ps : List Str} {F : FXp} {g : Nat → EXT → GS}
theorem fnx_okL (hf : ∃ fd, FunD K d.name d.qual d.params d.body d.scope (d.dvs K) (d.kws K) (He.fAd K d.at_) fd) (Sc : FnScope N ps d.scope)
    (hbody : ∀ (EX : EXT) (cdv : Value) (A : Around) (outer : List Env) (s : Shared) (H : Hp) (E : XK) (n : Nat), s.heap.objs.size = n → cdv = .ref (He.codeOf K d.at_) → Room k (A.deeper (envOfC d.qual d.scope s.heap.objs.size (He.fAd K d.at_) cdv)) →
      VSs (cxOf (L2.CX P w) P w K mg base N d.qual d.scope (He.fAd K d.at_) cdv A outer s H E) EX d.body (g n EX))
    (len : ∀ svs Qs Qx, F svs Qs Qx → svs.length = ps.length) (spec : ∀ n svs Qs Qx, F svs Qs Qx → g n ⟨fun C fs _ => Qx C fs, TL0⟩ { nx := fun _ => Qs (.tr .non), rt := Qs } (startS N svs)) : FnX P w K mg base d (He.fAd K d.at_) (k + 1) ps F := by
  obtain ⟨fd, hf⟩ := hf
  refine ⟨fd, [], .of hf, fun_okC hf Sc (fun vs H Q E ⟨G, svs, Qs, Qx, ok, r, ha, h, z⟩ => r.length.trans (len _ _ _ h)) (fun cdv A outer s H vs Q E hc hr h => ?_)⟩
  obtain ⟨G, svs, Qs, Qx, ok, r, ha, h, z, zx⟩ := h
  have tk : Lk (cxOf (L2.CX P w) P w K mg base N d.qual d.scope (He.fAd K d.at_) cdv A outer s H E) ⟨fun C fs _ => Qx C fs, TL0⟩ G H :=
    ⟨(takes_of rfl rfl rfl rfl).imp fun cls d σ H' ⟨G', S, C, dx, fs, ws, e1, e2, R, e3, e4, q⟩ => zx _ _ _ ⟨C, dx, fs, ws, G', e1, e2, R.ext, e3, e4, q⟩, ok.2, thk0⟩
  refine ⟨TSV G H (g _ _), (hbody _ cdv A outer s H E s.heap.objs.size rfl hc hr).pss _ _ tk, ?_⟩
  refine ⟨_, startS N svs, _, Rel.start ok.1 r ha, spec _ svs Qs Qx h, fun σ' H' G' S' R' _ q => ?_, fun v H' G' sv E' r' ir q => z v H' G' sv E' r' ir q, fun σ' H' G' S' R' _ q => q.elim, fun σ' H' G' S' R' _ q => q.elim⟩
  exact z .non H' G' (.tr .non) R'.ext rfl trivial q
end
end VT

/-! x is True, for a number or a text, too -/
namespace VT
open PySem PySem.Spec PyProof.Rows L2
def gIsT (neg : Bool) : D → D → (SV → Prop) → Prop
  | .bl a, .bl b, Q => Q (.tr (.bl (if neg then !decide (a = b) else decide (a = b))))
  | .int _, .bl _, Q => Q (.tr (.bl neg))
  | .str _, .bl _, Q => Q (.tr (.bl neg))
  | .non, .bl _, Q => Q (.tr (.bl neg))
  | _, _, _ => False
@[simp] theorem rd66_0 (neg : Bool) (a : Bool) (b : Bool) (Q : SV → Prop) : (gIsT neg (D.bl a) (D.bl b) Q) = (Q (.tr (.bl (if neg then !decide (a = b) else decide (a = b))))) := rfl
@[simp] theorem rd66_1 (neg : Bool) (a : Int) (b : Bool) (Q : SV → Prop) : (gIsT neg (D.int a) (D.bl b) Q) = (Q (.tr (.bl neg))) := rfl
@[simp] theorem rd66_2 (neg : Bool) (a : Str) (b : Bool) (Q : SV → Prop) : (gIsT neg (D.str a) (D.bl b) Q) = (Q (.tr (.bl neg))) := rfl
@[simp] theorem rd66_3 (neg : Bool) (b : Bool) (Q : SV → Prop) : (gIsT neg D.non (D.bl b) Q) = (Q (.tr (.bl neg))) := rfl
def nob : V → Bool
  | .int _ => true
  | .str _ => true
  | .non => true
  | _ => false
section
variable {X : Cx}
theorem op_isNb : OpR X (compareOp .Is) (fun x y H Q => ∃ b : Bool, nob x = true ∧ y = .bl b ∧ Q (.bl false) H) := by
  intro pins s σ H x y v u Q I rx ry ⟨b, hx, e, q⟩
  subst e
  cases (show u = Value.bool b from ry)
  have e1 : plainIs v (.bool b) = true ∧ v ≠ .bool b := by
    cases x <;> first
      | (cases hx; done)
      | (cases (show v = Value.none from rx); exact ⟨rfl, fun h => nomatch h⟩)
      | (obtain ⟨t, rfl⟩ := rx; exact ⟨rfl, fun h => nomatch h⟩)
  exact wpAny_is_other e1.1 e1.2 ⟨.bl false, H, I, rfl, q⟩
theorem op_notNb : OpR X (compareOp .IsNot) (fun x y H Q => ∃ b : Bool, nob x = true ∧ y = .bl b ∧ Q (.bl true) H) := by
  intro pins s σ H x y v u Q I rx ry ⟨b, hx, e, q⟩
  subst e
  cases (show u = Value.bool b from ry)
  have e1 : plainIs v (.bool b) = true ∧ v ≠ .bool b := by
    cases x <;> first
      | (cases hx; done)
      | (cases (show v = Value.none from rx); exact ⟨rfl, fun h => nomatch h⟩)
      | (obtain ⟨t, rfl⟩ := rx; exact ⟨rfl, fun h => nomatch h⟩)
  exact wpAny_isNot_other e1.1 e1.2 ⟨.bl true, H, I, rfl, q⟩
theorem ow_isT : OpW X (compareOp .Is) (gIsT false) := by
  intro H0 Ha Hb G H x y sx sy Qs Q ok rx ry q k
  unfold gIsT at q
  split at q
  · rename_i a b hx hy
    exact ⟨_, op_isBl, a, b, rx.bl hx, ry.bl hy, kq_tr (d := .bl _) k ok rfl q⟩
  · rename_i a b hx hy
    exact ⟨_, op_isNb, b, by rw [rx.int hx]; rfl, ry.bl hy, kq_tr (d := .bl _) k ok rfl q⟩
  · rename_i a b hx hy
    exact ⟨_, op_isNb, b, by rw [(rx.str hx).1]; rfl, ry.bl hy, kq_tr (d := .bl _) k ok rfl q⟩
  · rename_i b hx hy
    exact ⟨_, op_isNb, b, by rw [rx.non hx]; rfl, ry.bl hy, kq_tr (d := .bl _) k ok rfl q⟩
  · exact q.elim
theorem ow_isnotT : OpW X (compareOp .IsNot) (gIsT true) := by
  intro H0 Ha Hb G H x y sx sy Qs Q ok rx ry q k
  unfold gIsT at q
  split at q
  · rename_i a b hx hy
    exact ⟨_, op_notBl, a, b, rx.bl hx, ry.bl hy, kq_tr (d := .bl _) k ok rfl q⟩
  · rename_i a b hx hy
    exact ⟨_, op_notNb, b, by rw [rx.int hx]; rfl, ry.bl hy, kq_tr (d := .bl _) k ok rfl q⟩
  · rename_i a b hx hy
    exact ⟨_, op_notNb, b, by rw [(rx.str hx).1]; rfl, ry.bl hy, kq_tr (d := .bl _) k ok rfl q⟩
  · rename_i b hx hy
    exact ⟨_, op_notNb, b, by rw [rx.non hx]; rfl, ry.bl hy, kq_tr (d := .bl _) k ok rfl q⟩
  · exact q.elim
end
end VT

/-! What the program's plain parts compute: names, numbers, entries, plans, a play. No program in sight. -/
namespace HP
open PySem PySem.Spec PyProof.Rows L2 VT
def letters : Str := "abcdefghijklmnopqrstuvwxyz"
theorem letters_eq : (Str.ofString "abcdefghijklmnopqrstuvwxyz") = letters := rfl
def isNameS (z : Str) : Bool := decide (1 ≤ z.length) && (decide (z.length ≤ 6) && z.cps.toList.all fun c => decide (c ∈ letters.cps))
def isNameD : D → Bool
  | .str z => isNameS z
  | _ => false
def isNumD : D → Bool
  | .int _ => true
  | _ => false
def inD (d : D) (a b : Int) : Bool := match d with
  | .int i => decide (a ≤ i) && decide (i ≤ b)
  | _ => false
def fWithin : FSp := fun svs Q => ∃ d a b, svs = [.tr d, .tr (.int a), .tr (.int b)] ∧ d.kind.isSome = true ∧ Q (.tr (.bl (inD d a b)))
@[simp] theorem fWithin_eq (d : D) (a b : Int) (Q : SV → Prop) : fWithin [.tr d, .tr (.int a), .tr (.int b)] Q ↔ d.kind.isSome = true ∧ Q (.tr (.bl (inD d a b))) := by
  constructor
  · rintro ⟨d, a, b, e, h⟩
    cases e
    exact h
  · exact fun h => ⟨d, a, b, rfl, h⟩
def entryD : D → Bool
  | .tup [a, b] => inD b 1 60 && (a.isNon || isNameD a)
  | _ => false
def fEntry : FSp := fun svs Q => ∃ d, svs = [.tr d] ∧ d.dat = true ∧ Q (.tr (.bl (entryD d)))
@[simp] theorem fEntry_eq (d : D) (Q : SV → Prop) : fEntry [.tr d] Q ↔ d.dat = true ∧ Q (.tr (.bl (entryD d))) := by simp [fEntry]
abbrev Ent := Option Str × Int
def whoD : Option Str → D
  | none => .non
  | some z => .str z
def entD (e : Ent) : D := .tup [whoD e.1, .int e.2]
def okE (e : Ent) : Prop := 1 ≤ e.2 ∧ e.2 ≤ 60 ∧ ∀ z, e.1 = some z → isNameS z = true
theorem okE_entry {e : Ent} (h : okE e) : entryD (entD e) = true := by
  obtain ⟨o, l⟩ := e
  obtain ⟨h1, h2, h3⟩ := h
  cases o with
  | none => simp [entD, whoD, entryD, inD, h1, h2, D.isNon] at *
  | some z =>
    have := h3 z rfl
    simp [entD, whoD, entryD, inD, h1, h2, D.isNon, isNameD, this] at *
theorem entD_dat (e : Ent) : (entD e).dat = true := by
  obtain ⟨o, l⟩ := e
  cases o <;> rfl
/-- an entry's data, read -/
def entOf : D → Ent
  | .tup [.str z, .int l] => (some z, l)
  | .tup [_, .int l] => (none, l)
  | _ => (none, 0)
theorem inD_int {d : D} {a b : Int} (h : inD d a b = true) : ∃ i, d = .int i ∧ a ≤ i ∧ i ≤ b := by
  cases d <;> simp [inD] at h
  exact ⟨_, rfl, h⟩
theorem entOf_eq {d : D} (h : entryD d = true) : entD (entOf d) = d ∧ okE (entOf d) := by
  unfold entryD at h
  split at h
  · rename_i a b
    rw [Bool.and_eq_true] at h
    obtain ⟨h1, h2⟩ := h
    obtain ⟨l, rfl, l1, l2⟩ := inD_int h1
    cases a <;> simp [D.isNon, isNameD] at h2
    · exact ⟨rfl, l1, l2, fun z e => by cases e⟩
    · exact ⟨rfl, l1, l2, fun z e => by cases e; exact h2⟩
  · cases h
def msgs : Int → List Ent → List D
  | _, [] => []
  | t, (some z, l) :: r => .tup [.str z, .int t, .int (t + l)] :: msgs (t + l) r
  | t, (none, l) :: r => msgs (t + l) r
def ticksOf : List Ent → Int
  | [] => 0
  | e :: r => e.2 + ticksOf r
def logF (es : List Ent) (j : Bool) : List (Str × D) := [("own_entries", .tup (es.map entD)), ("joined", .bl j), ("own_messages", .lst (msgs 0 es)), ("own_ticks", .int (ticksOf es))]
def tooF (m : Int) : List (Str × D) := [("most", .int m), ("code", .str "TooMany")]
def entF (i : Int) : List (Str × D) := [("at", .int i), ("code", .str "InvalidEntry")]
def ordF (d : D) : List (Str × D) := [("given", d), ("code", .str "InvalidOrder")]
def plnF (n : Str) : List (Str × D) := [("name", .str n), ("code", .str "InvalidPlan")]
def numF (d : D) : List (Str × D) := [("given", d), ("code", .str "InvalidNumber")]
/-- Log(ds, joined=j) -/
def logR (K : PySem.W.Frag) (ds : List D) (j : Bool) (Q : SV → Prop) (Qx : XP) : Prop := match ds.findIdx? fun d => !entryD d with
  | some i => Qx (He.ga K "InvalidEntry") (entF (i : Nat))
  | none => if 40 < ds.length then Qx (He.ga K "TooMany") (tooF 40) else Q (.tr (.ins (He.ga K "Log") (logF (ds.map entOf) j)))
theorem entOf_entD (e : Ent) : entOf (entD e) = e := by
  obtain ⟨o, l⟩ := e
  cases o <;> rfl
theorem logR_ok {K : PySem.W.Frag} {es : List Ent} {j : Bool} {Q : SV → Prop} {Qx : XP} (h : ∀ e ∈ es, okE e) (q : if 40 < es.length then Qx (He.ga K "TooMany") (tooF 40) else Q (.tr (.ins (He.ga K "Log") (logF es j)))) : logR K (es.map entD) j Q Qx := by
  unfold logR
  have e : (es.map entD).findIdx? (fun d => !entryD d) = none := by
    rw [List.findIdx?_eq_none_iff]
    intro x hx
    obtain ⟨e, he, rfl⟩ := List.mem_map.mp hx
    rw [okE_entry (h e he)]
    rfl
  rw [e]
  have e2 : (es.map entD).map entOf = es := by
    rw [List.map_map]
    exact (List.map_congr_left fun e _ => entOf_entD e).trans (List.map_id _)
  simpa [e2] using q
theorem getD_lt {ds : List D} {i : Nat} (h : i < ds.length) : ds.getD i .non = ds[i] := by simp [h]
theorem logR_bad {K : PySem.W.Frag} {ds : List D} {i : Nat} {j : Bool} {Q : SV → Prop} {Qx : XP} (h : i < ds.length) (hb : entryD (ds.getD i .non) = false) (hp : ∀ k < i, entryD (ds.getD k .non) = true) (q : logR K ds j Q Qx) : Qx (He.ga K "InvalidEntry") (entF (i : Nat)) := by
  unfold logR at q
  have e : ds.findIdx? (fun d => !entryD d) = some i := by
    rw [List.findIdx?_eq_some_iff_getElem]
    refine ⟨h, ?_, fun k hk => ?_⟩
    · rw [getD_lt h] at hb
      rw [hb]
      rfl
    · have := hp k hk
      rw [getD_lt (Nat.lt_trans hk h)] at this
      rw [this]
      decide
  rw [e] at q
  exact q
theorem logR_all {ds : List D} (h : ∀ k < ds.length, entryD (ds.getD k .non) = true) : ∃ es : List Ent, ds = es.map entD ∧ (∀ e ∈ es, okE e) ∧
    ∀ {K : PySem.W.Frag} {j : Bool} {Q : SV → Prop} {Qx : XP}, logR K ds j Q Qx → if 40 < es.length then Qx (He.ga K "TooMany") (tooF 40) else Q (.tr (.ins (He.ga K "Log") (logF es j))) := by
  have hall : ∀ d ∈ ds, entryD d = true := fun d hd => by
    obtain ⟨k, hk, rfl⟩ := List.mem_iff_getElem.mp hd
    have := h k hk
    rwa [getD_lt hk] at this
  refine ⟨ds.map entOf, ?_, fun e he => ?_, fun {K j Q Qx} q => ?_⟩
  · rw [List.map_map]
    exact ((List.map_congr_left fun d hd => (entOf_eq (hall d hd)).1).trans (List.map_id _)).symm
  · obtain ⟨d, hd, rfl⟩ := List.mem_map.mp he
    exact (entOf_eq (hall d hd)).2
  · unfold logR at q
    have e : ds.findIdx? (fun d => !entryD d) = none := by
      rw [List.findIdx?_eq_none_iff]
      intro d hd
      rw [hall d hd]
      rfl
    rw [e] at q
    simpa using q
def lastD : Option (Int × Int × Int) → D
  | none => .non
  | some (a, b, c) => .tup [.int a, .int b, .int c]
def goP : Option (Int × Int × Int) → List D → Bool
  | _, [] => true
  | l, .tup [.int a, .int b, .int c] :: r => if b < a ∨ c < 1 ∨ 60 < c then false else
    match l with
    | some (a0, b0, _) => if a < a0 ∨ b < b0 then false else goP (some (a, b, c)) r
    | none => goP (some (a, b, c)) r
  | _, _ => false
theorem goP_bad {l : Option (Int × Int × Int)} {d : D} {r : List D} (h : ∀ a b c, d ≠ .tup [.int a, .int b, .int c]) : goP l (d :: r) = false := by
  unfold goP
  split
  · rename_i e
    cases e
  · rename_i a b c r e
    cases e
    exact (h _ _ _ rfl).elim
  · rfl
theorem nums3 {xs : List D} (hl : xs.length = 3) (h : xs.all isNumD = true) : ∃ a b c, xs = [.int a, .int b, .int c] := by
  match xs, hl with
  | [x, y, z], _ =>
    simp at h
    cases x <;> cases y <;> cases z <;> simp [isNumD] at h
    exact ⟨_, _, _, rfl⟩
def planD : D → Bool
  | .lst xs => goP none xs
  | .tup xs => goP none xs
  | _ => false
def fPlan : FSp := fun svs Q => ∃ sv d, svs = [sv] ∧ IsA sv d ∧ (d.dat = true ∨ d = .dic []) ∧ Q (.tr (.bl (planD d)))
@[simp] theorem fPlan_tr (d : D) (Q : SV → Prop) : fPlan [.tr d] Q ↔ (d.dat = true ∨ d = .dic []) ∧ Q (.tr (.bl (planD d))) := by simp [fPlan]
@[simp] theorem fPlan_brw (d : D) (Q : SV → Prop) : fPlan [.brw d] Q ↔ (d.dat = true ∨ d = .dic []) ∧ Q (.tr (.bl (planD d))) := by simp [fPlan]
abbrev Row := Int × Int × Int
def rowD (r : Row) : D := .tup [.int r.1, .int r.2.1, .int r.2.2]
/-- the rows of a name in a dict of plans; none: no key -/
def PlanAt (kvs : List (Key × D)) (n : Str) (rs : List Row) : Prop := (∃ d, valD kvs (.inr n) = some d ∧ (d = .lst (rs.map rowD) ∨ d = .tup (rs.map rowD))) ∨ (valD kvs (.inr n) = none ∧ rs = [])
def able (rows : Str → List Row) (sp : Str → Nat) (t : Int) (n : Str) : Bool := match (rows n)[sp n]? with
  | some r => decide (r.2.1 ≤ t)
  | none => false
def win (ns : List Str) (rows : Str → List Row) (sp : Str → Nat) (t : Int) : Option Str := ns.find? (able rows sp t)
def spD (ns : List Str) (sp : Str → Nat) : List (Key × D) := mapD ns fun n => .int (sp n : Nat)
structure Stt where
  sp : Str → Nat
  es : List Ent
  t : Int
def idle60 (es : List Ent) : List Ent := match es.getLast? with
  | some (none, l) => if l < 60 then es.dropLast ++ [(none, l + 1)] else es ++ [(none, 1)]
  | _ => es ++ [(none, 1)]
def stepP (ns : List Str) (rows : Str → List Row) (s : Stt) : Stt := match win ns rows s.sp s.t with
  | some n => match (rows n)[s.sp n]? with
    | some r => ⟨fun m => if m = n then s.sp n + 1 else s.sp m, s.es ++ [(some n, r.2.2)], s.t + r.2.2⟩
    | none => s
  | none => ⟨s.sp, idle60 s.es, s.t + 1⟩
def runP (ns : List Str) (rows : Str → List Row) (ticks : Int) : Nat → Stt → Stt
  | 0, s => s
  | k + 1, s => if s.t < ticks then runP ns rows ticks k (stepP ns rows s) else s
def playE (ns : List Str) (rows : Str → List Row) (ticks : Int) : List Ent := (runP ns rows ticks ticks.toNat ⟨fun _ => 0, [], 0⟩).es
def VRows (rs : List Row) : Prop := goP none (rs.map rowD) = true
theorem goP_rows : ∀ {rs : List Row} {l : Option (Int × Int × Int)}, goP l (rs.map rowD) = true → ∀ r ∈ rs, 1 ≤ r.2.2 ∧ r.2.2 ≤ 60
  | [], _, _, r, h => by simp at h
  | (a, b, c) :: rs, l, h, r, hr => by
    rw [List.map_cons] at h
    unfold rowD goP at h
    simp only at h
    by_cases h1 : b < a ∨ c < 1 ∨ 60 < c
    · rw [if_pos h1] at h
      cases h
    · rw [if_neg h1] at h
      have hrec : goP (some (a, b, c)) (rs.map rowD) = true := by
        cases l with
        | none => exact h
        | some t =>
          obtain ⟨a0, b0, c0⟩ := t
          simp only at h
          by_cases h2 : a < a0 ∨ b < b0
          · rw [if_pos h2] at h
            cases h
          · rw [if_neg h2] at h
            exact h
      rcases List.mem_cons.mp hr with rfl | hr
      · simp only
        omega
      · exact goP_rows hrec r hr
theorem win_some {ns : List Str} {rows : Str → List Row} {sp : Str → Nat} {t : Int} {n : Str} (h : win ns rows sp t = some n) : n ∈ ns ∧ ∃ r, (rows n)[sp n]? = some r ∧ r ∈ rows n := by
  have h1 := List.mem_of_find?_eq_some h
  have h2 := List.find?_some h
  refine ⟨h1, ?_⟩
  unfold able at h2
  cases e : (rows n)[sp n]? with
  | none => rw [e] at h2; cases h2
  | some r => exact ⟨r, rfl, List.mem_of_getElem? e⟩
theorem idle60_ok {es : List Ent} (h : ∀ e ∈ es, okE e) : ∀ e ∈ idle60 es, okE e := by
  have hn : okE (none, 1) := ⟨by decide, by decide, fun z e => by cases e⟩
  have hap : ∀ e ∈ es ++ [(none, 1)], okE e := fun e he => by
    rcases List.mem_append.mp he with he | he
    · exact h e he
    · rw [List.mem_singleton.mp he]
      exact hn
  unfold idle60
  split
  · rename_i l e
    have hl := h _ (List.mem_of_getLast? e)
    split
    · intro e he
      rcases List.mem_append.mp he with he | he
      · exact h e (List.dropLast_subset _ he)
      · rw [List.mem_singleton.mp he]
        obtain ⟨h1, h2, _⟩ := hl
        simp only at h1 h2
        exact ⟨by simp only; omega, by simp only; omega, fun z e => by cases e⟩
    · exact hap
  · exact hap
theorem idle60_len (es : List Ent) : (idle60 es).length ≤ es.length + 1 := by
  unfold idle60
  split
  · rename_i l e
    split
    · have : es ≠ [] := fun z => by rw [z] at e; cases e
      have := List.length_pos_iff.mpr this
      simp <;> omega
    · simp
  · simp
theorem stepP_ok {ns : List Str} {rows : Str → List Row} (hn : ∀ n ∈ ns, isNameS n = true) (hv : ∀ n ∈ ns, VRows (rows n)) {s : Stt} (h : ∀ e ∈ s.es, okE e) : (∀ e ∈ (stepP ns rows s).es, okE e) ∧ s.t + 1 ≤ (stepP ns rows s).t ∧ (stepP ns rows s).es.length ≤ s.es.length + 1 := by
  unfold stepP
  split
  · rename_i n e
    obtain ⟨h1, r, h2, h3⟩ := win_some e
    rw [h2]
    obtain ⟨l1, l2⟩ := goP_rows (hv n h1) r h3
    refine ⟨fun e he => ?_, by simp only; omega, by simp⟩
    rcases List.mem_append.mp he with he | he
    · exact h e he
    · rw [List.mem_singleton.mp he]
      exact ⟨l1, l2, fun z e => by cases e; exact hn n h1⟩
  · exact ⟨idle60_ok h, by simp only; omega, idle60_len _⟩
/-! ### what an order, a dict of plans say -/
def nameOf : D → Str
  | .str z => z
  | _ => Str.empty
def namesD : D → Option (List Str)
  | .tup xs => if xs.all isNameD = true ∧ (xs.map nameOf).Nodup then some (xs.map nameOf) else none
  | _ => none
theorem namesD_ns (ns : List Str) : namesD (.tup (ns.map .str)) = if (∀ n ∈ ns, isNameS n = true) ∧ ns.Nodup then some ns else none := by
  have e : (ns.map D.str).map nameOf = ns := by rw [List.map_map]; exact (List.map_congr_left fun _ _ => rfl).trans (List.map_id _)
  show (if (ns.map D.str).all isNameD = true ∧ ((ns.map D.str).map nameOf).Nodup then some ((ns.map D.str).map nameOf) else none) = _
  rw [e, List.all_map]
  have hi : (ns.all (isNameD ∘ D.str) = true ∧ ns.Nodup) ↔ ((∀ n ∈ ns, isNameS n = true) ∧ ns.Nodup) := and_congr_left fun _ => List.all_eq_true
  by_cases h : (∀ n ∈ ns, isNameS n = true) ∧ ns.Nodup
  · rw [if_pos h, if_pos (hi.mpr h)]
  · rw [if_neg h, if_neg fun h' => h (hi.mp h')]
theorem namesD_some {d : D} {ns : List Str} (h : namesD d = some ns) : d = .tup (ns.map .str) ∧ (∀ n ∈ ns, isNameS n = true) ∧ ns.Nodup := by
  unfold namesD at h
  split at h
  · rename_i xs
    split at h
    · rename_i hx
      cases h
      have e : ∀ x ∈ xs, ∃ z, x = .str z ∧ isNameS z = true := fun x hm => by
        have := List.all_eq_true.mp hx.1 x hm
        cases x <;> simp [isNameD] at this
        exact ⟨_, rfl, this⟩
      refine ⟨?_, fun n hn => ?_, hx.2⟩
      · rw [List.map_map]
        congr 1
        refine ((List.map_congr_left fun x hm => ?_).trans (List.map_id _)).symm
        obtain ⟨z, rfl, _⟩ := e x hm
        rfl
      · obtain ⟨x, hm, rfl⟩ := List.mem_map.mp hn
        obtain ⟨z, rfl, hz⟩ := e x hm
        exact hz
    · cases h
  · cases h
theorem nodup_any (ns : List Str) : ((List.range ns.length).any fun k => decide (ns.getD k Str.empty ∈ ns.take k)) = !decide ns.Nodup := by
  rw [Bool.eq_iff_iff, List.any_eq_true, Bool.not_eq_true', decide_eq_false_iff_not]
  constructor
  · rintro ⟨k, hk, h⟩ hn
    have hk : k < ns.length := by simpa using hk
    have h := of_decide_eq_true h
    rw [show ns.getD k Str.empty = ns[k] by simp [hk]] at h
    obtain ⟨j, hj, ej⟩ := List.mem_take_iff_getElem.mp h
    exact List.pairwise_iff_getElem.mp hn j k (by omega) hk (by omega) ej
  · intro hn
    refine Classical.byContradiction fun hc => hn ?_
    refine List.pairwise_iff_getElem.mpr fun i j hi hj hij e => hc ⟨j, by simpa using hj, decide_eq_true ?_⟩
    rw [show ns.getD j Str.empty = ns[j] by simp [hj]]
    exact List.mem_take_iff_getElem.mpr ⟨i, by omega, e⟩
theorem allName_ns {xs : List D} (h : xs.all isNameD = true) : xs = (xs.map nameOf).map D.str := by
  rw [List.map_map]
  refine ((List.map_congr_left fun x hm => ?_).trans (List.map_id _)).symm
  have := List.all_eq_true.mp h x hm
  cases x <;> simp [isNameD] at this
  rfl
def rowOf : D → Row
  | .tup [.int a, .int b, .int c] => (a, b, c)
  | _ => (0, 0, 0)
def rowsD : D → List Row
  | .lst xs => xs.map rowOf
  | .tup xs => xs.map rowOf
  | _ => []
theorem goP_rowD : ∀ {xs : List D} {l : Option (Int × Int × Int)}, goP l xs = true → (xs.map rowOf).map rowD = xs
  | [], _, _ => rfl
  | x :: xs, l, h => by
    by_cases h3 : ∃ a b c, x = .tup [.int a, .int b, .int c]
    · obtain ⟨a, b, c, rfl⟩ := h3
      have hrec : ∃ l, goP l xs = true := by
        unfold goP at h
        split at h
        · cases h
        · split at h
          · split at h
            · cases h
            · exact ⟨_, h⟩
          · exact ⟨_, h⟩
      obtain ⟨l, hrec⟩ := hrec
      rw [List.map_cons, List.map_cons, goP_rowD hrec]
      rfl
    · rw [goP_bad fun a b c e => h3 ⟨a, b, c, e⟩] at h
      cases h
theorem planD_rows {d : D} (h : planD d = true) : (d = .lst ((rowsD d).map rowD) ∨ d = .tup ((rowsD d).map rowD)) ∧ VRows (rowsD d) := by
  unfold planD at h
  split at h
  · have e := goP_rowD h
    refine ⟨.inl (congrArg D.lst e.symm), ?_⟩
    show goP none (((_ : List D).map rowOf).map rowD) = true
    rw [e]
    exact h
  · have e := goP_rowD h
    refine ⟨.inr (congrArg D.tup e.symm), ?_⟩
    show goP none (((_ : List D).map rowOf).map rowD) = true
    rw [e]
    exact h
  · cases h
def planAt (kvs : List (Key × D)) (n : Str) : D := (valD kvs (.inr n)).getD (.lst [])
def rowsOf (kvs : List (Key × D)) (n : Str) : List Row := rowsD (planAt kvs n)
theorem planAt_rows {kvs : List (Key × D)} {n : Str} (h : planD (planAt kvs n) = true) : PlanAt kvs n (rowsOf kvs n) ∧ VRows (rowsOf kvs n) := by
  obtain ⟨h1, h2⟩ := planD_rows h
  refine ⟨?_, h2⟩
  unfold PlanAt
  cases e : valD kvs (.inr n) with
  | none => exact .inr ⟨rfl, by unfold rowsOf planAt; rw [e]; rfl⟩
  | some d =>
    refine .inl ⟨d, rfl, ?_⟩
    have e2 : planAt kvs n = d := by unfold planAt; rw [e]; rfl
    unfold rowsOf
    rw [e2] at h1 ⊢
    exact h1
/-- play(od, kvs, td, joined=j) -/
def playR (K : PySem.W.Frag) (od : D) (kvs : List (Key × D)) (td : D) (j : Bool) (Q : SV → Prop) (Qx : XP) : Prop := match namesD od with
  | none => Qx (He.ga K "InvalidOrder") (ordF od)
  | some ns => match ns.find? fun n => !planD (planAt kvs n) with
    | some n => Qx (He.ga K "InvalidPlan") (plnF n)
    | none => match td with
      | .int t => if 0 ≤ t ∧ t ≤ 2400 then (if 40 < (playE ns (rowsOf kvs) t).length then Qx (He.ga K "TooMany") (tooF 40) else Q (.tr (.ins (He.ga K "Log") (logF (playE ns (rowsOf kvs) t) j)))) else Qx (He.ga K "InvalidNumber") (numF td)
      | td => Qx (He.ga K "InvalidNumber") (numF td)
/-! ### promises -/
def fLog (K : PySem.W.Frag) : FXp := fun svs Q Qx => ∃ se d ds j, svs = [se, .tr (.bl j)] ∧ IsA se d ∧ (d = .lst ds ∨ d = .tup ds) ∧ dats ds = true ∧ ds.length ≤ 10000 ∧ logR K ds j Q Qx
def fNeed (K : PySem.W.Frag) : FXp := fun svs Q Qx => ∃ od : D, svs = [.tr od] ∧ od.dat = true ∧ (∀ xs, od = .tup xs → xs.length ≤ 1000) ∧ (match namesD od with
  | none => Qx (He.ga K "InvalidOrder") (ordF od)
  | some _ => Q (.tr .non))
def fWin : FSp := fun svs Q => ∃ (ns : List Str) (sp : SV) (kvs : List (Key × D)) (rows : Str → List Row) (spots : Str → Nat) (t : Int), svs = [.tr (.tup (ns.map .str)), sp, .brw (.dic (spD ns spots)), .tr (.int t)] ∧ IsA sp (.dic kvs) ∧ (∀ n ∈ ns, PlanAt kvs n (rows n)) ∧
  Q (.tr (whoD (win ns rows spots t)))
def fPlay (K : PySem.W.Frag) : FXp := fun svs Q Qx => ∃ (od : D) (sp : SV) (kvs : List (Key × D)) (td : D) (j : Bool), svs = [.tr od, sp, .tr td, .tr (.bl j)] ∧ IsA sp (.dic kvs) ∧ od.dat = true ∧ (∀ xs, od = .tup xs → xs.length ≤ 1000) ∧
  (∀ n d, valD kvs (.inr n) = some d → d.dat = true ∨ d = .dic []) ∧ td.dat = true ∧ playR K od kvs td j Q Qx
end HP

/-! Rows one after the other; the law's names. -/
namespace HP
open PySem PySem.Spec PyProof.Rows L2 VT
def lastOf : Option (Int × Int × Int) → List D → Option (Int × Int × Int)
  | l, [] => l
  | _, .tup [.int a, .int b, .int c] :: r => lastOf (some (a, b, c)) r
  | l, _ :: r => lastOf l r
def IsRow (d : D) : Prop := ∃ a b c, d = .tup [.int a, .int b, .int c]
theorem goP_row {a b c : Int} {r : List D} (l : Option (Int × Int × Int)) : goP l (.tup [.int a, .int b, .int c] :: r) = if b < a ∨ c < 1 ∨ 60 < c then false else
    match l with
    | some (a0, b0, _) => if a < a0 ∨ b < b0 then false else goP (some (a, b, c)) r
    | none => goP (some (a, b, c)) r := by
  cases l <;> rfl
theorem goP_snoc {d : D} : ∀ {rs : List D} {l : Option (Int × Int × Int)}, (∀ x ∈ rs, IsRow x) → goP l rs = true → goP l (rs ++ [d]) = goP (lastOf l rs) [d]
  | [], l, _, _ => rfl
  | x :: rs, l, h, k => by
    obtain ⟨a, b, c, rfl⟩ := h x (List.mem_cons_self ..)
    have hr := fun y hy => h y (List.mem_cons_of_mem _ hy)
    rw [List.cons_append]
    simp only [lastOf]
    rw [goP_row] at k ⊢
    by_cases e : b < a ∨ c < 1 ∨ 60 < c
    · rw [if_pos e] at k
      cases k
    · rw [if_neg e] at k ⊢
      cases l with
      | none => exact goP_snoc hr k
      | some t =>
        obtain ⟨a0, b0, c0⟩ := t
        simp only at k ⊢
        by_cases e : a < a0 ∨ b < b0
        · rw [if_pos e] at k
          cases k
        · rw [if_neg e] at k ⊢
          exact goP_snoc hr k
theorem lastOf_snoc {a b c : Int} : ∀ {rs : List D} {l : Option (Int × Int × Int)}, (∀ x ∈ rs, IsRow x) → lastOf l (rs ++ [.tup [.int a, .int b, .int c]]) = some (a, b, c)
  | [], l, _ => rfl
  | x :: rs, l, h => by
    obtain ⟨a, b, c, rfl⟩ := h x (List.mem_cons_self ..)
    rw [List.cons_append]
    simp only [lastOf]
    exact lastOf_snoc fun y hy => h y (List.mem_cons_of_mem _ hy)
theorem rows_dat {rs : List D} (h : ∀ x ∈ rs, IsRow x) : dats rs = true := dats_of fun x hx => by
  obtain ⟨a, b, c, rfl⟩ := h x hx
  rfl
theorem rows_dep {rs : List D} (h : ∀ x ∈ rs, IsRow x) : deps rs ≤ 1 := deps_of fun x hx => by
  obtain ⟨a, b, c, rfl⟩ := h x hx
  exact Nat.le_refl 1
@[simp] def fLetters : FSp := fun svs Q => svs = [] ∧ Q (.tr (.str letters))
/-- small letters only -/
def Lets (z : Str) : Prop := ∀ c ∈ z.cps.toList, c ∈ letters.cps.toList
theorem Lets.app {a b : Str} (h : Lets a) (k : Lets b) : Lets (a ++ b) := by
  intro c hc
  have e : (a ++ b).cps.toList = a.cps.toList ++ b.cps.toList := Array.toList_append ..
  rw [e] at hc
  exact (List.mem_append.mp hc).elim (h c) (k c)
theorem Lets.cut {a : Str} (h : Lets a) (lo hi : Option Int) : Lets (cutS a lo hi) := by
  intro c hc
  have hc : c ∈ ((a.cps.toList.drop (HT.sIx a.length 0 lo)).take (HT.sIx a.length a.length hi - HT.sIx a.length 0 lo)).toArray.toList := hc
  rw [List.toList_toArray] at hc
  exact h c (List.mem_of_mem_drop (List.mem_of_mem_take hc))
theorem Lets.name {a : Str} (h : Lets a) (h1 : 1 ≤ a.length) (h2 : a.length ≤ 6) : isNameS a = true := by
  unfold isNameS
  rw [decide_eq_true h1, decide_eq_true h2, Bool.true_and, Bool.true_and, List.all_eq_true]
  intro c hc
  simpa using h c hc
theorem Lets.okS {a : Str} (h : Lets a) (h2 : a.length ≤ 100) : okS a := by
  refine ⟨?_, by unfold sizeLine; omega⟩
  show a.cps.all (· < 0x110000) = true
  rw [Array.all_eq_true_iff_forall_mem]
  intro c hc
  have : ∀ c ∈ letters.cps.toList, c < 0x110000 := by decide +kernel
  simpa using this c (h c (by simpa using hc))
theorem toList_app (a b : Str) : (a ++ b).cps.toList = a.cps.toList ++ b.cps.toList := Array.toList_append ..
theorem lets_joinS {sep : Str} (hs : Lets sep) : ∀ {ys : List Str}, (∀ y ∈ ys, Lets y) → Lets (Str.join sep ys)
  | [], _ => by
    intro c hc
    cases hc
  | [y], h => h y (List.mem_cons_self ..)
  | y :: z :: r, h => by
    have h1 := lets_joinS (ys := z :: r) hs fun x hx => h x (List.mem_cons_of_mem _ hx)
    show Lets (y ++ sep ++ Str.join sep (z :: r))
    exact ((h y (List.mem_cons_self ..)).app hs).app h1
theorem lets_join {sep : Str} {ys : List Str} (hs : Lets sep) (h : ∀ y ∈ ys, Lets y) : Lets (Txt.join sep ys) := by
  have e : Txt.join sep ys = Str.join sep ys := by
    show Builtin.Str.glued sep ys = _
    rw [StrLaws.glued_eq_join]
  rw [e]
  exact lets_joinS hs h
/-- the k-th name -/
def nmK (pre post more : Str) (base st : Int) (k : Nat) : Str := ((pre ++ ⟨#[97 + ((base + st * (k : Int)) % 26).toNat]⟩) ++ post) ++ Txt.mul more (if (k : Int) % 2 = 1 then 1 else 0)
theorem letter_at : ∀ i : Fin 26, letters.cps.toList[i.val]? = some (97 + i.val) := by decide +kernel
theorem nmK_inj {pre post more : Str} {base st : Int} (hst : st = 1 ∨ st = 3 ∨ st = 5 ∨ st = 7) {i j : Nat} (hi : i < 26) (hj : j < 26) (h : nmK pre post more base st i = nmK pre post more base st j) : i = j := by
  have h1 := congrArg (fun z : Str => z.cps.toList[pre.cps.toList.length]?) h
  unfold nmK at h1
  simp only [toList_app, List.append_assoc] at h1
  rw [List.getElem?_append_right (Nat.le_refl _), List.getElem?_append_right (Nat.le_refl _), Nat.sub_self] at h1
  have h2 : (97 + ((base + st * (i : Int)) % 26).toNat) = (97 + ((base + st * (j : Int)) % 26).toNat) := by simpa using h1
  rcases hst with rfl | rfl | rfl | rfl <;> omega
theorem mul01 {x : Str} (h : x.length ≤ 1) (k : Lets x) (i : Int) : (Txt.mul x (if i % 2 = 1 then 1 else 0)).length ≤ 1 ∧ Lets (Txt.mul x (if i % 2 = 1 then 1 else 0)) := by
  split
  · have e : Txt.mul x 1 = x := by
      unfold Txt.mul
      rw [if_neg (by decide), if_pos (by simp)]
    rw [e]
    exact ⟨h, k⟩
  · have e : Txt.mul x 0 = Str.empty := by
      unfold Txt.mul
      rw [if_pos (by decide)]
    rw [e]
    exact ⟨by decide, by intro c hc; cases hc⟩
theorem nmK_ok {stem more : Str} {spot base st : Int} (hl : Lets stem) (h4 : stem.length ≤ 4) (h1 : more.length ≤ 1) (h2 : Lets more) (hb : 0 ≤ base) (k : Nat) :
    isNameS (nmK (cutS stem none (some spot)) (cutS stem (some spot) none) more base st k) = true ∧ (cutS stem none (some spot)).length + (cutS stem (some spot) none).length ≤ 4 := by
  have hx0 : 0 ≤ (base + st * (k : Int)) % 26 := Int.emod_nonneg _ (by decide)
  have hx1 : (base + st * (k : Int)) % 26 < 26 := Int.emod_lt_of_pos _ (by decide)
  obtain ⟨m1, m2⟩ := mul01 h1 h2 (k : Int)
  have hc : Lets ⟨#[97 + ((base + st * (k : Int)) % 26).toNat]⟩ := by
    intro c hc
    have e : c = 97 + ((base + st * (k : Int)) % 26).toNat := by simpa using hc
    rw [e]
    exact List.mem_of_getElem? (letter_at ⟨((base + st * (k : Int)) % 26).toNat, by omega⟩)
  have hsum : (cutS stem none (some spot)).length + (cutS stem (some spot) none).length ≤ 4 := by
    show (cutS stem none (some spot)).cps.size + (cutS stem (some spot) none).cps.size ≤ 4
    have h4 : stem.cps.size ≤ 4 := h4
    unfold cutS
    simp only [show stem.length = stem.cps.size from rfl, List.size_toArray, List.length_take, List.length_drop, Array.length_toList]
    generalize stem.cps.size = n at h4
    have h1 : HT.sIx n n (some spot) = HT.sIx n 0 (some spot) := rfl
    have h2 := HT.sIx_le n 0 (Nat.zero_le _) (some spot)
    rw [h1, HT.sIx_none, HT.sIx_none]
    generalize HT.sIx n 0 (some spot) = z at h2
    omega
  refine ⟨Lets.name ((((hl.cut _ _).app hc).app (hl.cut _ _)).app m2) ?_ ?_, hsum⟩
  · unfold nmK
    rw [length_append, length_append, length_append]
    show 1 ≤ _ + 1 + _ + _
    omega
  · unfold nmK
    rw [length_append, length_append, length_append]
    show _ + 1 + _ + _ ≤ 6
    omega
def fNames : FSp := fun svs Q => ∃ m : Nat, svs = [.bag, .tr (.int m)] ∧ m ≤ 26 ∧ ∀ ns : List Str, ns.length = m → (∀ n ∈ ns, isNameS n = true) → ns.Nodup → Q (.own (.lst (ns.map .str)))
end HP

/-! Plain facts that laws share. -/
namespace HP
open PySem PySem.Spec PyProof.Rows L2 VT
def unS : D → Str
  | .str z => z
  | _ => Str.empty
theorem perm_strs {ms : List D} {ns : List Str} (h : ms.Perm (ns.map D.str)) : ∃ os : List Str, ms = os.map D.str ∧ os.Perm ns := by
  refine ⟨ms.map unS, ?_, ?_⟩
  · rw [List.map_map]
    have : ms.map (fun d => d) = ms.map (D.str ∘ unS) := List.map_congr_left fun d hd => by
      obtain ⟨z, _, rfl⟩ := List.mem_map.mp (h.mem_iff.mp hd)
      rfl
    simpa using this
  · have := h.map unS
    rw [List.map_map] at this
    have e : ns.map (unS ∘ D.str) = ns := by
      have : ns.map (unS ∘ D.str) = ns.map fun z => z := List.map_congr_left fun z _ => rfl
      simpa using this
    rwa [e] at this
mutual
theorem sameD_refl : ∀ d : D, d.dat = true → sameD d d = true
  | .non, _ => rfl
  | .bl b, _ => by simp [sameD]
  | .int b, _ => by simp [sameD]
  | .str b, _ => by simp [sameD]
  | .lst xs, h => by simp [sameD, sames_refl xs h]
  | .tup xs, h => by simp [sameD, sames_refl xs h]
  | .dic _, h | .dit _, h | .ins _ _, h | .exn _ _, h | .fn _ _, h | .opq, h => by simp [D.dat] at h
theorem sames_refl : ∀ xs : List D, dats xs = true → sames xs xs = true
  | [], _ => rfl
  | x :: xs, h => by
    simp at h
    simp [sames, sameD_refl x h.1, sames_refl xs h.2]
end
theorem ents_dat (es : List Ent) : dats (es.map entD) = true := dats_of fun x hx => by
  obtain ⟨e, _, rfl⟩ := List.mem_map.mp hx
  exact entD_dat e
theorem ents_dep (es : List Ent) : deps (es.map entD) ≤ 1 := deps_of fun x hx => by
  obtain ⟨⟨o, l⟩, _, rfl⟩ := List.mem_map.mp hx
  cases o <;> exact Nat.le_refl 1
theorem ents_wid (es : List Ent) : wids (es.map entD) = true := wids_of fun x hx => by
  obtain ⟨⟨o, l⟩, _, rfl⟩ := List.mem_map.mp hx
  cases o <;> rfl
theorem ents_same (es : List Ent) : sames (es.map entD) (es.map entD) = true := sames_refl _ (ents_dat es)
theorem log_no (es : List Ent) (j : Bool) (m : Str) (hm : m ≠ "own_entries" ∧ m ≠ "joined" ∧ m ≠ "own_messages" ∧ m ≠ "own_ticks") (a : Str) (b : FV) (h : (a, b) ∈ (logF es j).map (fun p => (p.1, FV.tr p.2))) : ¬ m = a := by
  simp [logF] at h
  rcases h with ⟨rfl, _⟩ | ⟨rfl, _⟩ | ⟨rfl, _⟩ | ⟨rfl, _⟩
  · exact hm.1
  · exact hm.2.1
  · exact hm.2.2.1
  · exact hm.2.2.2
theorem pairsD_map (f : Str → D) : ∀ ns : List Str, pairsD (ns.map fun n => .tup [.str n, f n]) = some (mapD ns f)
  | [] => rfl
  | n :: ns => by
    rw [List.map_cons]
    unfold pairsD
    simp only [keyD_str]
    rw [pairsD_map f ns]
    rfl
theorem merge_map (f : Str → D) : ∀ (b a : List Str), (a ++ b).Nodup → mergeD (mapD a f) (mapD b f) = mapD (a ++ b) f
  | [], a, _ => by rw [List.append_nil]; rfl
  | n :: b, a, h => by
    have hn : n ∉ a := by
      rw [List.nodup_append] at h
      intro k
      exact h.2.2 n k n (by simp) rfl
    show mergeD (putD (mapD a f) (.inr n) (f n)) (mapD b f) = _
    rw [putD_new hn, merge_map f b (a ++ [n]) (by simpa using h)]
    simp
theorem runP_len {ns : List Str} {rows : Str → List Row} {ticks : Int} : ∀ (k : Nat) (s : Stt), (runP ns rows ticks k s).es.length ≤ s.es.length + k
  | 0, s => Nat.le_refl _
  | k + 1, s => by
    show (if s.t < ticks then runP ns rows ticks k (stepP ns rows s) else s).es.length ≤ _
    split
    · have h1 := runP_len (ns := ns) (rows := rows) (ticks := ticks) k (stepP ns rows s)
      have h2 : (stepP ns rows s).es.length ≤ s.es.length + 1 := by
        unfold stepP
        split
        · split
          · simp
          · simp
        · exact idle60_len _
      omega
    · omega
theorem playE_len {ns : List Str} {rows : Str → List Row} {ticks : Int} : (playE ns rows ticks).length ≤ ticks.toNat := by
  have := runP_len (ns := ns) (rows := rows) (ticks := ticks) ticks.toNat ⟨fun _ => 0, [], 0⟩
  simpa [playE] using this
/-! ### the ticks of a play -/
theorem ticksOf_app : ∀ a b : List Ent, ticksOf (a ++ b) = ticksOf a + ticksOf b
  | [], b => by simp [ticksOf]
  | e :: a, b => by
    show e.2 + ticksOf (a ++ b) = e.2 + ticksOf a + ticksOf b
    rw [ticksOf_app a b]
    omega
theorem ticksOf_idle (es : List Ent) : ticksOf (idle60 es) = ticksOf es + 1 := by
  have e1 : ticksOf (es ++ [(none, 1)]) = ticksOf es + 1 := by rw [ticksOf_app]; rfl
  unfold idle60
  split
  · rename_i l e
    split
    · obtain ⟨es', rfl⟩ : ∃ es', es = es' ++ [(none, l)] := by
        have := List.dropLast_concat_getLast (l := es) (fun z => by rw [z] at e; cases e)
        refine ⟨es.dropLast, ?_⟩
        rw [List.getLast?_eq_some_getLast (fun z => by rw [z] at e; cases e)] at e
        rw [Option.some.inj e] at this
        exact this.symm
      rw [List.dropLast_concat, ticksOf_app, ticksOf_app]
      show _ + (l + 1 + 0) = _ + (l + 0) + 1
      omega
    · exact e1
  · exact e1
theorem ticksOf_step {ns : List Str} {rows : Str → List Row} {s : Stt} (h : ticksOf s.es = s.t) : ticksOf (stepP ns rows s).es = (stepP ns rows s).t := by
  unfold stepP
  split
  · split
    · simp only
      rw [ticksOf_app, h]
      show _ + (_ + 0) = _
      omega
    · exact h
  · simp only
    rw [ticksOf_idle, h]
theorem ticksOf_run {ns : List Str} {rows : Str → List Row} {ticks : Int} (hv : ∀ n ∈ ns, VRows (rows n)) : ∀ (k : Nat) {s : Stt}, ticksOf s.es = s.t → ticks - s.t ≤ k → (∀ e ∈ s.es, okE e) → (∀ n ∈ ns, isNameS n = true) → ticksOf (runP ns rows ticks k s).es = (runP ns rows ticks k s).t ∧ ticks ≤ (runP ns rows ticks k s).t
  | 0, s, h, hk, _, _ => ⟨h, by show ticks ≤ s.t; omega⟩
  | k + 1, s, h, hk, ho, hn => by
    unfold runP
    split
    · have hs := stepP_ok (s := s) hn hv ho
      exact ticksOf_run hv k (ticksOf_step h) (by omega) hs.1 hn
    · exact ⟨h, by omega⟩
theorem playE_ticks {ns : List Str} {rows : Str → List Row} {ticks : Int} (hn : ∀ n ∈ ns, isNameS n = true) (hv : ∀ n ∈ ns, VRows (rows n)) : ticks ≤ ticksOf (playE ns rows ticks) := by
  have h := ticksOf_run (ticks := ticks) hv ticks.toNat (s := ⟨fun _ => 0, [], 0⟩) rfl (by simp only; omega) (by simp) hn
  unfold playE
  omega
/-- a refused play -/
theorem playR_order {K : PySem.W.Frag} {od : D} {kvs : List (Key × D)} {td : D} {j : Bool} {Q : SV → Prop} {Qx : XP} (h : namesD od = none) (q : Qx (He.ga K "InvalidOrder") (ordF od)) : playR K od kvs td j Q Qx := by
  unfold playR
  rw [h]
  exact q
theorem playR_plan {K : PySem.W.Frag} {ns : List Str} {kvs : List (Key × D)} {td : D} {j : Bool} {Q : SV → Prop} {Qx : XP} {n : Str} (hn : ∀ n ∈ ns, isNameS n = true) (hd : ns.Nodup) (h : ns.find? (fun n => !planD (planAt kvs n)) = some n) (q : Qx (He.ga K "InvalidPlan") (plnF n)) : playR K (.tup (ns.map .str)) kvs td j Q Qx := by
  unfold playR
  rw [namesD_ns, if_pos ⟨hn, hd⟩]
  simp only
  rw [h]
  exact q
theorem find_none {ns : List Str} {kvs : List (Key × D)} (h : ∀ n ∈ ns, planD (planAt kvs n) = true) : ns.find? (fun n => !planD (planAt kvs n)) = none := by
  rw [List.find?_eq_none]
  intro n hn
  rw [h n hn]
  decide
theorem playR_ticks {K : PySem.W.Frag} {ns : List Str} {kvs : List (Key × D)} {td : D} {j : Bool} {Q : SV → Prop} {Qx : XP} (hn : ∀ n ∈ ns, isNameS n = true) (hd : ns.Nodup) (h : ∀ n ∈ ns, planD (planAt kvs n) = true) (ht : inD td 0 2400 = false) (q : Qx (He.ga K "InvalidNumber") (numF td)) : playR K (.tup (ns.map .str)) kvs td j Q Qx := by
  unfold playR
  rw [namesD_ns, if_pos ⟨hn, hd⟩]
  simp only
  rw [find_none h]
  simp only
  split
  · rw [if_neg (by simpa [inD] using ht)]
    exact q
  · exact q
theorem playR_ok {K : PySem.W.Frag} {ns : List Str} {kvs : List (Key × D)} {t : Int} {j : Bool} {Q : SV → Prop} {Qx : XP} (hn : ∀ n ∈ ns, isNameS n = true) (hd : ns.Nodup) (h : ∀ n ∈ ns, planD (planAt kvs n) = true) (h0 : 0 ≤ t) (h1 : t ≤ 2400)
    (q : if 40 < (playE ns (rowsOf kvs) t).length then Qx (He.ga K "TooMany") (tooF 40) else Q (.tr (.ins (He.ga K "Log") (logF (playE ns (rowsOf kvs) t) j)))) : playR K (.tup (ns.map .str)) kvs (.int t) j Q Qx := by
  unfold playR
  rw [namesD_ns, if_pos ⟨hn, hd⟩]
  simp only
  rw [find_none h]
  simp only
  rw [if_pos ⟨h0, h1⟩]
  exact q
/-! dicts by name -/
theorem mapD_dat {ns : List Str} {f : Str → D} (h : ∀ n ∈ ns, (f n).dat = true) (n : Str) (d : D) (e : valD (mapD ns f) (.inr n) = some d) : d.dat = true ∨ d = .dic [] := by
  rw [valD_map] at e
  split at e
  · rename_i hn
    cases e
    exact .inl (h n hn)
  · cases e
theorem planAt_mem {ns : List Str} {f : Str → D} {n : Str} (h : n ∈ ns) : planAt (mapD ns f) n = f n := by
  unfold planAt
  rw [valD_mem h]
  rfl
theorem find_one {ns : List Str} {p : Str → Bool} {n : Str} (h : n ∈ ns) (hp : p n = true) (ho : ∀ m ∈ ns, p m = true → m = n) : ns.find? p = some n := by
  cases e : ns.find? p with
  | none => exact absurd hp (List.find?_eq_none.mp e n h)
  | some m => rw [ho m (List.mem_of_find?_eq_some e) (List.find?_some e)]
theorem strs_dat (ns : List Str) : (D.tup (ns.map .str)).dat = true := dats_of fun x hx => by
  obtain ⟨n, _, rfl⟩ := List.mem_map.mp hx
  rfl
theorem tup_len {ns : List Str} (h : ns.length ≤ 1000) (xs : List D) (e : D.tup (ns.map .str) = .tup xs) : xs.length ≤ 1000 := by
  cases e
  simpa using h
/-- the names but one -/
def butAt (ns : List Str) (i : Nat) : List Str := ((List.range ns.length).filter fun k => !decide (k = i)).map fun k => ns.getD k Str.empty
theorem butAt_mem {ns : List Str} {i : Nat} (hd : ns.Nodup) (hi : i < ns.length) {n : Str} (h : n ∈ butAt ns i) : n ∈ ns ∧ n ≠ ns[i] := by
  unfold butAt at h
  obtain ⟨k, hk, rfl⟩ := List.mem_map.mp h
  obtain ⟨k1, k2⟩ := List.mem_filter.mp hk
  have k1 : k < ns.length := by simpa using k1
  have k2 : k ≠ i := by simpa using k2
  rw [show ns.getD k Str.empty = ns[k] by simp [k1]]
  refine ⟨List.getElem_mem k1, fun e => ?_⟩
  rcases Nat.lt_or_gt_of_ne k2 with h | h
  · exact List.pairwise_iff_getElem.mp hd k i k1 hi h e
  · exact List.pairwise_iff_getElem.mp hd i k hi k1 h e.symm
theorem butAt_nodup {ns : List Str} {i : Nat} (hd : ns.Nodup) : (butAt ns i).Nodup := by
  unfold butAt List.Nodup
  rw [List.pairwise_map]
  refine List.Pairwise.imp_of_mem ?_ (List.Pairwise.filter _ List.nodup_range)
  intro a b ha hb hab e
  have ha : a < ns.length := by simpa using (List.mem_filter.mp ha).1
  have hb : b < ns.length := by simpa using (List.mem_filter.mp hb).1
  rw [show ns.getD a Str.empty = ns[a] by simp [ha], show ns.getD b Str.empty = ns[b] by simp [hb]] at e
  rcases Nat.lt_or_gt_of_ne hab with h | h
  · exact List.pairwise_iff_getElem.mp hd a b ha hb h e
  · exact List.pairwise_iff_getElem.mp hd b a hb ha h e.symm
theorem butAt_len (ns : List Str) (i : Nat) : (butAt ns i).length ≤ ns.length := by
  unfold butAt
  rw [List.length_map]
  exact Nat.le_trans (List.length_filter_le _ _) (by simp)
end HP

/-! Log's own methods: promises. -/
namespace HP
open PySem PySem.Spec PyProof.Rows L2 VT
abbrev logD (K : PySem.W.Frag) (es : List Ent) (j : Bool) : D := .ins (He.ga K "Log") (logF es j)
abbrev fEnts (K : PySem.W.Frag) : FXp := fun svs Q Qx => ∃ es j, svs = [.tr (.ins (He.ga K "Log") (logF es j))] ∧ Q (.own (.lst (es.map entD)))
abbrev fLen (K : PySem.W.Frag) : FXp := fun svs Q Qx => ∃ es j, svs = [.tr (.ins (He.ga K "Log") (logF es j))] ∧ Q (.tr (.int (es.length : Nat)))
abbrev fTicks (K : PySem.W.Frag) : FSp := fun svs Q => ∃ es j, svs = [.tr (.ins (He.ga K "Log") (logF es j))] ∧ Q (.tr (.int (ticksOf es)))
def reprS (n : Nat) : Str := (Str.ofString "Log(" ++ Str.ofString (toString (n : Int))) ++ Str.ofString " entries)"
abbrev fLogRepr (K : PySem.W.Frag) : FXp := fun svs Q Qx => ∃ es j, svs = [.tr (logD K es j)] ∧ es.length ≤ 40 ∧ Q (.tr (.str (reprS es.length)))
/-- what == says of a log and another value -/
def logEq (K : PySem.W.Frag) (es : List Ent) (j : Bool) (d : D) : Bool := match d with
  | .ins C fs => decide (C = He.ga K "Log") && (match fs with
    | [(_, .tup xs), (_, .bl b), _, _] => decide (j = b) && deqs (es.map entD) xs
    | _ => false)
  | _ => false
def fLogEq (K : PySem.W.Frag) : FXp := fun svs Q Qx => ∃ es j y, svs = [.tr (logD K es j), y] ∧ ((∃ d, IsA y d ∧ d.dat = true ∧ Q (.tr (.bl false))) ∨ ∃ es2 j2, y = .tr (logD K es2 j2) ∧ Q (.tr (.bl (decide (j = j2) && deqs (es.map entD) (es2.map entD)))))
theorem empty_app (x : Str) : Str.empty ++ x = x := by
  show (⟨#[] ++ x.cps⟩ : Str) = x
  rw [Array.empty_append]
theorem num_len : ∀ n : Nat, n ≤ 60 → (Str.ofString (toString (n : Int))).length ≤ 2 := by
  intro n hn
  have h : ∀ n : Fin 61, (Str.ofString (toString ((n.val : Nat) : Int))).length ≤ 2 := by decide +kernel
  exact h ⟨n, by omega⟩
theorem num_log {n : Nat} (h : n ≤ 60) : ((n : Nat) : Int).natAbs.log2 < 1920 := by
  rcases Nat.eq_zero_or_pos n with rfl | h0
  · decide
  · exact (Nat.log2_lt (by omega)).mpr (Nat.lt_of_le_of_lt (by omega : ((n : Nat) : Int).natAbs ≤ 60) (by decide +kernel))
/-- the law's own: what is heard, some entries -/
def fHeardL : FSp := fun svs Q => ∃ sv es, svs = [sv] ∧ IsA sv (.lst (es.map entD)) ∧ es.length ≤ 10000 ∧ Q (.own (.lst [.lst (msgs 0 es), .int (ticksOf es)]))
def fSomeE : FSp := fun svs Q => ∃ ns m, svs = [.bag, .tr (.lst (ns.map .str)), .tr (.int m)] ∧ ns ≠ [] ∧ ns.length ≤ 1000 ∧ (∀ n ∈ ns, isNameS n = true) ∧ 0 ≤ m ∧ m ≤ 1000 ∧ ∀ es : List Ent, (es.length : Int) ≤ m → (∀ e ∈ es, okE e) → Q (.own (.lst (es.map entD)))
theorem logR_imp {K : PySem.W.Frag} {ds : List D} {j : Bool} {Q Q' : SV → Prop} {Qx Qx' : XP} (hq : ∀ es, Q (.tr (logD K es j)) → Q' (.tr (logD K es j))) (hx : ∀ C fs, Qx C fs → Qx' C fs) (q : logR K ds j Q Qx) : logR K ds j Q' Qx' := by
  unfold logR at q ⊢
  split
  · rename_i i e
    rw [e] at q
    exact hx _ _ q
  · rename_i e
    rw [e] at q
    split
    · rename_i h
      rw [if_pos h] at q
      exact hx _ _ q
    · rename_i h
      rw [if_neg h] at q
      exact hq _ q
theorem logR_ret {K : PySem.W.Frag} {ds : List D} {j : Bool} {Q : SV → Prop} {Qx : XP} (q : logR K ds j Q Qx) : logR K ds j (fun sv => sv.isRet ∧ Q sv) (fun C fs => Qx C fs) := logR_imp (fun _ q => ⟨trivial, q⟩) (fun _ _ q => q) q
theorem logR_at {K : PySem.W.Frag} {es : List Ent} {b : D} {more : List D} {j : Bool} {Q : SV → Prop} {Qx : XP} (ho : ∀ e ∈ es, okE e) (hb : entryD b = false) (q : Qx (He.ga K "InvalidEntry") (entF (es.length : Nat))) : logR K (es.map entD ++ b :: more) j Q Qx := by
  unfold logR
  have e1 : (es.map entD).findIdx? (fun d => !entryD d) = none := by
    rw [List.findIdx?_eq_none_iff]
    intro x hx
    obtain ⟨e, he, rfl⟩ := List.mem_map.mp hx
    rw [okE_entry (ho e he)]
    rfl
  have e2 : (es.map entD ++ b :: more).findIdx? (fun d => !entryD d) = some es.length := by
    rw [List.findIdx?_append, e1, List.findIdx?_cons, hb]
    simp
  rw [e2]
  exact q
/-- extended(..), shorter(..) -/
def fExt (K : PySem.W.Frag) : FXp := fun svs Q Qx => ∃ es j ds, svs = [.tr (logD K es j), .tr (.tup ds)] ∧ dats ds = true ∧ es.length ≤ 1000 ∧ ds.length ≤ 1000 ∧ logR K (es.map entD ++ ds) j Q Qx
def msgF (d : D) : List (Str × D) := [("number", d), ("code", .str "UnknownMessage")]
def fShort (K : PySem.W.Frag) : FXp := fun svs Q Qx => ∃ es j d, svs = [.tr (logD K es j), .tr d] ∧ d.dat = true ∧ es.length ≤ 40 ∧ (∀ e ∈ es, okE e) ∧ (∀ m : Nat, d = .int m → m ≤ es.length → Q (.tr (logD K (es.take m) j))) ∧ (inD d 0 (es.length : Nat) = false → Qx (He.ga K "UnknownMessage") (msgF d))
end HP

/-! Habits: what their parts are, when they are refused. -/
namespace HP
open PySem PySem.Spec PyProof.Rows L2 VT
/-- a value without parts -/
def smp : D → Bool
  | .non => true
  | .bl _ => true
  | .int _ => true
  | .str _ => true
  | _ => false
theorem smp_dat {d : D} (h : smp d = true) : d.dat = true := by cases d <;> first | rfl | cases h
theorem smp_wid {d : D} (h : smp d = true) : d.wid = true := by cases d <;> first | rfl | cases h
theorem smp_dep {d : D} (h : smp d = true) : d.dep = 0 := by cases d <;> first | rfl | cases h
theorem smp_kind {d : D} (h : smp d = true) : d.kind.isSome = true := by rw [dat_kind (smp_dat h)]
def habitF (w : Str) : List (Str × D) := [("word", .str w), ("code", .str "InvalidHabit")]
/-- late of Habit(..) -/
def lateOk (d : D) : Bool := d.isNon || inD d 0 99
def intOf : D → Int
  | .int i => i
  | _ => 0
/-- why Spaced(..) is refused -/
def spF (b w p l : D) : Option Str :=
  if inD b 1 4 = false then some "burst" else if inD w 1 99 = false then some "window" else
  if p.isNon = false ∧ inD p (intOf w) 99 = false then some "pause" else if p.isNon = false ∧ inD b 1 1 = false then some "burst" else if inD l 0 99 = false then some "late" else none
/-- why Answering(..) is refused -/
def anF (n a m l : D) : Option Str :=
  if isNameD n = false then some "name" else if inD a 0 99 = false then some "least" else if inD m (intOf a) 99 = false then some "most" else if inD l 0 99 = false then some "late" else none
abbrev spacedD (K : PySem.W.Frag) (b w p l : D) : D := .ins (He.ga K "Spaced") [("late", l), ("burst", b), ("window", w), ("pause", p)]
abbrev answD (K : PySem.W.Frag) (n a m l : D) : D := .ins (He.ga K "Answering") [("late", l), ("name", n), ("least", a), ("most", m)]
abbrev freeD (K : PySem.W.Frag) : D := .ins (He.ga K "Free") [("late", .non)]
abbrev habitD (K : PySem.W.Frag) (l : D) : D := .ins (He.ga K "Habit") [("late", l)]
theorem inD_non {d : D} {a b : Int} (h : d.isNon = true) : inD d a b = false := by cases d <;> first | rfl | cases h
theorem late_yes {d : D} (h : ¬ d.isNon = true) (k : lateOk d = true) : inD d 0 99 = true := by
  unfold lateOk at k
  rw [Bool.or_eq_true] at k
  exact k.resolve_left h
theorem late_not {d : D} (h : ¬ d.isNon = true) (k : lateOk d = false) : inD d 0 99 = false := by
  unfold lateOk at k
  rw [Bool.or_eq_false_iff] at k
  exact k.2
/-! ### promises -/
def fNeedW (K : PySem.W.Frag) : FXp := fun svs Q Qx => ∃ w d a b, svs = [.tr (.str w), .tr d, .tr (.int a), .tr (.int b)] ∧ smp d = true ∧ (inD d a b = true → Q (.tr .non)) ∧ (inD d a b = false → Qx (He.ga K "InvalidHabit") (habitF w))
def HCls (K : PySem.W.Frag) (C : Addr) : Prop := C ∈ [He.ga K "Habit", He.ga K "Free", He.ga K "Spaced", He.ga K "Answering"]
/-- Habit.__init__ of an object whose fields are fs -/
def uHabit (K : PySem.W.Frag) : FUp := fun C fs svs Qf Qx => HCls K C ∧ fs = [] ∧ ∃ d, svs = [.tr d] ∧ smp d = true ∧ (lateOk d = true → Qf [("late", .tr d)]) ∧ (lateOk d = false → Qx (He.ga K "InvalidHabit") (habitF "late"))
def uFree (K : PySem.W.Frag) : FUp := fun C fs svs Qf Qx => C = He.ga K "Free" ∧ fs = [] ∧ svs = [] ∧ Qf [("late", .tr .non)]
def uSpaced (K : PySem.W.Frag) : FUp := fun C fs svs Qf Qx => C = He.ga K "Spaced" ∧ fs = [] ∧ ∃ b w p l, svs = [.tr b, .tr w, .tr p, .tr l] ∧ smp b = true ∧ smp w = true ∧ smp p = true ∧ smp l = true ∧
  (spF b w p l = none → Qf [("late", .tr l), ("burst", .tr b), ("window", .tr w), ("pause", .tr p)]) ∧ ∀ x, spF b w p l = some x → Qx (He.ga K "InvalidHabit") (habitF x)
def uAnsw (K : PySem.W.Frag) : FUp := fun C fs svs Qf Qx => C = He.ga K "Answering" ∧ fs = [] ∧ ∃ n a m l, svs = [.tr n, .tr a, .tr m, .tr l] ∧ smp n = true ∧ smp a = true ∧ smp m = true ∧ smp l = true ∧
  (anF n a m l = none → Qf [("late", .tr l), ("name", .tr n), ("least", .tr a), ("most", .tr m)]) ∧ ∀ x, anF n a m l = some x → Qx (He.ga K "InvalidHabit") (habitF x)
def fPartsH (K : PySem.W.Frag) : FXp := fun svs Q Qx => ∃ C fs d, HCls K C ∧ svs = [.tr (.ins C fs)] ∧ fs.lookup ("late" : Str) = some d ∧ Q (.tr (.tup [d]))
def fPartsF (K : PySem.W.Frag) : FXp := fun svs Q Qx => svs = [.tr (freeD K)] ∧ Q (.tr (.tup []))
def fPartsS (K : PySem.W.Frag) : FXp := fun svs Q Qx => ∃ b w p l, svs = [.tr (spacedD K b w p l)] ∧ smp b = true ∧ smp w = true ∧ smp p = true ∧ smp l = true ∧ Q (.tr (.tup [b, w, p, l]))
def fPartsA (K : PySem.W.Frag) : FXp := fun svs Q Qx => ∃ n a m l, svs = [.tr (answD K n a m l)] ∧ smp n = true ∧ smp a = true ∧ smp m = true ∧ smp l = true ∧ Q (.tr (.tup [n, a, m, l]))
def fSourceH : FXp := fun svs Q Qx => ∃ sv, svs = [sv] ∧ Q (.tr .non)
def fSourceA (K : PySem.W.Frag) : FXp := fun svs Q Qx => ∃ n a m l, svs = [.tr (answD K n a m l)] ∧ Q (.tr n)
theorem lookF {f : Str} {d : D} : ∀ {fs : List (Str × D)}, fs.lookup f = some d → List.lookup f (fs.map fun p => (p.1, FV.tr p.2)) = some (.tr d)
  | [], h => by cases h
  | (g, x) :: fs, h => by
    rw [List.map_cons, List.lookup_cons]
    rw [List.lookup_cons] at h
    split
    · rename_i e
      rw [e] at h
      cases h
      rfl
    · rename_i e
      rw [e] at h
      exact lookF h
/-- the law's own: a drawn spaced habit's parts; why they are refused -/
def fSpacedL : FSp := fun svs Q => ∃ m : Int, svs = [.bag, .tr (.int m)] ∧ 1 ≤ m ∧ m ≤ 60 ∧ ∀ b w p l : D, smp b = true → smp w = true → smp p = true → smp l = true → Q (.tr (.tup [b, w, p, l]))
def faultD : Option Str → D
  | none => .non
  | some z => .str z
def fFaultL : FSp := fun svs Q => ∃ sv b w p l, svs = [sv] ∧ IsA sv (.lst [b, w, p, l]) ∧ smp b = true ∧ smp w = true ∧ smp p = true ∧ smp l = true ∧ Q (.tr (faultD (spF b w p l)))
theorem noA {m : Str} {fs : List (Str × FV)} (h : (fs.all fun p => !decide (m = p.1)) = true) : ∀ (a : Str) (b : FV), (a, b) ∈ fs → ¬ m = a := fun a b hm e => by
  have := List.all_eq_true.mp h _ hm
  simp [e] at this
theorem hcH {K : PySem.W.Frag} : HCls K (He.ga K "Habit") := by simp [HCls]
end HP

namespace K2
open PySem PySem.Spec PyProof.Rows L2 VT
def top (i : Nat) : Stmt := PySem.Challenge.pw_heardwire_k02_habits_made_and_refused.main.body.getD i (.Pass ⟨0, 0, 0, 0⟩)
def d_NothingLeft___init__ : He.DefD := ⟨("NothingLeft", some "__init__"), "__init__", "NothingLeft.__init__", defArgs (((clsBody (top 4)).getD 0 (.Pass ⟨0, 0, 0, 0⟩))), defBody (((clsBody (top 4)).getD 0 (.Pass ⟨0, 0, 0, 0⟩))), defScope (((clsBody (top 4)).getD 0 (.Pass ⟨0, 0, 0, 0⟩))), [], []⟩
def xe_NothingLeft : XE := ⟨"NothingLeft", d_NothingLeft___init__, 2, none⟩
def d_InvalidHabit___init__ : He.DefD := ⟨("InvalidHabit", some "__init__"), "__init__", "InvalidHabit.__init__", defArgs (((clsBody (top 5)).getD 0 (.Pass ⟨0, 0, 0, 0⟩))), defBody (((clsBody (top 5)).getD 0 (.Pass ⟨0, 0, 0, 0⟩))), defScope (((clsBody (top 5)).getD 0 (.Pass ⟨0, 0, 0, 0⟩))), [], []⟩
def xe_InvalidHabit : XE := ⟨"InvalidHabit", d_InvalidHabit___init__, 0, some "word"⟩
structure Facts (mg : Str → Option Value) : Prop where
  IndexError : mg "IndexError" = none
  LookupError : mg "LookupError" = none
  ValueError : mg "ValueError" = none
  abs : mg "abs" = none
  all : mg "all" = none
  bool : mg "bool" = none
  int : mg "int" = none
  isinstance : mg "isinstance" = none
  len : mg "len" = none
  list : mg "list" = none
  range : mg "range" = none
  str : mg "str" = none
  super : mg "super" = none
  tuple : mg "tuple" = none
  zip : mg "zip" = none
  c_MOST_SIGNS : ∃ t, mg "MOST_SIGNS" = some (.int 6 t)
  c_LETTERS : ∃ t, mg "LETTERS" = some (.str "abcdefghijklmnopqrstuvwxyz" t)
  c_MOST_NUMBER : ∃ t, mg "MOST_NUMBER" = some (.int 99 t)
  c_MOST_BURST : ∃ t, mg "MOST_BURST" = some (.int 4 t)
structure CF (K : PySem.W.Frag) (mg : Str → Option Value) : Prop where
  g_Habit : mg "Habit" = some (.ref (He.ga K "Habit"))
  c_Habit : Cls K (He.ga K "Habit")
  k_Habit : Mk K (He.ga K "Habit") (He.ma K (He.ga K "Habit") "__init__")
  n_Habit_late : NoAttr K (He.ga K "Habit") "late"
  m_Habit_parts : Meth K (He.ga K "Habit") "parts" (He.ma K (He.ga K "Habit") "parts")
  m_Habit_source : Meth K (He.ga K "Habit") "source" (He.ma K (He.ga K "Habit") "source")
  g_Free : mg "Free" = some (.ref (He.ga K "Free"))
  c_Free : Cls K (He.ga K "Free")
  k_Free : Mk K (He.ga K "Free") (He.ma K (He.ga K "Free") "__init__")
  n_Free_late : NoAttr K (He.ga K "Free") "late"
  m_Free_parts : Meth K (He.ga K "Free") "parts" (He.ma K (He.ga K "Free") "parts")
  m_Free_source : Meth K (He.ga K "Free") "source" (He.ma K (He.ga K "Habit") "source")
  g_Spaced : mg "Spaced" = some (.ref (He.ga K "Spaced"))
  c_Spaced : Cls K (He.ga K "Spaced")
  k_Spaced : Mk K (He.ga K "Spaced") (He.ma K (He.ga K "Spaced") "__init__")
  n_Spaced_late : NoAttr K (He.ga K "Spaced") "late"
  n_Spaced_burst : NoAttr K (He.ga K "Spaced") "burst"
  n_Spaced_window : NoAttr K (He.ga K "Spaced") "window"
  n_Spaced_pause : NoAttr K (He.ga K "Spaced") "pause"
  m_Spaced_parts : Meth K (He.ga K "Spaced") "parts" (He.ma K (He.ga K "Spaced") "parts")
  m_Spaced_source : Meth K (He.ga K "Spaced") "source" (He.ma K (He.ga K "Habit") "source")
  g_Answering : mg "Answering" = some (.ref (He.ga K "Answering"))
  c_Answering : Cls K (He.ga K "Answering")
  k_Answering : Mk K (He.ga K "Answering") (He.ma K (He.ga K "Answering") "__init__")
  n_Answering_late : NoAttr K (He.ga K "Answering") "late"
  n_Answering_name : NoAttr K (He.ga K "Answering") "name"
  n_Answering_least : NoAttr K (He.ga K "Answering") "least"
  n_Answering_most : NoAttr K (He.ga K "Answering") "most"
  m_Answering_parts : Meth K (He.ga K "Answering") "parts" (He.ma K (He.ga K "Answering") "parts")
  m_Answering_source : Meth K (He.ga K "Answering") "source" (He.ma K (He.ga K "Answering") "source")
  v_Habit_MOST : ClsI K (He.ga K "Habit") "MOST" 99
  v_Habit_KIND : ClsS K (He.ga K "Habit") "KIND" "habit"
  v_Free_KIND : ClsS K (He.ga K "Free") "KIND" "free"
  v_Spaced_KIND : ClsS K (He.ga K "Spaced") "KIND" "spaced"
  v_Answering_KIND : ClsS K (He.ga K "Answering") "KIND" "answers"
  su_Answering___init___Answering : SupM K (He.ga K "Answering") (He.ga K "Answering") "__init__" (He.fAd K ("Habit", some "__init__"))
  su_Answering_parts_Answering : SupM K (He.ga K "Answering") (He.ga K "Answering") "parts" (He.fAd K ("Habit", some "parts"))
  su_Free___init___Free : SupM K (He.ga K "Free") (He.ga K "Free") "__init__" (He.fAd K ("Habit", some "__init__"))
  su_Spaced___init___Spaced : SupM K (He.ga K "Spaced") (He.ga K "Spaced") "__init__" (He.fAd K ("Habit", some "__init__"))
  su_Spaced_parts_Spaced : SupM K (He.ga K "Spaced") (He.ga K "Spaced") "parts" (He.fAd K ("Habit", some "parts"))
  ik_Habit : IsK K (He.ga K "Habit")
  ik_Free : IsK K (He.ga K "Free")
  ik_Spaced : IsK K (He.ga K "Spaced")
  ik_Answering : IsK K (He.ga K "Answering")
  nk_Answering : NoK K (He.ga K "Answering")
  in_Habit_Answering : InK K (He.ga K "Habit") (He.ga K "Answering") false
  in_Free_Answering : InK K (He.ga K "Free") (He.ga K "Answering") false
  in_Spaced_Answering : InK K (He.ga K "Spaced") (He.ga K "Answering") false
  in_Answering_Answering : InK K (He.ga K "Answering") (He.ga K "Answering") true
  nk_Free : NoK K (He.ga K "Free")
  in_Habit_Free : InK K (He.ga K "Habit") (He.ga K "Free") false
  in_Free_Free : InK K (He.ga K "Free") (He.ga K "Free") true
  in_Spaced_Free : InK K (He.ga K "Spaced") (He.ga K "Free") false
  in_Answering_Free : InK K (He.ga K "Answering") (He.ga K "Free") false
  nk_Habit : NoK K (He.ga K "Habit")
  in_Habit_Habit : InK K (He.ga K "Habit") (He.ga K "Habit") true
  in_Free_Habit : InK K (He.ga K "Free") (He.ga K "Habit") true
  in_Spaced_Habit : InK K (He.ga K "Spaced") (He.ga K "Habit") true
  in_Answering_Habit : InK K (He.ga K "Answering") (He.ga K "Habit") true
structure XF (P : Program) (w : World) (K : PySem.W.Frag) (mg : Str → Option Value) (base : Heap) : Prop where
  g_HeardError : mg "HeardError" = some (.ref (He.ga K "HeardError"))
  g_Missing : mg "Missing" = some (.ref (He.ga K "Missing"))
  g_NothingLeft : mg "NothingLeft" = some (.ref (He.ga K "NothingLeft"))
  g_InvalidHabit : mg "InvalidHabit" = some (.ref (He.ga K "InvalidHabit"))
  c_NothingLeft : XfC K (He.ga K "NothingLeft") ∧ PySem.W.findIn K (.ref (He.ga K "NothingLeft")) "code" = some none
  m_NothingLeft : XMk P w K mg base "NothingLeft" (He.ga K "NothingLeft") 0 fun _ => [("code", .str "NothingLeft")]
  t_NothingLeft : PySem.W.exmAny K (.ref (He.ga K "NothingLeft")) [.ref (He.ga K "HeardError"), .ref (He.ga K "Missing"), .ref (He.ga K "NothingLeft")] = some true
  c_InvalidHabit : XfC K (He.ga K "InvalidHabit") ∧ PySem.W.findIn K (.ref (He.ga K "InvalidHabit")) "code" = some none
  f_InvalidHabit : XfC K (He.ga K "InvalidHabit") ∧ PySem.W.findIn K (.ref (He.ga K "InvalidHabit")) "word" = some none
  m_InvalidHabit : XMk P w K mg base "InvalidHabit" (He.ga K "InvalidHabit") 1 fun ds => [("word", ds.getD 0 .non), ("code", .str "InvalidHabit")]
  t_InvalidHabit : PySem.W.exmAny K (.ref (He.ga K "InvalidHabit")) [.ref (He.ga K "HeardError"), .ref (He.ga K "Missing"), .ref (He.ga K "NothingLeft")] = some true
def caught (K : PySem.W.Frag) (Q : D → D → Prop) : XP := fun C fs => (C = He.ga K "NothingLeft" ∧ fs = ([("code", .str "NothingLeft")] : List (Str × D)) ∧ Q (.str "NothingLeft") .non) ∨ (C = He.ga K "InvalidHabit" ∧ ∃ d, fs = ([("word", d), ("code", .str "InvalidHabit")] : List (Str × D)) ∧ Q (.str "InvalidHabit") d)
def d_is_name : He.DefD := ⟨("is_name", none), "is_name", "is_name", defArgs (top 9), defBody (top 9), defScope (top 9), [], []⟩
theorem sc_is_name : FnScope ["value", "sign"] ["value"] d_is_name.scope := ⟨rfl, rfl, rfl, by decide +kernel, rfl, by decide +kernel, by decide +kernel⟩
def d_is_number : He.DefD := ⟨("is_number", none), "is_number", "is_number", defArgs (top 10), defBody (top 10), defScope (top 10), [], []⟩
theorem sc_is_number : FnScope ["value"] ["value"] d_is_number.scope := ⟨rfl, rfl, rfl, by decide +kernel, rfl, by decide +kernel, by decide +kernel⟩
def d_is_within : He.DefD := ⟨("is_within", none), "is_within", "is_within", defArgs (top 11), defBody (top 11), defScope (top 11), [], []⟩
theorem sc_is_within : FnScope ["value", "least", "most"] ["value", "least", "most"] d_is_within.scope := ⟨rfl, rfl, rfl, by decide +kernel, rfl, by decide +kernel, by decide +kernel⟩
def d_need_within : He.DefD := ⟨("need_within", none), "need_within", "need_within", defArgs (top 15), defBody (top 15), defScope (top 15), [], []⟩
theorem sc_need_within : FnScope ["word", "value", "least", "most"] ["word", "value", "least", "most"] d_need_within.scope := ⟨rfl, rfl, rfl, by decide +kernel, rfl, by decide +kernel, by decide +kernel⟩
def d_Habit___init__ : He.DefD := ⟨("Habit", some "__init__"), "__init__", "Habit.__init__", defArgs (((clsBody (top 16)).getD 2 (.Pass ⟨0, 0, 0, 0⟩))), defBody (((clsBody (top 16)).getD 2 (.Pass ⟨0, 0, 0, 0⟩))), defScope (((clsBody (top 16)).getD 2 (.Pass ⟨0, 0, 0, 0⟩))), [], [("late", .int 0)]⟩
theorem sc_Habit___init__ : FnScope ["self", "late"] ["self", "late"] d_Habit___init__.scope := ⟨rfl, rfl, rfl, by decide +kernel, rfl, by decide +kernel, by decide +kernel⟩
def d_Habit_parts : He.DefD := ⟨("Habit", some "parts"), "parts", "Habit.parts", defArgs (((clsBody (top 16)).getD 3 (.Pass ⟨0, 0, 0, 0⟩))), defBody (((clsBody (top 16)).getD 3 (.Pass ⟨0, 0, 0, 0⟩))), defScope (((clsBody (top 16)).getD 3 (.Pass ⟨0, 0, 0, 0⟩))), [], []⟩
theorem sc_Habit_parts : FnScope ["self"] ["self"] d_Habit_parts.scope := ⟨rfl, rfl, rfl, by decide +kernel, rfl, by decide +kernel, by decide +kernel⟩
def d_Habit_source : He.DefD := ⟨("Habit", some "source"), "source", "Habit.source", defArgs (((clsBody (top 16)).getD 5 (.Pass ⟨0, 0, 0, 0⟩))), defBody (((clsBody (top 16)).getD 5 (.Pass ⟨0, 0, 0, 0⟩))), defScope (((clsBody (top 16)).getD 5 (.Pass ⟨0, 0, 0, 0⟩))), [], []⟩
theorem sc_Habit_source : FnScope ["self"] ["self"] d_Habit_source.scope := ⟨rfl, rfl, rfl, by decide +kernel, rfl, by decide +kernel, by decide +kernel⟩
def d_Free___init__ : He.DefD := ⟨("Free", some "__init__"), "__init__", "Free.__init__", defArgs (((clsBody (top 17)).getD 1 (.Pass ⟨0, 0, 0, 0⟩))), defBody (((clsBody (top 17)).getD 1 (.Pass ⟨0, 0, 0, 0⟩))), defScope (((clsBody (top 17)).getD 1 (.Pass ⟨0, 0, 0, 0⟩))), [], []⟩
theorem sc_Free___init__ : SupScope ["self"] ["self"] d_Free___init__.scope := ⟨rfl, rfl, rfl, by decide +kernel, rfl, by decide +kernel, by decide +kernel, by decide +kernel⟩
def d_Free_parts : He.DefD := ⟨("Free", some "parts"), "parts", "Free.parts", defArgs (((clsBody (top 17)).getD 2 (.Pass ⟨0, 0, 0, 0⟩))), defBody (((clsBody (top 17)).getD 2 (.Pass ⟨0, 0, 0, 0⟩))), defScope (((clsBody (top 17)).getD 2 (.Pass ⟨0, 0, 0, 0⟩))), [], []⟩
theorem sc_Free_parts : FnScope ["self"] ["self"] d_Free_parts.scope := ⟨rfl, rfl, rfl, by decide +kernel, rfl, by decide +kernel, by decide +kernel⟩
def d_Spaced___init__ : He.DefD := ⟨("Spaced", some "__init__"), "__init__", "Spaced.__init__", defArgs (((clsBody (top 18)).getD 1 (.Pass ⟨0, 0, 0, 0⟩))), defBody (((clsBody (top 18)).getD 1 (.Pass ⟨0, 0, 0, 0⟩))), defScope (((clsBody (top 18)).getD 1 (.Pass ⟨0, 0, 0, 0⟩))), [], [("burst", .int 1), ("window", .int 1), ("pause", .non), ("late", .int 0)]⟩
theorem sc_Spaced___init__ : SupScope ["self", "burst", "window", "pause", "late"] ["self", "burst", "window", "pause", "late"] d_Spaced___init__.scope := ⟨rfl, rfl, rfl, by decide +kernel, rfl, by decide +kernel, by decide +kernel, by decide +kernel⟩
def d_Spaced_parts : He.DefD := ⟨("Spaced", some "parts"), "parts", "Spaced.parts", defArgs (((clsBody (top 18)).getD 2 (.Pass ⟨0, 0, 0, 0⟩))), defBody (((clsBody (top 18)).getD 2 (.Pass ⟨0, 0, 0, 0⟩))), defScope (((clsBody (top 18)).getD 2 (.Pass ⟨0, 0, 0, 0⟩))), [], []⟩
theorem sc_Spaced_parts : SupScope ["self"] ["self"] d_Spaced_parts.scope := ⟨rfl, rfl, rfl, by decide +kernel, rfl, by decide +kernel, by decide +kernel, by decide +kernel⟩
def d_Answering___init__ : He.DefD := ⟨("Answering", some "__init__"), "__init__", "Answering.__init__", defArgs (((clsBody (top 19)).getD 1 (.Pass ⟨0, 0, 0, 0⟩))), defBody (((clsBody (top 19)).getD 1 (.Pass ⟨0, 0, 0, 0⟩))), defScope (((clsBody (top 19)).getD 1 (.Pass ⟨0, 0, 0, 0⟩))), [], [("least", .int 0), ("most", .int 0), ("late", .int 0)]⟩
theorem sc_Answering___init__ : SupScope ["self", "name", "least", "most", "late"] ["self", "name", "least", "most", "late"] d_Answering___init__.scope := ⟨rfl, rfl, rfl, by decide +kernel, rfl, by decide +kernel, by decide +kernel, by decide +kernel⟩
def d_Answering_parts : He.DefD := ⟨("Answering", some "parts"), "parts", "Answering.parts", defArgs (((clsBody (top 19)).getD 6 (.Pass ⟨0, 0, 0, 0⟩))), defBody (((clsBody (top 19)).getD 6 (.Pass ⟨0, 0, 0, 0⟩))), defScope (((clsBody (top 19)).getD 6 (.Pass ⟨0, 0, 0, 0⟩))), [], []⟩
theorem sc_Answering_parts : SupScope ["self"] ["self"] d_Answering_parts.scope := ⟨rfl, rfl, rfl, by decide +kernel, rfl, by decide +kernel, by decide +kernel, by decide +kernel⟩
def d_Answering_source : He.DefD := ⟨("Answering", some "source"), "source", "Answering.source", defArgs (((clsBody (top 19)).getD 3 (.Pass ⟨0, 0, 0, 0⟩))), defBody (((clsBody (top 19)).getD 3 (.Pass ⟨0, 0, 0, 0⟩))), defScope (((clsBody (top 19)).getD 3 (.Pass ⟨0, 0, 0, 0⟩))), [], []⟩
theorem sc_Answering_source : FnScope ["self"] ["self"] d_Answering_source.scope := ⟨rfl, rfl, rfl, by decide +kernel, rfl, by decide +kernel, by decide +kernel⟩
def d__law_field : He.DefD := ⟨("_law_field", none), "_law_field", "_law_field", defArgs (top 22), defBody (top 22), defScope (top 22), [], []⟩
theorem sc__law_field : FnScope ["_law_e"] ["_law_e"] d__law_field.scope := ⟨rfl, rfl, rfl, by decide +kernel, rfl, by decide +kernel, by decide +kernel⟩
def d__law_got : He.DefD := ⟨("_law_got", none), "_law_got", "_law_got", defArgs (top 23), defBody (top 23), defScope (top 23), [], []⟩
theorem sc__law_got : FnScope ["_law_ask", "_law_e"] ["_law_ask"] d__law_got.scope := ⟨rfl, rfl, rfl, by decide +kernel, rfl, by decide +kernel, by decide +kernel⟩
def d__law_all : He.DefD := ⟨("_law_all", none), "_law_all", "_law_all", defArgs (top 24), defBody (top 24), defScope (top 24), [], []⟩
theorem sc__law_all : FnScope ["_law_asks", "_law_ask"] ["_law_asks"] d__law_all.scope := ⟨rfl, rfl, rfl, by decide +kernel, rfl, by decide +kernel, by decide +kernel⟩
def d__law_spaced : He.DefD := ⟨("_law_spaced", none), "_law_spaced", "_law_spaced", defArgs (top 28), defBody (top 28), defScope (top 28), [], []⟩
theorem sc__law_spaced : FnScope ["_law_bag_here", "_law_top", "_law_gap", "_law_lag"] ["_law_bag_here", "_law_top"] d__law_spaced.scope := ⟨rfl, rfl, rfl, by decide +kernel, rfl, by decide +kernel, by decide +kernel⟩
def d__law_habit_fault : He.DefD := ⟨("_law_habit_fault", none), "_law_habit_fault", "_law_habit_fault", defArgs (top 29), defBody (top 29), defScope (top 29), [], []⟩
theorem sc__law_habit_fault : FnScope ["_law_parts", "_law_good", "_law_part"] ["_law_parts"] d__law_habit_fault.scope := ⟨rfl, rfl, rfl, by decide +kernel, rfl, by decide +kernel, by decide +kernel⟩
def d__law_defaults_so : He.DefD := ⟨("_law_defaults_so", none), "_law_defaults_so", "_law_defaults_so", defArgs (top 30), defBody (top 30), defScope (top 30), [], []⟩
theorem sc__law_defaults_so : FnScope ["_law_plain", "_law_wide", "_law_told", "_law_kinds", "_law_one"] [] d__law_defaults_so.scope := ⟨rfl, rfl, rfl, by decide +kernel, rfl, by decide +kernel, by decide +kernel⟩
def d_law : He.DefD := ⟨("law", none), "law", "law", defArgs (top 31), defBody (top 31), defScope (top 31), [], []⟩
theorem sc_law : FnScope ["_law_script", "_law_bag_here", "_law_turn", "_law_parts", "_law_k", "_law_fault", "_law_told", "_law_made", "_law_name", "_law_low", "_law_high", "_law_lag", "_law_bad"] ["_law_script"] d_law.scope := ⟨rfl, rfl, rfl, by decide +kernel, rfl, by decide +kernel, by decide +kernel⟩
def lx_lam__law_defaults_so_0 : Expr := exAt ((stSubs (stAt d__law_defaults_so.body 4 [])).getD 0 noE) [0, 1, 1, 0]
def lam__law_defaults_so_0 : LamSt := ⟨0, lamQ "_law_defaults_so", lamPar lx_lam__law_defaults_so_0, lamBod lx_lam__law_defaults_so_0, lamScp d__law_defaults_so.scope lx_lam__law_defaults_so_0, d__law_defaults_so.scope, false⟩
theorem lb_lam__law_defaults_so_0 : LamBd lam__law_defaults_so_0 := ⟨fun _ _ _ _ _ _ _ => rfl, fun h => nomatch h⟩
@[simp] theorem id_lam__law_defaults_so_0 : lam__law_defaults_so_0.id = 0 := rfl
def lx_lam__law_defaults_so_1 : Expr := exAt ((stSubs (stAt d__law_defaults_so.body 4 [])).getD 0 noE) [0, 1, 1, 1]
def lam__law_defaults_so_1 : LamSt := ⟨1, lamQ "_law_defaults_so", lamPar lx_lam__law_defaults_so_1, lamBod lx_lam__law_defaults_so_1, lamScp d__law_defaults_so.scope lx_lam__law_defaults_so_1, d__law_defaults_so.scope, true⟩
theorem lb_lam__law_defaults_so_1 : LamBd lam__law_defaults_so_1 := ⟨(fun h => nomatch h), fun _ => ⟨"_law_a", rfl, fun _ _ _ _ _ _ _ _ => ⟨_, rfl, rfl⟩⟩⟩
@[simp] theorem id_lam__law_defaults_so_1 : lam__law_defaults_so_1.id = 1 := rfl
def lx_lam_law_0 : Expr := exAt ((stSubs (stAt d_law.body 1 [(0, 3)])).getD 0 noE) [1]
def lam_law_0 : LamSt := ⟨0, lamQ "law", lamPar lx_lam_law_0, lamBod lx_lam_law_0, lamScp d_law.scope lx_lam_law_0, d_law.scope, false⟩
theorem lb_lam_law_0 : LamBd lam_law_0 := ⟨fun _ _ _ _ _ _ _ => rfl, fun h => nomatch h⟩
@[simp] theorem id_lam_law_0 : lam_law_0.id = 0 := rfl
def lx_lam_law_1 : Expr := exAt ((stSubs (stAt d_law.body 1 [(0, 8)])).getD 0 noE) [1]
def lam_law_1 : LamSt := ⟨1, lamQ "law", lamPar lx_lam_law_1, lamBod lx_lam_law_1, lamScp d_law.scope lx_lam_law_1, d_law.scope, false⟩
theorem lb_lam_law_1 : LamBd lam_law_1 := ⟨fun _ _ _ _ _ _ _ => rfl, fun h => nomatch h⟩
@[simp] theorem id_lam_law_1 : lam_law_1.id = 1 := rfl
def d__law_draw : He.DefD := ⟨("_law_draw", none), "_law_draw", "_law_draw", defArgs (top 26), defBody (top 26), defScope (top 26), [], []⟩
theorem sc__law_draw : FnScope ["_law_bag_here", "_law_many", "_law_cell", "_law_got_here"] ["_law_bag_here", "_law_many"] d__law_draw.scope := ⟨rfl, rfl, rfl, by decide +kernel, rfl, by decide +kernel, by decide +kernel⟩
def d__law_bag : He.DefD := ⟨("_law_bag", none), "_law_bag", "_law_bag", defArgs (top 25), defBody (top 25), defScope (top 25), [], []⟩
theorem sc__law_bag : FnScope ["_law_script", "_law_cells"] ["_law_script"] d__law_bag.scope := ⟨rfl, rfl, rfl, by decide +kernel, rfl, by decide +kernel, by decide +kernel⟩
def d__law_pick : He.DefD := ⟨("_law_pick", none), "_law_pick", "_law_pick", defArgs (top 27), defBody (top 27), defScope (top 27), [], []⟩
theorem sc__law_pick : FnScope ["_law_bag_here", "_law_some"] ["_law_bag_here", "_law_some"] d__law_pick.scope := ⟨rfl, rfl, rfl, by decide +kernel, rfl, by decide +kernel, by decide +kernel⟩
def d__law_same : He.DefD := ⟨("_law_same", none), "_law_same", "_law_same", defArgs (top 21), defBody (top 21), defScope (top 21), [], []⟩
theorem sc__law_same : FnScope ["_law_found", "_law_due", "_law_a", "_law_b"] ["_law_found", "_law_due"] d__law_same.scope := ⟨rfl, rfl, rfl, by decide +kernel, rfl, by decide +kernel, by decide +kernel⟩
section
variable {P : Program} {w : World} {K : PySem.W.Frag} {mg : Str → Option Value} {base : Heap}
theorem ok_draw (h : DefAt K mg d__law_draw) (T : Facts mg) : FnV P w K mg base d__law_draw 1 ["_law_bag_here", "_law_many"] fDraw := by
  obtain ⟨⟨fd, hf⟩, hm⟩ := h
  refine ⟨⟨fd, hf, hf.ok sc__law_draw (fun vs H Q E ⟨G, svs, Qs, ok, r, ha, ⟨n, e, _⟩, z⟩ => by rw [r.length, e]; rfl) (fun cdv A outer s H vs Q E hr hsp => ?_)⟩, hm⟩
  refine ⟨_, PSs.nox (C8.pss_cut (ps_if (PW.pt (pw_and (pt_cmpR op_eq (pe_ix ix_list (pv 0) pe_int (fun _ _ => rfl)) pe_int (nomark _))
      (pw_and1 (pt_cmpR op_lt (pe_ix ix_list (pv 0) pe_int (fun _ _ => rfl)) (pe_callB call_len_seq (by rfl) T.len PySem.boot_len (pa_cons (pe_ix ix_list (pv 0) pe_int (fun _ _ => rfl)) pa_nil)) (nomark _)))))
      (pss_cons (ps_set (i := 2) sc__law_draw.nd rfl (.inl rfl) (pe_ix ix_list (pe_ix ix_list (pv 0) pe_int (fun _ _ => rfl)) (pe_ix ix_list (pv 0) pe_int (fun _ _ => rfl)) (fun _ _ => rfl)))
      (pss_cons (ps_asg (pe_op op_add (pe_ix ix_list (pv 0) pe_int (fun _ _ => rfl)) pe_int) (pg_sub (pv 0) pe_int set_list))
      (pss_one (ps_if (pt_cmpR op_ge (pe_callB call_abs (by rfl) T.abs (by decide +kernel) (pa_cons (pv 2) pa_nil)) (pe_op op_pow pe_int pe_int) (nomark _))
        (pss_one (ps_asg (pe_callB call_abs (by rfl) T.abs (by decide +kernel) (pa_cons (pv 2) pa_nil)) (pg_sub (pv 0) pe_int set_list)))
        (pss_one (ps_asg (pe_op op_mod (pe_callTy call_int1 (by rfl) T.int (by decide +kernel) (pa_cons (pe_op op_add (pe_op op_add (pe_op op_mul (pe_ix ix_list (pv 0) pe_int (fun _ _ => rfl)) pe_int)
            (pe_op op_mul (pe_op op_mod (pe_callTy call_int1 (by rfl) T.int (by decide +kernel) (pa_cons (pv 2) pa_nil)) pe_int) pe_int)) pe_int) pa_nil)) pe_int) (pg_sub (pv 0) pe_int set_list)))))))
      pss_nil)
    (pss_cons (ps_if (pt_cmpR op_gt (pe_ix ix_list (pv 0) pe_int (fun _ _ => rfl)) pe_int (nomark _))
      (pss_cons (ps_set (i := 3) sc__law_draw.nd rfl (.inl rfl) (pe_op op_mod (pe_callTy call_int1 (by rfl) T.int (by decide +kernel) (pa_cons (pe_ix ix_list (pv 0) pe_int (fun _ _ => rfl)) pa_nil)) (pv 1)))
      (pss_cons (ps_asg (pe_op op_fdivW (pe_ix ix_list (pv 0) pe_int (fun _ _ => rfl)) (pv 1)) (pg_sub (pv 0) pe_int set_list))
      (pss_one (ps_ret (pv 3)))))
      pss_nil)
    (pss_cons (ps_asg (pe_op op_mod (pe_callTy call_int1 (by rfl) T.int (by decide +kernel) (pa_cons (pe_op op_add (pe_op op_add (pe_op op_mul (pe_op op_mul (pe_ix ix_list (pv 0) pe_int (fun _ _ => rfl)) (pe_ix ix_list (pv 0) pe_int (fun _ _ => rfl))) pe_int)
        (pe_op op_mul (pe_ix ix_list (pv 0) pe_int (fun _ _ => rfl)) pe_int)) pe_int) pa_nil)) pe_int) (pg_sub (pv 0) pe_int set_list))
    (pss_one (ps_ret (pe_op op_mod (pe_callTy call_int1 (by rfl) T.int (by decide +kernel) (pa_cons (pe_op op_fdivW (pe_ix ix_list (pv 0) pe_int (fun _ _ => rfl)) pe_int) pa_nil)) (pv 1))))))), ?_⟩
  obtain ⟨G, svs, Qs, ⟨ok, _⟩, rl, ha, ⟨n, rfl, hn, hl, hq⟩, z⟩ := hsp
  obtain ⟨p, rfl, hpb, b0⟩ : ∃ p, vs = [.ref p, .int n] ∧ G.pb = some p ∧ BagAt G H p := by
    cases rl with
    | cons r1 t1 _ => cases t1 with
      | cons r2 t2 _ =>
        cases t2
        obtain ⟨p, rfl, hp⟩ := r1
        have e2 : _ = V.int n := r2
        subst e2
        exact ⟨p, rfl, hp, (ok.bag p hp).1⟩
  obtain ⟨c, ns, i0, r0, m0, e0, ec, hlen, hi0, hr0, hm0, hm1⟩ := b0
  have B0 : BagN G H p c ns i0 r0 m0 := ⟨ok, hpb, e0, ec, hlen, hi0, hr0, hm0, hm1⟩
  have fin : ∀ (H' : Hp) (i r m x : Int), BagN G H' p c ns i r m → (∀ y, y ≠ p → H' y = H y) → 0 ≤ x → x < n → Q (.int x) H' := fun H' i r m x b off h0 h1 =>
    z _ H' G (.tr (.int x)) (B0.ext b off) rfl trivial (hq x h0 h1)
  have sqB : ∀ {H' : Hp} {i r m : Int}, BagN G H' p c ns i r m → SqL K H' p [.ref c, .int i, .int r, .int m] := fun b => .of b.at_
  have sqC : ∀ {H' : Hp} {i r m : Int}, BagN G H' p c ns i r m → SqL K H' c (ns.map V.int) := fun b => .of b.cellsH
  have offp : ∀ {H' : Hp} {o : HO}, (∀ y, y ≠ p → H' y = H y) → ∀ y, y ≠ p → upd H' p o y = H y := fun h y hy => by rw [upd_ne hy]; exact h y hy
  have at0 : ∀ (c : Addr) (i r m : Int), atI ([.ref c, .int i, .int r, .int m] : List V) 0 = some (.ref c) := fun _ _ _ _ => rfl
  have at1 : ∀ (c : Addr) (i r m : Int), atI ([.ref c, .int i, .int r, .int m] : List V) 1 = some (.int i) := fun _ _ _ _ => rfl
  have at2 : ∀ (c : Addr) (i r m : Int), atI ([.ref c, .int i, .int r, .int m] : List V) 2 = some (.int r) := fun _ _ _ _ => rfl
  have at3 : ∀ (c : Addr) (i r m : Int), atI ([.ref c, .int i, .int r, .int m] : List V) 3 = some (.int m) := fun _ _ _ _ => rfl
  refine ⟨fun σ H1 => ∃ a b i r m, σ = [some (.ref p), some (.int n), a, b] ∧ BagN G H1 p c ns i r m ∧ ∀ y, y ≠ p → H1 y = H y, ?_, ?_⟩
  · -- the cells
    refine ⟨_, rfl, p, _, _, _, rfl, rfl, sqB B0, at2 _ _ _ _, rfl, _, rfl, ?_⟩
    refine ite2 (fun _ => ?_) (fun _ => ?_)
    · refine ⟨_, rfl, p, _, _, _, rfl, rfl, sqB B0, at1 _ _ _ _, _, rfl, p, _, _, _, rfl, rfl, sqB B0, at0 _ _ _ _, c, _, rfl, .inl (sqC B0), _, _, rfl, rfl, _, rfl, ?_⟩
      refine ite2 (fun hlt => ?_) (fun _ => ?_)
      · have hlt : i0 < (ns.length : Int) := by
          have := of_decide_eq_true hlt
          rw [List.length_map] at this
          exact this
        obtain ⟨j, rfl⟩ : ∃ j : Nat, i0 = j := ⟨i0.toNat, by omega⟩
        have hj : j < ns.length := by omega
        have hat : atI (ns.map V.int) (j : Int) = some (.int ns[j]) := by
          unfold atI ixN
          rw [if_pos (by omega), if_pos (by rw [List.length_map]; omega)]
          simp [hj]
        have B1 := B0.put (i' := (j : Int) + 1) (r' := r0) (m' := m0) (by omega) hr0 ⟨hm0, hm1⟩
        refine ⟨_, rfl, p, _, _, _, rfl, rfl, sqB B0, at0 _ _ _ _, _, rfl, p, _, _, _, rfl, rfl, sqB B0, at1 _ _ _ _, c, _, _, _, rfl, rfl, sqC B0, hat, ?_⟩
        refine ⟨_, rfl, p, _, _, _, rfl, rfl, sqB B0, at1 _ _ _ _, _, _, rfl, rfl, _, rfl, p, _, _, 1, rfl, rfl, e0, rfl, ?_⟩
        refine ⟨_, rfl, _, rfl, _, _, rfl, rfl, ⟨by decide, by decide, by decide⟩, _, _, rfl, rfl, _, rfl, ?_⟩
        refine ite2 (fun _ => ?_) (fun _ => ?_)
        · refine ⟨_, rfl, _, rfl, _, rfl, p, _, _, 2, rfl, rfl, B1.at_, rfl, ?_⟩
          exact ⟨_, _, _, _, _, rfl, B1.put (by omega) (by split <;> omega) ⟨hm0, hm1⟩, offp (offp fun _ _ => rfl)⟩
        · refine ⟨_, rfl, p, _, _, _, rfl, rfl, sqB B1, at3 _ _ _ _, _, _, rfl, rfl, .inl (by constructor <;> omega), ?_⟩
          refine ⟨_, rfl, .inl ⟨_, rfl, _, _, rfl, rfl, (by show (0 : Int) < 1000081; decide), _, _, rfl, rfl, .inl (by constructor <;> omega), _, _, rfl, rfl, _, _, rfl, rfl, ?_⟩⟩
          refine .inl ⟨_, rfl, _, _, rfl, rfl, (by show (0 : Int) < 2147483543; decide), _, rfl, p, _, _, 3, rfl, rfl, B1.at_, rfl, ?_⟩
          exact ⟨_, _, _, _, _, rfl, B1.put (by omega) hr0 (by constructor <;> omega), offp (offp fun _ _ => rfl)⟩
      · exact ⟨_, _, _, _, _, rfl, B0, fun _ _ => rfl⟩
    · exact ⟨_, _, _, _, _, rfl, B0, fun _ _ => rfl⟩
  · rintro σ H1 ⟨a, b, i, r, m, rfl, B, off⟩
    have hi := B.hi
    have hr' := B.hr
    have hm' := B.hm
    -- the rest of a great cell
    refine ⟨_, rfl, p, _, _, _, rfl, rfl, sqB B, at2 _ _ _ _, _, _, rfl, rfl, _, rfl, ?_⟩
    refine ite2 (fun hpos => ?_) (fun _ => ?_)
    · refine ⟨_, rfl, p, _, _, _, rfl, rfl, sqB B, at2 _ _ _ _, .inl ⟨_, rfl, _, rfl, _, _, rfl, rfl, hn, ?_⟩⟩
      refine ⟨_, rfl, p, _, _, _, rfl, rfl, sqB B, at2 _ _ _ _, _, rfl, _, _, rfl, rfl, ⟨hn, hl⟩, _, rfl, p, _, _, 2, rfl, rfl, B.at_, rfl, ?_⟩
      exact ⟨_, rfl, fin _ i (r / n) m (r % n) (B.put hi (Int.ediv_nonneg hr' (by omega)) hm') (offp off) (Int.emod_nonneg _ (by omega)) (Int.emod_lt_of_pos _ hn)⟩
    -- the mixed number
    have hsq : m * m < 4611686018427387904 := by
      have h1 : m * m ≤ 2147483647 * 2147483647 := Int.mul_le_mul (by omega) (by omega) hm'.1 (by decide)
      omega
    have hsq0 : 0 ≤ m * m := Int.mul_nonneg hm'.1 hm'.1
    refine ⟨_, rfl, p, _, _, _, rfl, rfl, sqB B, at3 _ _ _ _, _, rfl, p, _, _, _, rfl, rfl, sqB B, at3 _ _ _ _, _, _, rfl, rfl, .inl (by constructor <;> omega), _, _, rfl, rfl, .inl (by constructor <;> omega), ?_⟩
    refine ⟨_, rfl, p, _, _, _, rfl, rfl, sqB B, at3 _ _ _ _, _, _, rfl, rfl, .inl (by constructor <;> omega), _, _, rfl, rfl, _, _, rfl, rfl, .inl ⟨_, rfl, ?_⟩⟩
    refine ⟨_, _, rfl, rfl, (by show (0 : Int) < 2147483563; decide), _, rfl, p, _, _, 3, rfl, rfl, B.at_, rfl, ?_⟩
    have B2 := B.put (i' := i) (r' := r) (m' := (m * m * 5 + m * 31013 + 1700021) % 2147483563) hi hr' (by constructor <;> omega)
    refine ⟨_, rfl, p, _, _, _, rfl, rfl, sqB B2, at3 _ _ _ _, _, _, rfl, rfl, ⟨by decide, by decide⟩, .inl ⟨_, rfl, _, rfl, _, _, rfl, rfl, hn, ?_⟩⟩
    exact fin _ i r _ _ B2 (offp off) (Int.emod_nonneg _ (by omega)) (Int.emod_lt_of_pos _ hn)
theorem ok_bag (h : DefAt K mg d__law_bag) (T : Facts mg) : ∃ fd, FunD K "_law_bag" "_law_bag" d__law_bag.params d__law_bag.body d__law_bag.scope [] [] (He.fAd K d__law_bag.at_) fd ∧ FnOk P w K mg base CX0 1 (He.fAd K d__law_bag.at_) fd ["_law_script"] (spBag K) := by
  obtain ⟨⟨fd, hf⟩, hm⟩ := h
  refine ⟨fd, hf, hf.ok sc__law_bag (fun vs H Q E ⟨a, ns, e, _⟩ => by rw [e]; rfl) (fun cdv A outer s H vs Q E hr hsp => ?_)⟩
  refine ⟨_, PSs.nox (pss_cons (ps_set (i := 1) sc__law_bag.nd rfl (.inl rfl) (pe_callTy call_list_of (by rfl) T.list (by decide +kernel) (pa_cons (pe_slice sl_list (pv 0) po_none (po_some pe_int)) pa_nil)))
    (pss_one (ps_ret (pe_lst (pa_cons (pv 1) (pa_cons pe_int (pa_cons pe_int (pa_cons (pe_op op_add pe_int (pe_op op_mul pe_int (pe_callB call_len_seq (by rfl) T.len PySem.boot_len (pa_cons (pv 1) pa_nil)))) pa_nil)))))))), ?_⟩
  obtain ⟨a, ns, rfl, hS, hq⟩ := hsp
  refine ⟨_, rfl, _, rfl, a, _, rfl, hS, fun p hp => ?_⟩
  rw [cut63]
  refine ⟨p, cellsV ns, rfl, .inl (.of upd_same), fun c hc => ?_⟩
  refine ⟨_, rfl, _, rfl, c, _, rfl, .inl (.of upd_same), ?_⟩
  refine ⟨_, _, rfl, rfl, ?_, _, _, rfl, rfl, ?_⟩
  · exact .inl ⟨by decide, by decide⟩
  refine ⟨by show 4 ≤ sizeLine; decide, fun q hq' => ?_⟩
  have hcq : c ≠ q := fun z => by rw [z, upd_same] at hq'; cases hq'
  have hpc : p ≠ c := fun z => by rw [z, upd_same] at hc; cases hc
  rw [upd_ne hpc.symm] at hc
  rw [upd_ne hcq.symm] at hq'
  have hpq : q ≠ p := fun z => by rw [z, upd_same] at hq'; cases hq'
  rw [upd_ne hpq] at hq'
  refine hq _ c q hc hq' (by rw [upd_ne hcq, upd_same]) upd_same fun b o e => ?_
  rw [upd_ne (ne_of_none e hq'), upd_ne (ne_of_none e hc), upd_ne (ne_of_none e hp)]
  exact e
theorem ok_pick (h : DefAt K mg d__law_pick) (T : Facts mg) (c__law_draw : FnV P w K mg base d__law_draw 1 ["_law_bag_here", "_law_many"] fDraw) : FnV P w K mg base d__law_pick 2 ["_law_bag_here", "_law_some"] fPick :=
  fnv_ok h sc__law_pick (fun f cdv A outer s H E hr => (vss_one (vs_ret (ve_ixA (hu1 hr) (ve_name 1) (ve_cv c__law_draw (hr.mono (by omega)) rfl rfl rfl (fun _ _ _ _ _ _ us hl => match us, hl with | [_, _], _ => rfl) (by rfl) (va_cons (ve_name 0) (va_cons (ve_fz (ve_callB cw_len (by rfl) T.len (by decide +kernel) (va_cons (ve_name 1) va_nil))) va_nil))))))) (by rintro svs Qs (⟨_, rfl, _⟩ | ⟨_, rfl, _⟩) <;> rfl) (by
    rintro svs Qs (⟨xs, rfl, h0, h1, q⟩ | ⟨z, rfl, h0, h1, q⟩)
    · simp
      refine ⟨h0, log_lt (by omega), fun r r0 r1 => ?_⟩
      obtain ⟨d, hd, e⟩ := atI_lt r0 r1
      exact ⟨d, e, q d hd⟩
    · simp
      refine ⟨h0, log_lt (by omega), fun r r0 r1 => ?_⟩
      obtain ⟨d, hd, e⟩ := atI_lt (xs := z.cps.toList) r0 r1
      exact ⟨d, e, q d hd⟩)
theorem ok_same (h : DefAt K mg d__law_same) (T : Facts mg) (n : Nat) : FnV P w K mg base d__law_same n ["_law_found", "_law_due"] (fSame n) := by
  induction n with
  | zero => exact (FnV.none h).imp (by rintro svs Q ⟨_, _, a, b, _, _, _, _, _, _, h, _⟩; omega)
  | succ n c__law_same =>
    exact fnv_ok h sc__law_same (fun f cdv A outer s H E hr => (vss_cons (vs_if (vc_tru (ve_isi .list (ve_name 1) (by rfl) T.isinstance (by rfl) T.list (by decide +kernel))) (vss_one (vs_ret (ve_and (ve_isi .list (ve_name 0) (by rfl) T.isinstance (by rfl) T.list (by decide +kernel)) (ve_and (ve_cmp (ow_eq hr.units) (ve_callB cw_len (by rfl) T.len (by decide +kernel) (va_cons (ve_name 0) va_nil)) (ve_callB cw_len (by rfl) T.len (by decide +kernel) (va_cons (ve_name 1) va_nil))) (ve_one (ve_callB (cw_all rfl) (by rfl) T.all (by decide +kernel) (va_cons (ve_lc (own := [("_law_a", 2), ("_law_b", 3)]) rfl sc__law_same.nd (vi_zip (by rfl) T.zip (va_cons (ve_name 0) (va_cons (ve_name 1) va_nil))) (blkOk_by (own := [("_law_a", 2), ("_law_b", 3)]) (N := ["_law_found", "_law_due", "_law_a", "_law_b"]) (sc := d__law_same.scope) (by decide +kernel)) (fun _ _ _ _ _ => (vg_tup rfl (vgs_cons (i := 2) sc__law_same.nd rfl (by first | exact Or.inl rfl | exact Or.inr rfl) (vgs_cons (i := 3) sc__law_same.nd rfl (by first | exact Or.inl rfl | exact Or.inr rfl) vgs_nil)))) (fun _ _ _ _ _ => vcs_nil) (fun _ _ _ _ _ => (ve_fz (ve_cv c__law_same (hr.mono (by omega)) rfl rfl rfl (fun _ _ _ _ _ _ us hl => match us, hl with | [_, _], _ => rfl) (by rfl) (va_cons (ve_name 2) (va_cons (ve_name 3) va_nil)))))) va_nil))))))) vss_nil) (vss_cons (vs_if (vc_tru (ve_isi .tuple (ve_name 1) (by rfl) T.isinstance (by rfl) T.tuple (by decide +kernel))) (vss_one (vs_ret (ve_and (ve_isi .tuple (ve_name 0) (by rfl) T.isinstance (by rfl) T.tuple (by decide +kernel)) (ve_and (ve_cmp (ow_eq hr.units) (ve_callB cw_len (by rfl) T.len (by decide +kernel) (va_cons (ve_name 0) va_nil)) (ve_callB cw_len (by rfl) T.len (by decide +kernel) (va_cons (ve_name 1) va_nil))) (ve_one (ve_callB (cw_all rfl) (by rfl) T.all (by decide +kernel) (va_cons (ve_lc (own := [("_law_a", 2), ("_law_b", 3)]) rfl sc__law_same.nd (vi_zip (by rfl) T.zip (va_cons (ve_name 0) (va_cons (ve_name 1) va_nil))) (blkOk_by (own := [("_law_a", 2), ("_law_b", 3)]) (N := ["_law_found", "_law_due", "_law_a", "_law_b"]) (sc := d__law_same.scope) (by decide +kernel)) (fun _ _ _ _ _ => (vg_tup rfl (vgs_cons (i := 2) sc__law_same.nd rfl (by first | exact Or.inl rfl | exact Or.inr rfl) (vgs_cons (i := 3) sc__law_same.nd rfl (by first | exact Or.inl rfl | exact Or.inr rfl) vgs_nil)))) (fun _ _ _ _ _ => vcs_nil) (fun _ _ _ _ _ => (ve_fz (ve_cv c__law_same (hr.mono (by omega)) rfl rfl rfl (fun _ _ _ _ _ _ us hl => match us, hl with | [_, _], _ => rfl) (by rfl) (va_cons (ve_name 2) (va_cons (ve_name 3) va_nil)))))) va_nil))))))) vss_nil) (vss_cons (vs_if (VW.vc (vw_or (vc_cmp ow_is (ve_name 1) ve_non) (vw_or1 (vc_cmp ow_is (ve_name 0) ve_non)))) (vss_one (vs_ret (ve_and (ve_cmp ow_is (ve_name 1) ve_non) (ve_one (ve_cmp ow_is (ve_name 0) ve_non))))) vss_nil) (vss_cons (vs_if (VW.vc (vw_or (vc_tru (ve_isi .bool (ve_name 1) (by rfl) T.isinstance (by rfl) T.bool (by decide +kernel))) (vw_or1 (vc_tru (ve_isi .bool (ve_name 0) (by rfl) T.isinstance (by rfl) T.bool (by decide +kernel)))))) (vss_one (vs_ret (ve_and (ve_isi .bool (ve_name 1) (by rfl) T.isinstance (by rfl) T.bool (by decide +kernel)) (ve_and (ve_isi .bool (ve_name 0) (by rfl) T.isinstance (by rfl) T.bool (by decide +kernel)) (ve_one (ve_cmp (ow_eq hr.units) (ve_name 0) (ve_name 1))))))) vss_nil) (vss_cons (vs_if (vc_tru (ve_isi .int (ve_name 1) (by rfl) T.isinstance (by rfl) T.int (by decide +kernel))) (vss_one (vs_ret (ve_and (ve_isi .int (ve_name 0) (by rfl) T.isinstance (by rfl) T.int (by decide +kernel)) (ve_one (ve_cmp (ow_eq hr.units) (ve_name 0) (ve_name 1)))))) vss_nil) (vss_one (vs_ret (ve_and (ve_isi .str (ve_name 0) (by rfl) T.isinstance (by rfl) T.str (by decide +kernel)) (ve_one (ve_cmp (ow_eq hr.units) (ve_name 0) (ve_name 1)))))))))))) (by rintro svs Qs ⟨_, _, _, _, rfl, _⟩; rfl) (by
      rintro svs Qs ⟨sa, sb, a, b, rfl, ia, ib, ha, hb, hw, hd, q⟩
      cases b <;> cases a <;> first
        | (simp [D.dat] at ha; done)
        | (simp [D.dat] at hb; done)
        | (simpa [sameD, gSeq, ia.look, ia.d, ib.look, ib.d] using q)
        | skip
      all_goals
        rename_i ys xs
        simp [sameD] at q ha hb hd hw
        simp [gSeq, ia.look, ia.d, ib.look, ib.d]
        split
        · rename_i hl
          have hl : xs.length = ys.length := by omega
          first | rw [zipR_isa ia ib] | rw [zipR_isat ia ib]
          rw [zipD_eq]
          refine lcW_map (fun (p : D × D) => .tup [p.1, p.2]) (fun (p : D × D) => .bl (sameD p.1 p.2)) rfl ?_ (fun p hp R r => ?_) ?_
          · rw [List.length_zip]
            unfold sizeLine
            omega
          · have h1 := List.of_mem_zip (a := p.1) (b := p.2) hp
            simp [gSeq]
            exact ⟨dats_all ha _ h1.1, dats_all hb _ h1.2, wids_all hw.2 _ h1.2, dep_lt_of_mem (by omega) _ h1.2, r⟩
          · simp
            rw [← sames_zip]
            simpa [hl] using q
        · rename_i hl
          have hl : xs.length ≠ ys.length := by omega
          simpa [hl] using q)
end
end K2

namespace K2
open PySem PySem.Spec PyProof.Rows L2 VT HP
/-! the law's own defs about errors -/
def fField (K : PySem.W.Frag) : FEp := fun C fs Q => caught K (fun _ d => Q (.tr d)) C fs
def fGot (K : PySem.W.Frag) : FTp := fun TL svs Q _ => ∃ f b, svs = [.tr (.fn f b)] ∧ TL b (fun sv => ∃ d, sv.let_ = .tr d ∧ Q (.tr (.tup [.str Str.empty, d]))) (caught K fun c d => Q (.tr (.tup [c, d])))
@[simp] theorem look_exc (a C dx : Addr) (fs : List (Str × D)) : (SV.exc a C dx fs).look = .exc a C dx fs := rfl
section
variable {P : Program} {w : World} {K : PySem.W.Frag} {mg : Str → Option Value} {base : Heap}
theorem ok_field (h : DefAt K mg d__law_field) (T : Facts mg) (XX : XF P w K mg base) : FnE P w K mg base d__law_field 2 "_law_e" (fField K) :=
  fne_ok h sc__law_field (fun dV kV doc pm an cdv ct u _ e => by subst e; rfl) (fun a oe C dx cdv A outer s H hr hz hd => (vss_cons (vs_if (vc_cmp (ow_in (hotU hr) (hotV hr)) (ve_xg [He.ga _ "NothingLeft", He.ga _ "InvalidHabit"] (List.forall_mem_cons.mpr ⟨XX.c_NothingLeft, (List.forall_mem_cons.mpr ⟨XX.c_InvalidHabit, (fun _ h => nomatch h)⟩)⟩) List.mem_cons_self hz hd (ve_name 0)) (ve_lst (va_cons ve_str (va_cons ve_str (va_cons ve_str (va_cons ve_str va_nil)))))) (vss_one (vs_ret (ve_xg [] (fun _ h => nomatch h) List.mem_cons_self hz hd (ve_name 0)))) vss_nil) (vss_cons (vs_if (vc_cmp (ow_in (hotU hr) (hotV hr)) (ve_xg [He.ga _ "NothingLeft", He.ga _ "InvalidHabit"] (List.forall_mem_cons.mpr ⟨XX.c_NothingLeft, (List.forall_mem_cons.mpr ⟨XX.c_InvalidHabit, (fun _ h => nomatch h)⟩)⟩) List.mem_cons_self hz hd (ve_name 0)) (ve_lst (va_cons ve_str (va_cons ve_str (va_cons ve_str va_nil))))) (vss_one (vs_ret (ve_xg [] (fun _ h => nomatch h) List.mem_cons_self hz hd (ve_name 0)))) vss_nil) (vss_cons (vs_if (vc_cmp (ow_in (hotU hr) (hotV hr)) (ve_xg [He.ga _ "NothingLeft", He.ga _ "InvalidHabit"] (List.forall_mem_cons.mpr ⟨XX.c_NothingLeft, (List.forall_mem_cons.mpr ⟨XX.c_InvalidHabit, (fun _ h => nomatch h)⟩)⟩) List.mem_cons_self hz hd (ve_name 0)) (ve_lst (va_cons ve_str (va_cons ve_str va_nil)))) (vss_one (vs_ret (ve_xg [] (fun _ h => nomatch h) List.mem_cons_self hz hd (ve_name 0)))) vss_nil) (vss_cons (vs_if (vc_cmp (ow_in (hotU hr) (hotV hr)) (ve_xg [He.ga _ "NothingLeft", He.ga _ "InvalidHabit"] (List.forall_mem_cons.mpr ⟨XX.c_NothingLeft, (List.forall_mem_cons.mpr ⟨XX.c_InvalidHabit, (fun _ h => nomatch h)⟩)⟩) List.mem_cons_self hz hd (ve_name 0)) (ve_lst (va_cons ve_str (va_cons ve_str va_nil)))) (vss_one (vs_ret (ve_xg [] (fun _ h => nomatch h) List.mem_cons_self hz hd (ve_name 0)))) vss_nil) (vss_cons (vs_if (vc_cmp (ow_in (hotU hr) (hotV hr)) (ve_xg [He.ga _ "NothingLeft", He.ga _ "InvalidHabit"] (List.forall_mem_cons.mpr ⟨XX.c_NothingLeft, (List.forall_mem_cons.mpr ⟨XX.c_InvalidHabit, (fun _ h => nomatch h)⟩)⟩) List.mem_cons_self hz hd (ve_name 0)) (ve_lst (va_cons ve_str (va_cons ve_str va_nil)))) (vss_one (vs_ret (ve_xg [] (fun _ h => nomatch h) List.mem_cons_self hz hd (ve_name 0)))) vss_nil) (vss_cons (vs_if (vc_cmp (ow_eq (hotU hr)) (ve_xg [He.ga _ "NothingLeft", He.ga _ "InvalidHabit"] (List.forall_mem_cons.mpr ⟨XX.c_NothingLeft, (List.forall_mem_cons.mpr ⟨XX.c_InvalidHabit, (fun _ h => nomatch h)⟩)⟩) List.mem_cons_self hz hd (ve_name 0)) ve_str) (vss_one (vs_ret (ve_xg [He.ga _ "InvalidHabit"] (List.forall_mem_cons.mpr ⟨XX.f_InvalidHabit, (fun _ h => nomatch h)⟩) List.mem_cons_self hz hd (ve_name 0)))) vss_nil) (vss_one (vs_ret (ve_if (vc_cmp (ow_eq (hotU hr)) (ve_xg [He.ga _ "NothingLeft", He.ga _ "InvalidHabit"] (List.forall_mem_cons.mpr ⟨XX.c_NothingLeft, (List.forall_mem_cons.mpr ⟨XX.c_InvalidHabit, (fun _ h => nomatch h)⟩)⟩) List.mem_cons_self hz hd (ve_name 0)) ve_str) (ve_xg [] (fun _ h => nomatch h) List.mem_cons_self hz hd (ve_name 0)) ve_non)))))))))) (by
    rintro a C dx fs Qs h
    unfold fField caught at h
    rcases h with ⟨rfl, rfl, q⟩ | ⟨rfl, d, rfl, q⟩
    all_goals simp (decide := true) [gSeq, List.lookup]
    all_goals exact q)
theorem ok_got (h : DefAt K mg d__law_got) (T : Facts mg) (XX : XF P w K mg base) (c__law_field : FnE P w K mg base d__law_field 2 "_law_e" (fField K)) : FnT P w K mg base d__law_got 63 ["_law_ask"] (fGot K) :=
  fnt_ok h sc__law_got (fun EX cdv A outer s H E hr => (vss_one (by refine vs_try (mt := (fun cls => PySem.W.exmAny K cls [.ref (He.ga K "HeardError"), .ref (He.ga K "Missing"), .ref (He.ga K "NothingLeft")])) (i := 1) ?hT sc__law_got.nd rfl rfl rfl rfl (fun EX pn xe hp => (vss_one (vs_ret (ve_tup (va_cons ve_str (va_cons (ve_fz (ve_thk 0 (hr.mono (by decide)))) va_nil)))))) (fun a oe C dx pn hz hd hb => (vss_one (vs_ret (ve_tup (va_cons (ve_fz (ve_xg [He.ga _ "NothingLeft", He.ga _ "InvalidHabit"] (List.forall_mem_cons.mpr ⟨XX.c_NothingLeft, (List.forall_mem_cons.mpr ⟨XX.c_InvalidHabit, (fun _ h => nomatch h)⟩)⟩) List.mem_cons_self hz hd (ve_name 1))) (va_cons (ve_fz (ve_callE c__law_field 1 rfl rfl (L2H.RoomH.mono (hotR hr) (by omega)) List.mem_cons_self hz hd (by rfl))) va_nil)))))); exact (ext_tup3 ⟨by rfl, by decide, .inl XX.g_HeardError⟩ ⟨by rfl, by decide, .inl XX.g_Missing⟩ ⟨by rfl, by decide, .inl XX.g_NothingLeft⟩)))) (by rintro TL svs Qs Qx ⟨_, _, rfl, _⟩; rfl) (by
    rintro TL svs Qs Qx mono ⟨f, b, rfl, q⟩
    simp
    refine ⟨f, b, ⟨rfl, rfl⟩, mono _ _ _ _ _ (fun sv h => ?_) (fun C fs h => ?_) q⟩
    · obtain ⟨d, hd, q⟩ := h
      rw [hd]
      simp
      exact q
    · unfold caught at h
      rcases h with ⟨rfl, rfl, q⟩ | ⟨rfl, d, rfl, q⟩
      all_goals refine ⟨true, by first | exact XX.t_NothingLeft | exact XX.t_InvalidHabit, fun _ a dx => ?_, nofun⟩
      all_goals simp (decide := true) [List.lookup, fField]
      all_goals unfold caught
      all_goals first | exact .inl ⟨rfl, rfl, q⟩ | exact .inr (⟨rfl, _, rfl, q⟩))
end
section
variable {P : Program} {w : World} {K : PySem.W.Frag} {mg : Str → Option Value} {base : Heap}
theorem caught_mono {Q Q' : D → D → Prop} (h : ∀ c d, Q c d → Q' c d) {C : Addr} {fs : List (Str × D)} (q : caught K Q C fs) : caught K Q' C fs := by
  unfold caught at q ⊢
  rcases q with ⟨rfl, rfl, q⟩ | ⟨rfl, d, rfl, q⟩
  all_goals have q := h _ _ q
  all_goals first | exact .inl ⟨rfl, rfl, q⟩ | exact .inr (⟨rfl, _, rfl, q⟩)
def allW (K : PySem.W.Frag) (TL : TLT) : List (Addr × LamB) → (List D → Prop) → Prop
  | [], Q => Q []
  | (_, b) :: r, Q => TL b (fun sv => ∃ d, sv.let_ = .tr d ∧ allW K TL r fun ds => Q (.tup [.str Str.empty, d] :: ds)) (caught K fun c d => allW K TL r fun ds => Q (.tup [c, d] :: ds))
def fAll (K : PySem.W.Frag) : FTp := fun TL svs Q _ => ∃ (sv : SV) (l : List (Addr × LamB)), svs = [sv] ∧ IsA sv (.lst (l.map fun p => .fn p.1 p.2)) ∧ l.length ≤ sizeLine ∧ allW K TL l fun ds => Q (.own (.lst ds))
theorem allW_mono {TL : TLT} (mono : TLMono TL) : ∀ (l : List (Addr × LamB)) (Q Q' : List D → Prop), (∀ ds, Q ds → Q' ds) → allW K TL l Q → allW K TL l Q'
  | [], _, _, h, q => h _ q
  | (_, b) :: r, _, _, h, q => mono b _ _ _ _ (fun _ ⟨d, hd, q1⟩ => ⟨d, hd, allW_mono mono r _ _ (fun ds h1 => h _ h1) q1⟩) (fun C fs h1 => caught_mono (fun c d q1 => allW_mono mono r _ _ (fun ds h1 => h _ h1) q1) h1) q
theorem ok_all (h : DefAt K mg d__law_all) (T : Facts mg) (c__law_got : FnT P w K mg base d__law_got 63 ["_law_ask"] (fGot K)) : FnT P w K mg base d__law_all 64 ["_law_asks"] (fAll K) :=
  fnt_ok h sc__law_all (fun EX cdv A outer s H E hr => (vss_one (vs_ret (ve_lc (own := [("_law_ask", 1)]) rfl sc__law_all.nd (vi_seq (ve_name 0)) (blkOk_by (own := [("_law_ask", 1)]) (N := ["_law_asks", "_law_ask"]) (sc := d__law_all.scope) (by decide +kernel)) (fun _ _ _ _ _ => (vg_name (i := 1) sc__law_all.nd rfl (by first | exact Or.inl rfl | exact Or.inr rfl))) (fun _ _ _ _ _ => vcs_nil) (fun _ _ _ _ _ => (ve_fz (ve_ctp (n := 1) (ks := []) (ix := [0]) (dd := []) c__law_got rfl (hr.mono (by omega)) (fun fd cl h => h.kbA (fun _ _ _ _ _ _ us ws h1 h2 => match us, ws, h1, h2 with | [_], [], _, _ => rfl)) .nil (by rfl) (va_cons (ve_name 1) va_nil) vk_nil))))))) (by rintro TL svs Qs Qx ⟨_, _, rfl, _⟩; rfl) (by
    rintro TL svs Qs Qx mono ⟨sv, l, rfl, ia, hl, q⟩
    simp [ia.look, ia.d]
    refine ⟨ia.st true, fun ds acc => ∃ l : List (Addr × LamB), ds = l.map (fun p => D.fn p.1 p.2) ∧ acc.length + l.length ≤ sizeLine ∧ allW K TL l fun ds => Qs (.own (.lst (acc ++ ds))), ⟨l, rfl, by simpa using hl, by simpa using q⟩, fun acc ⟨l, e, _, q⟩ => ?_, fun d r acc ⟨l, e, hl, q⟩ => ?_⟩
    · cases l with
      | nil => exact ⟨trivial, by simpa [allW] using q⟩
      | cons => cases e
    · cases l with
      | nil => cases e
      | cons p l =>
        simp at e hl
        obtain ⟨rfl, rfl⟩ := e
        obtain ⟨f, b⟩ := p
        simp [fGot]
        refine ⟨f, b, ⟨rfl, rfl⟩, ?_⟩
        refine mono b _ _ _ _ (fun sv ⟨d, hd, q1⟩ => ⟨d, hd, ?_⟩) (fun C fs h => caught_mono (fun c d q1 => ?_) h) q
        · exact ⟨by omega, l, rfl, by omega, by simpa using q1⟩
        · exact ⟨by omega, l, rfl, by omega, by simpa using q1⟩)
end
/-! names and numbers -/
section
variable {P : Program} {w : World} {K : PySem.W.Frag} {mg : Str → Option Value} {base : Heap}
theorem ok_is_name (h : DefAt K mg d_is_name) (T : Facts mg) : FnV P w K mg base d_is_name 1 ["value"] (f1 fun d => .bl (isNameD d)) :=
  fnv_ok h sc_is_name (fun f cdv A outer s H E hr => (vss_one (vs_ret (ve_and (ve_isi .str (ve_name 0) (by rfl) T.isinstance (by rfl) T.str (by decide +kernel)) (ve_and (ve_chain ow_le ow_le ve_int (ve_callB cw_len (by rfl) T.len (by decide +kernel) (va_cons (ve_name 0) va_nil)) (ve_gint T.c_MOST_SIGNS (by rfl))) (ve_one (ve_callB (cw_all rfl) (by rfl) T.all (by decide +kernel) (va_cons (ve_lc (own := [("sign", 1)]) rfl sc_is_name.nd (vi_seq (ve_name 0)) (blkOk_by (own := [("sign", 1)]) (N := ["value", "sign"]) (sc := d_is_name.scope) (by decide +kernel)) (fun _ _ _ _ _ => (vg_name (i := 1) sc_is_name.nd rfl (by first | exact Or.inl rfl | exact Or.inr rfl))) (fun _ _ _ _ _ => vcs_nil) (fun _ _ _ _ _ => (ve_cmp (ow_in hr.units (hu65 hr)) (ve_name 1) (ve_gstr T.c_LETTERS (by rfl))))) va_nil)))))))) f1_len (by
    rintro svs Qs ⟨d, rfl, hk, q⟩
    cases d <;> first
      | (simp [D.kind] at hk; done)
      | (simpa [isNameD, gSeq] using q)
      | skip
    rename_i z
    simp [gSeq]
    by_cases h1 : 1 ≤ z.length
    · refine .inr ⟨by omega, ?_⟩
      by_cases h2 : z.length ≤ 6
      · refine .inr ⟨by omega, lcW_map (fun c => .str ⟨#[c]⟩) (fun c => .bl (decide (c ∈ letters.cps))) rfl ?_ (fun c hc R r => ?_) ?_⟩
        · have : z.cps.toList.length = z.length := rfl
          rw [this]; unfold sizeLine; omega
        · simp
          exact r
        · simp
          simpa [isNameD, isNameS, h1, h2, List.all_map, Function.comp_def] using q
      · refine .inl ⟨by omega, ?_⟩
        simpa [isNameD, isNameS, h1, h2] using q
    · refine .inl ⟨by omega, ?_⟩
      simpa [isNameD, isNameS, h1] using q)
theorem ok_is_number (h : DefAt K mg d_is_number) (T : Facts mg) : FnV P w K mg base d_is_number 1 ["value"] (f1 fun d => .bl (isNumD d)) :=
  fnv_ok h sc_is_number (fun f cdv A outer s H E hr => (vss_one (vs_ret (ve_and (ve_isi .int (ve_name 0) (by rfl) T.isinstance (by rfl) T.int (by decide +kernel)) (ve_one (ve_not (ve_isi .bool (ve_name 0) (by rfl) T.isinstance (by rfl) T.bool (by decide +kernel)))))))) f1_len (by
    rintro svs Qs ⟨d, rfl, hk, q⟩
    cases d <;> first
      | (simp [D.kind] at hk; done)
      | (simpa [isNumD, gSeq] using q))
theorem ok_is_within (h : DefAt K mg d_is_within) (T : Facts mg) (c_is_number : FnV P w K mg base d_is_number 1 ["value"] (f1 fun d => .bl (isNumD d))) : FnV P w K mg base d_is_within 2 ["value", "least", "most"] fWithin :=
  fnv_ok h sc_is_within (fun f cdv A outer s H E hr => (vss_one (vs_ret (ve_and (ve_cv c_is_number (hr.mono (by omega)) rfl rfl rfl (fun _ _ _ _ _ _ us hl => match us, hl with | [_], _ => rfl) (by rfl) (va_cons (ve_name 0) va_nil)) (ve_one (ve_chain ow_le ow_le (ve_name 1) (ve_name 0) (ve_name 2))))))) (by rintro svs Qs ⟨_, _, _, rfl, _⟩; rfl) (by
    rintro svs Qs ⟨d, a, b, rfl, hk, q⟩
    simp [gSeq, hk]
    cases d <;> simp [isNumD, inD] at q ⊢ <;> try exact q
    rename_i i
    rcases ltge i a with h | h
    · exact .inl ⟨h, by simpa [h, Int.not_le.mpr h] using q⟩
    · exact .inr ⟨h, by simpa [h] using q⟩)
end
/-! habits -/
section
variable {P : Program} {w : World} {K : PySem.W.Frag} {mg : Str → Option Value} {base : Heap}
theorem ok_need_within (h : DefAt K mg d_need_within) (T : Facts mg) (XX : XF P w K mg base) (c_is_within : FnV P w K mg base d_is_within 2 ["value", "least", "most"] fWithin) : FnG P w K mg base d_need_within 3 ["word", "value", "least", "most"] (fNeedW K) :=
  ⟨fnx_ok h.fd sc_need_within (fun EX cdv A outer s H E hr => (vss_one (vs_if (vc_not (vc_tru (ve_cv c_is_within (hr.mono (by omega)) rfl rfl rfl (fun _ _ _ _ _ _ us hl => match us, hl with | [_, _, _], _ => rfl) (by rfl) (va_cons (ve_name 1) (va_cons (ve_name 2) (va_cons (ve_name 3) va_nil)))))) (vss_one (vs_raise XX.m_InvalidHabit (hr.mono (by omega)) rfl (by rfl) (va_cons (ve_name 0) va_nil))) vss_nil))) (by rintro svs Qs Qx ⟨_, _, _, _, rfl, _⟩; rfl) (by
    rintro svs Qs Qx ⟨z, d, a, b, rfl, hd, q1, q2⟩
    simp
    refine ⟨smp_kind hd, ?_⟩
    cases hb : inD d a b with
    | false => exact .inl ⟨rfl, q2 hb⟩
    | true => exact .inr ⟨rfl, q1 hb⟩), h.mg⟩
theorem ok_habit (h : ∃ fd, FunD K d_Habit___init__.name d_Habit___init__.qual d_Habit___init__.params d_Habit___init__.body d_Habit___init__.scope (d_Habit___init__.dvs K) (d_Habit___init__.kws K) (He.fAd K d_Habit___init__.at_) fd) (T : Facts mg) (C : CF K mg) (XX : XF P w K mg base) (c_need_within : FnG P w K mg base d_need_within 3 ["word", "value", "least", "most"] (fNeedW K)) :
    IniU P w K mg base d_Habit___init__ (He.fAd K d_Habit___init__.at_) 4 ["self", "late"] (uHabit K) :=
  iniu_ok h sc_Habit___init__ (fun EX cdv A outer s H E hr => (vss_cons (vs_if (vc_cmp ow_isnot (ve_name 1) ve_non) (vss_one (vs_expr (ve_cx (n := 4) (ks := []) (ix := [0, 1, 2, 3]) (dd := []) c_need_within.x (hr.mono (by omega)) c_need_within.mg (fun fd cl h => h.kbA (fun _ _ _ _ _ _ us ws h1 h2 => match us, ws, h1, h2 with | [_, _, _, _], [], _, _ => rfl)) .nil (by rfl) (va_cons ve_str (va_cons (ve_name 1) (va_cons ve_int (va_cons (ve_gint T.c_MOST_NUMBER (by rfl)) va_nil)))) vk_nil))) vss_nil) (vss_one (vs_fset 0 [(He.ga _ "Habit"), (He.ga _ "Free"), (He.ga _ "Spaced"), (He.ga _ "Answering")] (ve_name 1) (in_cons ⟨C.c_Habit, C.n_Habit_late⟩ (in_cons ⟨C.c_Free, C.n_Free_late⟩ (in_cons ⟨C.c_Spaced, C.n_Spaced_late⟩ (in_cons ⟨C.c_Answering, C.n_Answering_late⟩ in_nil)))))))) (by rintro C fs svs Qf Qx ⟨_, _, _, rfl, _⟩; rfl) (by
    rintro C fs xa svs Qf Qx ⟨hC, rfl, d, rfl, hd, q1, q2⟩
    refine gSeq_go fun R hR => ?_
    simp
    have fin : lateOk d = true → R [some (SV.obj xa C []), some (SV.tr d)] := fun hk => by
      rw [hR]
      clear hR R
      simp
      exact ⟨_, _, _, ⟨rfl, rfl, rfl⟩, (by simpa [HCls] using hC), by decide, _, ⟨rfl, rfl, rfl⟩, q1 hk⟩
    refine ⟨(by rintro rfl; cases hd), ?_⟩
    cases hn : d.isNon with
    | true => exact .inl ⟨rfl, fin (by simp [lateOk, hn])⟩
    | false => exact .inr ⟨rfl, _, d, 0, 99, rfl, hd, fun h => fin (by simp [lateOk, h]), fun h => q2 (by simp [lateOk, hn, h])⟩)
theorem ok_free (h : SupD P K mg d_Free___init__ (He.fAd K d_Free___init__.at_) (He.ga K "Free") ["self"] ["self"] "self") (T : Facts mg) (C : CF K mg) (c_Habit___init__ : IniU P w K mg base d_Habit___init__ (He.fAd K d_Habit___init__.at_) 4 ["self", "late"] (uHabit K)) :
    IniU P w K mg base d_Free___init__ (He.fAd K d_Free___init__.at_) 5 ["self"] (uFree K) :=
  iniu_okS h (fun EX cdv A outer s H E hr SX => (vssa_one (vsa_supi0 (k := 4) (ks := ["late"]) (ix := [0]) (dd := []) SX (salt1I ⟨⟨_, _, _, _, C.su_Free___init___Free, c_Habit___init__.mono (by omega), (fun fd cl h => h.kbA (fun _ _ _ _ _ _ us ws h1 h2 => match us, ws, h1, h2 with | [_], [_], _, _ => rfl)), .nil⟩⟩) (hr.mono (by omega)) (vk_cons ve_non vk_nil)))) (by rintro C fs svs Qf Qx ⟨_, _, rfl, _⟩; rfl) (by
    rintro C fs xa svs Qf Qx ⟨rfl, rfl, rfl, q⟩
    simp
    exact ⟨_, _, _, ⟨rfl, rfl, rfl⟩, _, ⟨rfl, rfl⟩, by simp [HCls], rfl, .non, rfl, rfl, fun _ => ⟨_, ⟨rfl, rfl, rfl⟩, q⟩, fun h => by cases h⟩)
theorem ok_spaced (h : SupD P K mg d_Spaced___init__ (He.fAd K d_Spaced___init__.at_) (He.ga K "Spaced") ["self", "burst", "window", "pause", "late"] ["self", "burst", "window", "pause", "late"] "self") (T : Facts mg) (C : CF K mg) (XX : XF P w K mg base) (c_need_within : FnG P w K mg base d_need_within 3 ["word", "value", "least", "most"] (fNeedW K)) (c_Habit___init__ : IniU P w K mg base d_Habit___init__ (He.fAd K d_Habit___init__.at_) 4 ["self", "late"] (uHabit K)) :
    IniU P w K mg base d_Spaced___init__ (He.fAd K d_Spaced___init__.at_) 5 ["self", "burst", "window", "pause", "late"] (uSpaced K) :=
  iniu_okS h (fun EX cdv A outer s H E hr SX => (vssa_cons (vsa_of (vs_expr (ve_cx (n := 4) (ks := []) (ix := [0, 1, 2, 3]) (dd := []) c_need_within.x (hr.mono (by omega)) c_need_within.mg (fun fd cl h => h.kbA (fun _ _ _ _ _ _ us ws h1 h2 => match us, ws, h1, h2 with | [_, _, _, _], [], _, _ => rfl)) .nil (by rfl) (va_cons ve_str (va_cons (ve_name 1) (va_cons ve_int (va_cons (ve_gint T.c_MOST_BURST (by rfl)) va_nil)))) vk_nil))) (vssa_cons (vsa_of (vs_expr (ve_cx (n := 4) (ks := []) (ix := [0, 1, 2, 3]) (dd := []) c_need_within.x (hr.mono (by omega)) c_need_within.mg (fun fd cl h => h.kbA (fun _ _ _ _ _ _ us ws h1 h2 => match us, ws, h1, h2 with | [_, _, _, _], [], _, _ => rfl)) .nil (by rfl) (va_cons ve_str (va_cons (ve_name 2) (va_cons ve_int (va_cons (ve_gint T.c_MOST_NUMBER (by rfl)) va_nil)))) vk_nil))) (vssa_cons (vsa_of (vs_if (vc_cmp ow_isnot (ve_name 3) ve_non) (vss_cons (vs_expr (ve_cx (n := 4) (ks := []) (ix := [0, 1, 2, 3]) (dd := []) c_need_within.x (hr.mono (by omega)) c_need_within.mg (fun fd cl h => h.kbA (fun _ _ _ _ _ _ us ws h1 h2 => match us, ws, h1, h2 with | [_, _, _, _], [], _, _ => rfl)) .nil (by rfl) (va_cons ve_str (va_cons (ve_name 3) (va_cons (ve_name 2) (va_cons (ve_gint T.c_MOST_NUMBER (by rfl)) va_nil)))) vk_nil)) (vss_one (vs_expr (ve_cx (n := 4) (ks := []) (ix := [0, 1, 2, 3]) (dd := []) c_need_within.x (hr.mono (by omega)) c_need_within.mg (fun fd cl h => h.kbA (fun _ _ _ _ _ _ us ws h1 h2 => match us, ws, h1, h2 with | [_, _, _, _], [], _, _ => rfl)) .nil (by rfl) (va_cons ve_str (va_cons (ve_name 1) (va_cons ve_int (va_cons ve_int va_nil)))) vk_nil)))) vss_nil)) (vssa_cons (vsa_of (vs_if (vc_cmp ow_is (ve_name 4) ve_non) (vss_one (vs_raise XX.m_InvalidHabit (hr.mono (by omega)) rfl (by rfl) (va_cons ve_str va_nil))) vss_nil)) (vssa_cons (vsa_supi0 (k := 4) (ks := ["late"]) (ix := [0]) (dd := []) SX (salt1I ⟨⟨_, _, _, _, C.su_Spaced___init___Spaced, c_Habit___init__.mono (by omega), (fun fd cl h => h.kbA (fun _ _ _ _ _ _ us ws h1 h2 => match us, ws, h1, h2 with | [_], [_], _, _ => rfl)), .nil⟩⟩) (hr.mono (by omega)) (vk_cons (ve_name 4) vk_nil)) (vssa_cons (vsa_of (vs_fset 0 [(He.ga _ "Spaced")] (ve_name 1) (in_cons ⟨C.c_Spaced, C.n_Spaced_burst⟩ in_nil))) (vssa_cons (vsa_of (vs_fset 0 [(He.ga _ "Spaced")] (ve_name 2) (in_cons ⟨C.c_Spaced, C.n_Spaced_window⟩ in_nil))) (vssa_one (vsa_of (vs_fset 0 [(He.ga _ "Spaced")] (ve_name 3) (in_cons ⟨C.c_Spaced, C.n_Spaced_pause⟩ in_nil)))))))))))) (by rintro C fs svs Qf Qx ⟨_, _, _, _, _, _, rfl, _⟩; rfl) (by
    rintro C fs xa svs Qf Qx ⟨rfl, rfl, b, w_, p, l, rfl, hb, hw, hp, hl, q1, q2⟩
    refine gSeq_go fun R hR => ?_
    simp
    refine ⟨_, b, 1, 4, rfl, hb, fun h1 => ?_, fun h1 => q2 _ (by unfold spF; rw [if_pos h1])⟩
    rw [hR]
    clear hR R
    refine gSeq_go fun R hR => ?_
    simp
    refine ⟨_, w_, 1, 99, rfl, hw, fun h2 => ?_, fun h2 => q2 _ (by unfold spF; rw [if_neg (by simp [h1]), if_pos h2])⟩
    obtain ⟨wi, rfl, _, _⟩ := inD_int h2
    rw [hR]
    clear hR R
    refine gSeq_go fun R hR => ?_
    have fin : (p.isNon = false → inD p wi 99 = true ∧ inD b 1 1 = true) → R [some (SV.obj xa (He.ga K "Spaced") []), some (.tr b), some (.tr (.int wi)), some (.tr p), some (.tr l)] := fun hp2 => by
      have e : ∀ x : Option Str, (if inD l 0 99 = false then some ("late" : Str) else none) = x → spF b (.int wi) p l = x := fun x e => by
        unfold spF
        rw [if_neg (by simp [h1]), if_neg (by simp [h2]), if_neg (by rintro ⟨z1, z2⟩; rw [show intOf (.int wi) = wi from rfl, (hp2 z1).1] at z2; cases z2), if_neg (by rintro ⟨z1, z2⟩; rw [(hp2 z1).2] at z2; cases z2)]
        exact e
      rw [hR]
      clear hR R
      refine gSeq_go fun R hR => ?_
      simp
      refine ⟨(by rintro rfl; cases hl), ?_⟩
      show (if l.isNon = true then _ else _)
      by_cases hn : l.isNon = true
      · rw [if_pos hn]
        exact q2 _ (e _ (if_pos (inD_non hn)))
      · rw [if_neg hn]
        rw [hR]
        clear hR R
        refine gSeq_go fun R hR => ?_
        simp
        refine ⟨_, _, _, ⟨rfl, rfl, rfl⟩, _, ⟨rfl, rfl⟩, by simp [HCls], rfl, l, rfl, hl, fun hk => ?_, fun hk => q2 _ (e _ (if_pos (late_not hn hk)))⟩
        have q := q1 (e _ (if_neg (by rw [late_yes hn hk]; decide)))
        rw [hR]
        clear hR R
        refine gSeq_go fun R hR => ?_
        simp
        refine ⟨_, _, _, ⟨rfl, rfl, rfl⟩, rfl, by simp, ?_⟩
        rw [hR]
        clear hR R
        refine gSeq_go fun R hR => ?_
        simp
        refine ⟨_, _, _, ⟨rfl, rfl, rfl⟩, rfl, by simp, ?_⟩
        rw [hR]
        clear hR R
        simp
        refine ⟨_, _, _, ⟨rfl, rfl, rfl⟩, rfl, by simp, ?_⟩
        exact ⟨_, ⟨rfl, rfl, rfl⟩, by simpa using q⟩
    simp
    refine ⟨(by rintro rfl; cases hp), ?_⟩
    cases hn : p.isNon with
    | true => exact .inl ⟨rfl, fin (by rw [hn]; intro z; cases z)⟩
    | false =>
      refine .inr ⟨rfl, ?_⟩
      refine gSeq_go fun R2 hR2 => ?_
      simp
      refine ⟨_, p, wi, 99, rfl, hp, fun h3 => ?_, fun h3 => q2 _ (by unfold spF; rw [if_neg (by simp [h1]), if_neg (by simp [h2]), if_pos ⟨hn, h3⟩])⟩
      rw [hR2]
      simp
      refine ⟨_, b, 1, 1, rfl, hb, fun h4 => ?_, fun h4 => q2 _ (by unfold spF; rw [if_neg (by simp [h1]), if_neg (by simp [h2]), if_neg (by rintro ⟨_, z⟩; rw [show intOf (.int wi) = wi from rfl, h3] at z; cases z), if_pos ⟨hn, h4⟩])⟩
      exact fin fun _ => ⟨h3, h4⟩)
theorem ok_answ (h : SupD P K mg d_Answering___init__ (He.fAd K d_Answering___init__.at_) (He.ga K "Answering") ["self", "name", "least", "most", "late"] ["self", "name", "least", "most", "late"] "self") (T : Facts mg) (C : CF K mg) (XX : XF P w K mg base) (c_is_name : FnV P w K mg base d_is_name 1 ["value"] (f1 fun d => .bl (isNameD d))) (c_need_within : FnG P w K mg base d_need_within 3 ["word", "value", "least", "most"] (fNeedW K)) (c_Habit___init__ : IniU P w K mg base d_Habit___init__ (He.fAd K d_Habit___init__.at_) 4 ["self", "late"] (uHabit K)) :
    IniU P w K mg base d_Answering___init__ (He.fAd K d_Answering___init__.at_) 5 ["self", "name", "least", "most", "late"] (uAnsw K) :=
  iniu_okS h (fun EX cdv A outer s H E hr SX => (vssa_cons (vsa_of (vs_if (vc_not (vc_tru (ve_cv c_is_name (hr.mono (by omega)) rfl rfl rfl (fun _ _ _ _ _ _ us hl => match us, hl with | [_], _ => rfl) (by rfl) (va_cons (ve_name 1) va_nil)))) (vss_one (vs_raise XX.m_InvalidHabit (hr.mono (by omega)) rfl (by rfl) (va_cons ve_str va_nil))) vss_nil)) (vssa_cons (vsa_of (vs_expr (ve_cx (n := 4) (ks := []) (ix := [0, 1, 2, 3]) (dd := []) c_need_within.x (hr.mono (by omega)) c_need_within.mg (fun fd cl h => h.kbA (fun _ _ _ _ _ _ us ws h1 h2 => match us, ws, h1, h2 with | [_, _, _, _], [], _, _ => rfl)) .nil (by rfl) (va_cons ve_str (va_cons (ve_name 2) (va_cons ve_int (va_cons (ve_gint T.c_MOST_NUMBER (by rfl)) va_nil)))) vk_nil))) (vssa_cons (vsa_of (vs_expr (ve_cx (n := 4) (ks := []) (ix := [0, 1, 2, 3]) (dd := []) c_need_within.x (hr.mono (by omega)) c_need_within.mg (fun fd cl h => h.kbA (fun _ _ _ _ _ _ us ws h1 h2 => match us, ws, h1, h2 with | [_, _, _, _], [], _, _ => rfl)) .nil (by rfl) (va_cons ve_str (va_cons (ve_name 3) (va_cons (ve_name 2) (va_cons (ve_gint T.c_MOST_NUMBER (by rfl)) va_nil)))) vk_nil))) (vssa_cons (vsa_of (vs_if (vc_cmp ow_is (ve_name 4) ve_non) (vss_one (vs_raise XX.m_InvalidHabit (hr.mono (by omega)) rfl (by rfl) (va_cons ve_str va_nil))) vss_nil)) (vssa_cons (vsa_supi0 (k := 4) (ks := ["late"]) (ix := [0]) (dd := []) SX (salt1I ⟨⟨_, _, _, _, C.su_Answering___init___Answering, c_Habit___init__.mono (by omega), (fun fd cl h => h.kbA (fun _ _ _ _ _ _ us ws h1 h2 => match us, ws, h1, h2 with | [_], [_], _, _ => rfl)), .nil⟩⟩) (hr.mono (by omega)) (vk_cons (ve_name 4) vk_nil)) (vssa_cons (vsa_of (vs_fset 0 [(He.ga _ "Answering")] (ve_name 1) (in_cons ⟨C.c_Answering, C.n_Answering_name⟩ in_nil))) (vssa_cons (vsa_of (vs_fset 0 [(He.ga _ "Answering")] (ve_name 2) (in_cons ⟨C.c_Answering, C.n_Answering_least⟩ in_nil))) (vssa_one (vsa_of (vs_fset 0 [(He.ga _ "Answering")] (ve_name 3) (in_cons ⟨C.c_Answering, C.n_Answering_most⟩ in_nil)))))))))))) (by rintro C fs svs Qf Qx ⟨_, _, _, _, _, _, rfl, _⟩; rfl) (by
    rintro C fs xa svs Qf Qx ⟨rfl, rfl, n, a, m, l, rfl, hn, ha, hm, hl, q1, q2⟩
    refine gSeq_go fun R hR => ?_
    simp
    refine ⟨smp_kind hn, ?_⟩
    cases h1 : isNameD n with
    | false => exact .inl ⟨rfl, q2 _ (by unfold anF; rw [if_pos h1])⟩
    | true =>
      refine .inr ⟨rfl, ?_⟩
      rw [hR]
      clear hR R
      refine gSeq_go fun R hR => ?_
      simp
      refine ⟨_, a, 0, 99, rfl, ha, fun h2 => ?_, fun h2 => q2 _ (by unfold anF; rw [if_neg (by simp [h1]), if_pos h2])⟩
      obtain ⟨ai, rfl, _, _⟩ := inD_int h2
      rw [hR]
      clear hR R
      refine gSeq_go fun R hR => ?_
      simp
      refine ⟨_, m, ai, 99, rfl, hm, fun h3 => ?_, fun h3 => q2 _ (by unfold anF; rw [if_neg (by simp [h1]), if_neg (by simp [h2]), if_pos (show inD m (intOf (.int ai)) 99 = false from h3)])⟩
      have e : ∀ x : Option Str, (if inD l 0 99 = false then some ("late" : Str) else none) = x → anF n (.int ai) m l = x := fun x e => by
        unfold anF
        rw [if_neg (by simp [h1]), if_neg (by simp [h2]), if_neg (by rw [show intOf (.int ai) = ai from rfl, h3]; decide)]
        exact e
      rw [hR]
      clear hR R
      refine gSeq_go fun R hR => ?_
      simp
      refine ⟨(by rintro rfl; cases hl), ?_⟩
      show (if l.isNon = true then _ else _)
      by_cases hn : l.isNon = true
      · rw [if_pos hn]
        exact q2 _ (e _ (if_pos (inD_non hn)))
      · rw [if_neg hn]
        rw [hR]
        clear hR R
        refine gSeq_go fun R hR => ?_
        simp
        refine ⟨_, _, _, ⟨rfl, rfl, rfl⟩, _, ⟨rfl, rfl⟩, by simp [HCls], rfl, l, rfl, hl, fun hk => ?_, fun hk => q2 _ (e _ (if_pos (late_not hn hk)))⟩
        have q := q1 (e _ (if_neg (by rw [late_yes hn hk]; decide)))
        rw [hR]
        clear hR R
        refine gSeq_go fun R hR => ?_
        simp
        refine ⟨_, _, _, ⟨rfl, rfl, rfl⟩, rfl, by simp, ?_⟩
        rw [hR]
        clear hR R
        refine gSeq_go fun R hR => ?_
        simp
        refine ⟨_, _, _, ⟨rfl, rfl, rfl⟩, rfl, by simp, ?_⟩
        rw [hR]
        clear hR R
        simp
        refine ⟨_, _, _, ⟨rfl, rfl, rfl⟩, rfl, by simp, ?_⟩
        exact ⟨_, ⟨rfl, rfl, rfl⟩, by simpa using q⟩)
end
end K2

namespace K2
open PySem PySem.Spec PyProof.Rows L2 VT HP
/-! parts, source -/
section
variable {P : Program} {w : World} {K : PySem.W.Frag} {mg : Str → Option Value} {base : Heap}
theorem ok_partsH (h : ∃ fd, FunD K d_Habit_parts.name d_Habit_parts.qual d_Habit_parts.params d_Habit_parts.body d_Habit_parts.scope (d_Habit_parts.dvs K) (d_Habit_parts.kws K) (He.fAd K d_Habit_parts.at_) fd) (T : Facts mg) (C : CF K mg) : FnX P w K mg base d_Habit_parts (He.fAd K d_Habit_parts.at_) 1 ["self"] (fPartsH K) :=
  fnx_ok h sc_Habit_parts (fun EX cdv A outer s H E hr => (vss_one (vs_ret (ve_tup (va_cons (ve_fz (ve_fld [(He.ga _ "Habit"), (He.ga _ "Free"), (He.ga _ "Spaced"), (He.ga _ "Answering")] (ve_name 0) (in_cons ⟨C.c_Habit, C.n_Habit_late⟩ (in_cons ⟨C.c_Free, C.n_Free_late⟩ (in_cons ⟨C.c_Spaced, C.n_Spaced_late⟩ (in_cons ⟨C.c_Answering, C.n_Answering_late⟩ in_nil)))))) va_nil))))) (by rintro svs Qs Qx ⟨_, _, _, _, rfl, _⟩; rfl) (by
    rintro svs Qs Qx ⟨C, fs, d, hC, rfl, hl, q⟩
    simp
    exact ⟨_, _, ⟨rfl, rfl⟩, by simpa [HCls] using hC, .tr d, lookF hl, by simp, q⟩)
theorem ok_partsF (h : ∃ fd, FunD K d_Free_parts.name d_Free_parts.qual d_Free_parts.params d_Free_parts.body d_Free_parts.scope (d_Free_parts.dvs K) (d_Free_parts.kws K) (He.fAd K d_Free_parts.at_) fd) (T : Facts mg) (C : CF K mg) : FnX P w K mg base d_Free_parts (He.fAd K d_Free_parts.at_) 1 ["self"] (fPartsF K) :=
  fnx_ok h sc_Free_parts (fun EX cdv A outer s H E hr => (vss_one (vs_ret (ve_tup va_nil)))) (by rintro svs Qs Qx ⟨rfl, _⟩; rfl) (by
    rintro svs Qs Qx ⟨rfl, q⟩
    simp
    exact q)
theorem ok_partsS (h : SupD P K mg d_Spaced_parts (He.fAd K d_Spaced_parts.at_) (He.ga K "Spaced") ["self"] ["self"] "self") (T : Facts mg) (C : CF K mg) (c_Habit_parts : FnX P w K mg base d_Habit_parts (He.fAd K d_Habit_parts.at_) 1 ["self"] (fPartsH K)) : FnX P w K mg base d_Spaced_parts (He.fAd K d_Spaced_parts.at_) 2 ["self"] (fPartsS K) :=
  fnx_okS h (fun EX cdv A outer s H E hr SX => (vssa_one (vsa_ret (vea_tup (vaa_cons (ve_fz (ve_fld [(He.ga _ "Spaced")] (ve_name 0) (in_cons ⟨C.c_Spaced, C.n_Spaced_burst⟩ in_nil))) (vaa_cons (ve_fz (ve_fld [(He.ga _ "Spaced")] (ve_name 0) (in_cons ⟨C.c_Spaced, C.n_Spaced_window⟩ in_nil))) (vaa_cons (ve_fz (ve_fld [(He.ga _ "Spaced")] (ve_name 0) (in_cons ⟨C.c_Spaced, C.n_Spaced_pause⟩ in_nil))) (vaa_star (vea_sup0 (k := 1) (ks := []) (ix := []) (dd := []) SX (salt1U ⟨⟨_, _, _, _, C.su_Spaced_parts_Spaced, c_Habit_parts.mono (by omega), (fun fd cl h => h.kbA (fun _ _ _ _ _ _ us ws h1 h2 => match us, ws, h1, h2 with | [_], [], _, _ => rfl)), .nil⟩⟩) (hr.mono (by omega)) vk_nil))))))))) (by rintro svs Qs Qx ⟨_, _, _, _, rfl, _⟩; rfl) (by
    rintro svs Qs Qx ⟨b, w_, p, l, rfl, hb, hw, hp, hl, q⟩
    simp
    refine ⟨_, _, ⟨rfl, rfl⟩, rfl, .tr b, rfl, _, _, ⟨rfl, rfl⟩, rfl, .tr w_, rfl, _, _, ⟨rfl, rfl⟩, rfl, .tr p, rfl, _, _, ⟨rfl, rfl⟩, _, ⟨rfl, rfl⟩, _, _, l, by simp [HCls], rfl, rfl, [l], .inr rfl, ?_⟩
    simp
    exact q)
theorem ok_partsA (h : SupD P K mg d_Answering_parts (He.fAd K d_Answering_parts.at_) (He.ga K "Answering") ["self"] ["self"] "self") (T : Facts mg) (C : CF K mg) (c_Habit_parts : FnX P w K mg base d_Habit_parts (He.fAd K d_Habit_parts.at_) 1 ["self"] (fPartsH K)) : FnX P w K mg base d_Answering_parts (He.fAd K d_Answering_parts.at_) 2 ["self"] (fPartsA K) :=
  fnx_okS h (fun EX cdv A outer s H E hr SX => (vssa_one (vsa_ret (vea_tup (vaa_cons (ve_fz (ve_fld [(He.ga _ "Answering")] (ve_name 0) (in_cons ⟨C.c_Answering, C.n_Answering_name⟩ in_nil))) (vaa_cons (ve_fz (ve_fld [(He.ga _ "Answering")] (ve_name 0) (in_cons ⟨C.c_Answering, C.n_Answering_least⟩ in_nil))) (vaa_cons (ve_fz (ve_fld [(He.ga _ "Answering")] (ve_name 0) (in_cons ⟨C.c_Answering, C.n_Answering_most⟩ in_nil))) (vaa_star (vea_sup0 (k := 1) (ks := []) (ix := []) (dd := []) SX (salt1U ⟨⟨_, _, _, _, C.su_Answering_parts_Answering, c_Habit_parts.mono (by omega), (fun fd cl h => h.kbA (fun _ _ _ _ _ _ us ws h1 h2 => match us, ws, h1, h2 with | [_], [], _, _ => rfl)), .nil⟩⟩) (hr.mono (by omega)) vk_nil))))))))) (by rintro svs Qs Qx ⟨_, _, _, _, rfl, _⟩; rfl) (by
    rintro svs Qs Qx ⟨n, a, m, l, rfl, hn, ha, hm, hl, q⟩
    simp
    refine ⟨_, _, ⟨rfl, rfl⟩, rfl, .tr n, rfl, _, _, ⟨rfl, rfl⟩, rfl, .tr a, rfl, _, _, ⟨rfl, rfl⟩, rfl, .tr m, rfl, _, _, ⟨rfl, rfl⟩, _, ⟨rfl, rfl⟩, _, _, l, by simp [HCls], rfl, rfl, [l], .inr rfl, ?_⟩
    simp
    exact q)
theorem ok_sourceH (h : ∃ fd, FunD K d_Habit_source.name d_Habit_source.qual d_Habit_source.params d_Habit_source.body d_Habit_source.scope (d_Habit_source.dvs K) (d_Habit_source.kws K) (He.fAd K d_Habit_source.at_) fd) (T : Facts mg) (C : CF K mg) : FnX P w K mg base d_Habit_source (He.fAd K d_Habit_source.at_) 1 ["self"] fSourceH :=
  fnx_ok h sc_Habit_source (fun EX cdv A outer s H E hr => (vss_one (vs_ret ve_non))) (by rintro svs Qs Qx ⟨_, rfl, _⟩; rfl) (by
    rintro svs Qs Qx ⟨sv, rfl, q⟩
    simp
    exact q)
theorem ok_sourceA (h : ∃ fd, FunD K d_Answering_source.name d_Answering_source.qual d_Answering_source.params d_Answering_source.body d_Answering_source.scope (d_Answering_source.dvs K) (d_Answering_source.kws K) (He.fAd K d_Answering_source.at_) fd) (T : Facts mg) (C : CF K mg) : FnX P w K mg base d_Answering_source (He.fAd K d_Answering_source.at_) 1 ["self"] (fSourceA K) :=
  fnx_ok h sc_Answering_source (fun EX cdv A outer s H E hr => (vss_one (vs_ret (ve_fld [(He.ga _ "Answering")] (ve_name 0) (in_cons ⟨C.c_Answering, C.n_Answering_name⟩ in_nil))))) (by rintro svs Qs Qx ⟨_, _, _, _, rfl, _⟩; rfl) (by
    rintro svs Qs Qx ⟨n, a, m, l, rfl, q⟩
    simp
    exact ⟨_, _, ⟨rfl, rfl⟩, rfl, .tr n, rfl, trivial, q⟩)
end
/-! the law's own spaced habits -/
section
variable {P : Program} {w : World} {K : PySem.W.Frag} {mg : Str → Option Value} {base : Heap}
theorem ok_lspaced (h : DefAt K mg d__law_spaced) (T : Facts mg) (c__law_draw : FnV P w K mg base d__law_draw 1 ["_law_bag_here", "_law_many"] fDraw) (c__law_pick : FnV P w K mg base d__law_pick 2 ["_law_bag_here", "_law_some"] fPick) : FnV P w K mg base d__law_spaced 3 ["_law_bag_here", "_law_top"] fSpacedL :=
  fnv_ok h sc__law_spaced (fun f cdv A outer s H E hr => (vss_cons (vs_par2 (i := 2) (j := 3) rfl sc__law_spaced.nd rfl rfl (by decide) rfl rfl (va_cons (ve_op ow_add ve_int (ve_cv c__law_draw (hr.mono (by omega)) rfl rfl rfl (fun _ _ _ _ _ _ us hl => match us, hl with | [_, _], _ => rfl) (by rfl) (va_cons (ve_name 0) (va_cons (ve_name 1) va_nil)))) (va_cons (ve_cv c__law_pick (hr.mono (by omega)) rfl rfl rfl (fun _ _ _ _ _ _ us hl => match us, hl with | [_, _], _ => rfl) (by rfl) (va_cons (ve_name 0) (va_cons (ve_fz (ve_lst (va_cons ve_int (va_cons ve_int (va_cons ve_int (va_cons (ve_fz (ve_cv c__law_draw (hr.mono (by omega)) rfl rfl rfl (fun _ _ _ _ _ _ us hl => match us, hl with | [_, _], _ => rfl) (by rfl) (va_cons (ve_name 0) (va_cons (ve_name 1) va_nil)))) va_nil)))))) va_nil))) va_nil)) (by rfl)) (vss_cons (vs_if (vc_cmp (ow_eq hr.units) (ve_cv c__law_draw (hr.mono (by omega)) rfl rfl rfl (fun _ _ _ _ _ _ us hl => match us, hl with | [_, _], _ => rfl) (by rfl) (va_cons (ve_name 0) (va_cons ve_int va_nil))) ve_int) (vss_one (vs_ret (ve_tup (va_cons ve_int (va_cons (ve_name 2) (va_cons (ve_fz (ve_op ow_add (ve_name 2) (ve_cv c__law_draw (hr.mono (by omega)) rfl rfl rfl (fun _ _ _ _ _ _ us hl => match us, hl with | [_, _], _ => rfl) (by rfl) (va_cons (ve_name 0) (va_cons (ve_name 1) va_nil))))) (va_cons (ve_name 3) va_nil))))))) vss_nil) (vss_one (vs_ret (ve_tup (va_cons (ve_fz (ve_cv c__law_pick (hr.mono (by omega)) rfl rfl rfl (fun _ _ _ _ _ _ us hl => match us, hl with | [_, _], _ => rfl) (by rfl) (va_cons (ve_name 0) (va_cons (ve_fz (ve_lst (va_cons ve_int (va_cons ve_int (va_cons ve_int (va_cons ve_int (va_cons ve_int va_nil))))))) va_nil)))) (va_cons (ve_name 2) (va_cons ve_non (va_cons (ve_name 3) va_nil)))))))))) (by rintro svs Qs ⟨_, rfl, _⟩; rfl) (by
    rintro svs Qs ⟨m, rfl, m1, m2, q⟩
    refine gSeq_go fun R hR => ?_
    simp [-List.mem_cons]
    refine ⟨by omega, log_lt (by omega), fun r r0 r1 => ⟨by omega, log_lt (by omega), fun r2 a0 a1 d hd => ⟨by simp, ?_⟩⟩⟩
    have hs : smp d = true := by
      simp at hd
      rcases hd with rfl | rfl | rfl <;> rfl
    clear hd
    rw [hR]
    clear hR R
    refine gSeq_go fun R hR => ?_
    simp
    refine ⟨by decide, fun r3 _ _ => ?_⟩
    split
    · exact ⟨by omega, log_lt (by omega), fun r4 _ _ => q _ _ _ _ rfl rfl rfl hs⟩
    · rw [hR]
      clear hR R
      simp
      exact ⟨q _ _ _ _ rfl rfl rfl hs, q _ _ _ _ rfl rfl rfl hs, q _ _ _ _ rfl rfl rfl hs⟩)
theorem ok_fault (h : DefAt K mg d__law_habit_fault) (T : Facts mg) : FnV P w K mg base d__law_habit_fault 1 ["_law_parts"] fFaultL :=
  fnv_ok h sc__law_habit_fault (fun f cdv A outer s H E hr => (vss_cons (vs_setLc (i := 1) (hy := rfl) (hyl := rfl) (hsw := sw_true rfl rfl rfl (by decide +kernel)) (own := [("_law_part", 2)]) (hc := rfl) (hN := sc__law_habit_fault.nd) (vi_seq (ve_name 0)) (blkOk_by (own := [("_law_part", 2)]) (N := ["_law_parts", "_law_good", "_law_part"]) (sc := d__law_habit_fault.scope) (by decide +kernel)) (fun _ _ _ _ _ => (vg_name (i := 2) sc__law_habit_fault.nd rfl (by first | exact Or.inl rfl | exact Or.inr rfl))) (fun _ _ _ _ _ => vcs_nil) (fun _ _ _ _ _ => (ve_and (ve_isi .int (ve_name 2) (by rfl) T.isinstance (by rfl) T.int (by decide +kernel)) (ve_one (ve_not (ve_isi .bool (ve_name 2) (by rfl) T.isinstance (by rfl) T.bool (by decide +kernel))))))) (vss_cons (vs_if (VW.vc (vw_or (vc_not (vc_tru (ve_ixA (hu1 hr) (ve_name 1) ve_int))) (vw_or1 (vc_not (vc_chain ow_le ow_le ve_int (ve_ixA (hu1 hr) (ve_name 0) ve_int) ve_int))))) (vss_one (vs_ret ve_str)) vss_nil) (vss_cons (vs_if (VW.vc (vw_or (vc_not (vc_tru (ve_ixA (hu1 hr) (ve_name 1) ve_int))) (vw_or1 (vc_not (vc_chain ow_le ow_le ve_int (ve_ixA (hu1 hr) (ve_name 0) ve_int) ve_int))))) (vss_one (vs_ret ve_str)) vss_nil) (vss_cons (vs_if (vc_cmp ow_isnot (ve_ixA (hu1 hr) (ve_name 0) ve_int) ve_non) (vss_cons (vs_if (VW.vc (vw_or (vc_not (vc_tru (ve_ixA (hu1 hr) (ve_name 1) ve_int))) (vw_or1 (vc_not (vc_chain ow_le ow_le (ve_ixA (hu1 hr) (ve_name 0) ve_int) (ve_ixA (hu1 hr) (ve_name 0) ve_int) ve_int))))) (vss_one (vs_ret ve_str)) vss_nil) (vss_one (vs_if (vc_cmp (ow_ne hr.units) (ve_ixA (hu1 hr) (ve_name 0) ve_int) ve_int) (vss_one (vs_ret ve_str)) vss_nil))) vss_nil) (vss_one (vs_ret (ve_if (VW.vc (vw_or (vc_not (vc_tru (ve_ixA (hu1 hr) (ve_name 1) ve_int))) (vw_or1 (vc_not (vc_chain ow_le ow_le ve_int (ve_ixA (hu1 hr) (ve_name 0) ve_int) ve_int))))) ve_str ve_non)))))))) (by rintro svs Qs ⟨_, _, _, _, _, rfl, _⟩; rfl) (by
    rintro svs Qs ⟨sv, b, w_, p, l, rfl, ia, hb, hw, hp, hl, q⟩
    refine gSeq_go fun R hR => ?_
    simp [ia.look, ia.d]
    refine ⟨ia.st true, lcW_mapD (fun d => .bl (isNumD d)) (by simp [sizeLine]) (fun d hd R r => ?_) ?_⟩
    · have hs : smp d = true := by
        simp at hd
        rcases hd with rfl | rfl | rfl | rfl <;> assumption
      cases d <;> first | (cases hs; done) | (simp [isNumD] at r ⊢; exact r)
    simp
    have num : ∀ d, smp d = true → (∃ i, d = .int i) ∨ (isNumD d = false ∧ ∀ x y, inD d x y = false) := fun d hs => by
      cases d <;> first | (cases hs; done) | exact .inl ⟨_, rfl⟩ | exact .inr ⟨rfl, fun _ _ => rfl⟩
    have hnum : ∀ i, isNumD (.int i) = true := fun _ => rfl
    rw [hR]
    clear hR R
    refine gSeq_go fun R hR => ?_
    cases h1 : inD b 1 4 with
    | false =>
      have qb : Qs (.tr (.str "burst")) := by unfold spF at q; rw [if_pos h1] at q; exact q
      rcases num b hb with ⟨bi, rfl⟩ | ⟨hnb, _⟩
      · simp [ia.look, ia.d, hnum]
        simp [inD] at h1
        by_cases h : bi < 1
        · exact .inl ⟨h, qb⟩
        · exact .inr ⟨by omega, .inl ⟨by have := h1 (by omega); omega, qb⟩⟩
      · simp [ia.look, ia.d, hnb]
        exact qb
    | true =>
      obtain ⟨bi, rfl, b1, b4⟩ := inD_int h1
      simp [ia.look, ia.d, hnum]
      refine .inr ⟨b1, .inr ⟨b4, ?_⟩⟩
      rw [hR]
      clear hR R
      refine gSeq_go fun R hR => ?_
      cases h2 : inD w_ 1 99 with
      | false =>
        have qb : Qs (.tr (.str "window")) := by unfold spF at q; rw [if_neg (by simp [h1]), if_pos h2] at q; exact q
        rcases num w_ hw with ⟨wi, rfl⟩ | ⟨hnb, _⟩
        · simp [ia.look, ia.d, hnum]
          simp [inD] at h2
          by_cases h : wi < 1
          · exact .inl ⟨h, qb⟩
          · exact .inr ⟨by omega, .inl ⟨by have := h2 (by omega); omega, qb⟩⟩
        · simp [ia.look, ia.d, hnb]
          exact qb
      | true =>
        obtain ⟨wi, rfl, w1, w4⟩ := inD_int h2
        simp [ia.look, ia.d, hnum]
        refine .inr ⟨w1, .inr ⟨w4, ?_⟩⟩
        rw [hR]
        clear hR R
        refine gSeq_go fun R hR => ?_
        have late : spF (.int bi) (.int wi) p l = (if inD l 0 99 = false then some ("late" : Str) else none) → R [some sv, some (.own (.lst [.bl true, .bl true, .bl (isNumD p), .bl (isNumD l)])), none] := fun e => by
          rw [e] at q
          rw [hR]
          clear hR R
          cases h5 : inD l 0 99 with
          | false =>
            rw [if_pos h5] at q
            rcases num l hl with ⟨li, rfl⟩ | ⟨hnb, _⟩
            · simp [ia.look, ia.d, hnum]
              simp [inD] at h5
              by_cases h : li < 0
              · exact .inl ⟨h, q⟩
              · exact .inr ⟨by omega, .inl ⟨by have := h5 (by omega); omega, q⟩⟩
            · simp [ia.look, ia.d, hnb]
              exact q
          | true =>
            rw [if_neg (by simp [h5])] at q
            obtain ⟨li, rfl, l1, l4⟩ := inD_int h5
            simp [ia.look, ia.d, hnum]
            exact .inr ⟨l1, .inr ⟨l4, q⟩⟩
        simp [ia.look, ia.d, hnum]
        refine ⟨(by rintro rfl; cases hp), ?_⟩
        cases hpn : p.isNon with
        | true => exact .inl ⟨rfl, late (by unfold spF; rw [if_neg (by simp [h1]), if_neg (by simp [h2]), if_neg (by rintro ⟨z, _⟩; rw [hpn] at z; cases z), if_neg (by rintro ⟨z, _⟩; rw [hpn] at z; cases z)])⟩
        | false =>
          refine .inr ⟨rfl, ?_⟩
          refine gSeq_go fun R2 hR2 => ?_
          cases h3 : inD p wi 99 with
          | false =>
            have qb : Qs (.tr (.str "pause")) := by unfold spF at q; rw [if_neg (by simp [h1]), if_neg (by simp [h2]), if_pos ⟨hpn, h3⟩] at q; exact q
            rcases num p hp with ⟨pi, rfl⟩ | ⟨hnb, _⟩
            · simp [ia.look, ia.d, hnum]
              simp [inD] at h3
              by_cases h : pi < wi
              · exact .inl ⟨h, qb⟩
              · exact .inr ⟨by omega, .inl ⟨by have := h3 (by omega); omega, qb⟩⟩
            · simp [ia.look, ia.d, hnb]
              exact qb
          | true =>
            obtain ⟨pi, rfl, p1, p4⟩ := inD_int h3
            simp [ia.look, ia.d, hnum]
            refine .inr ⟨p1, .inr ⟨p4, ?_⟩⟩
            rw [hR2]
            clear hR2 R2
            simp [ia.look, ia.d, hnum]
            by_cases hb1 : bi = 1
            · subst hb1
              exact .inl ⟨rfl, late (by unfold spF; rw [if_neg (by simp [h1]), if_neg (by simp [h2]), if_neg (by rintro ⟨_, z⟩; rw [show intOf (.int wi) = wi from rfl, h3] at z; cases z), if_neg (by rintro ⟨_, z⟩; cases z)])⟩
            · refine .inr ⟨hb1, ?_⟩
              unfold spF at q
              rw [if_neg (by simp [h1]), if_neg (by simp [h2]), if_neg (by rintro ⟨_, z⟩; rw [show intOf (.int wi) = wi from rfl, h3] at z; cases z), if_pos ⟨hpn, by simp [inD]; omega⟩] at q
              exact q)
end
end K2

namespace K2
open PySem PySem.Spec PyProof.Rows L2 VT HP
section
variable {P : Program} {w : World} {K : PySem.W.Frag} {mg : Str → Option Value} {base : Heap}
def fYes : FXp := fun svs Q Qx => svs = [] ∧ Q (.tr (.bl true))
theorem ok_defaults (T : Facts mg) (C : CF K mg) (hL : LamF K "_law_defaults_so") (hTB : TabBs K mg base) (h : DefAt K mg d__law_defaults_so) (c_Habit___init__ : IniU P w K mg base d_Habit___init__ (He.fAd K d_Habit___init__.at_) 4 ["self", "late"] (uHabit K)) (c_Free___init__ : IniU P w K mg base d_Free___init__ (He.fAd K d_Free___init__.at_) 5 ["self"] (uFree K))
    (c_Spaced___init__ : IniU P w K mg base d_Spaced___init__ (He.fAd K d_Spaced___init__.at_) 5 ["self", "burst", "window", "pause", "late"] (uSpaced K)) (c_Answering___init__ : IniU P w K mg base d_Answering___init__ (He.fAd K d_Answering___init__.at_) 5 ["self", "name", "least", "most", "late"] (uAnsw K))
    (c_Habit_parts : FnX P w K mg base d_Habit_parts (He.fAd K d_Habit_parts.at_) 1 ["self"] (fPartsH K)) (c_Free_parts : FnX P w K mg base d_Free_parts (He.fAd K d_Free_parts.at_) 1 ["self"] (fPartsF K)) (c_Spaced_parts : FnX P w K mg base d_Spaced_parts (He.fAd K d_Spaced_parts.at_) 2 ["self"] (fPartsS K))
    (c_Answering_parts : FnX P w K mg base d_Answering_parts (He.fAd K d_Answering_parts.at_) 2 ["self"] (fPartsA K)) (c_Habit_source : FnX P w K mg base d_Habit_source (He.fAd K d_Habit_source.at_) 1 ["self"] fSourceH) (c_Answering_source : FnX P w K mg base d_Answering_source (He.fAd K d_Answering_source.at_) 1 ["self"] (fSourceA K)) (c__law_same : FnV P w K mg base d__law_same 4 ["_law_found", "_law_due"] (fSame 4)) (c__law_all : FnT P w K mg base d__law_all 64 ["_law_asks"] (fAll K)) :
    FnG P w K mg base d__law_defaults_so 65 [] fYes :=
  ⟨fnx_okL h.fd sc__law_defaults_so (fun EX cdv A outer s H E n hsz hcd hr => (vss_cons (vs_par2 (i := 0) (j := 1) rfl sc__law_defaults_so.nd rfl rfl (by decide) rfl rfl (va_cons (ve_mkx0 (ks := []) (ix := [0, 1, 2, 3]) (dd := [.int 1, .int 1, .non, .int 0]) C.k_Spaced (c_Spaced___init__.ini _) (hr.mono (by omega)) C.g_Spaced (fun fd cl h => h.kbD [("burst", .int 1), ("window", .int 1), ("pause", .non), ("late", .int 0)] (List.cons_ne_nil _ _) (fun q hq => hq) (fun D doc pm cdv ct an us ws mv h1 h2 h3 => match us, ws, mv, h1, h2, h3 with | [_], [], [_, _, _, _], _, _, _ => (by refine ⟨?az8, ?bz8, ?cz8, ?dz8, ?ez8, ?fz8, ?gz8, ?hz8, ?iz8⟩; (case gz8 => exact rfl); (case hz8 => exact rfl); (case iz8 => (refine ⟨?az7, ?bz7, ?cz7, ?dz7, ?ez7, ?fz7, ?gz7, ?hz7, ?iz7⟩; (case gz7 => exact rfl); (case hz7 => exact rfl); (case iz7 => (refine ⟨?az6, ?bz6, ?cz6, ?dz6, ?ez6, ?fz6, ?gz6, ?hz6, ?iz6⟩; (case gz6 => exact rfl); (case hz6 => exact rfl); (case iz6 => (refine ⟨?az5, ?bz5, ?cz5, ?dz5, ?ez5, ?fz5, ?gz5, ?hz5, ?iz5⟩; (case gz5 => exact rfl); (case hz5 => exact rfl); (case iz5 => (exact rfl))))))))))) (.cons rfl (.cons rfl (.cons rfl (.cons rfl .nil)))) (by rfl) vk_nil) (va_cons (ve_mkx (n := 1) (ks := []) (ix := [0, 1, 2, 3]) (dd := [.int 0, .int 0, .int 0]) C.k_Answering (c_Answering___init__.ini _) (hr.mono (by omega)) C.g_Answering (fun fd cl h => h.kbD [("least", .int 0), ("most", .int 0), ("late", .int 0)] (List.cons_ne_nil _ _) (fun q hq => hq) (fun D doc pm cdv ct an us ws mv h1 h2 h3 => match us, ws, mv, h1, h2, h3 with | [_, _], [], [_, _, _], _, _, _ => (by refine ⟨?az4, ?bz4, ?cz4, ?dz4, ?ez4, ?fz4, ?gz4, ?hz4, ?iz4⟩; (case gz4 => exact rfl); (case hz4 => exact rfl); (case iz4 => (refine ⟨?az3, ?bz3, ?cz3, ?dz3, ?ez3, ?fz3, ?gz3, ?hz3, ?iz3⟩; (case gz3 => exact rfl); (case hz3 => exact rfl); (case iz3 => (refine ⟨?az2, ?bz2, ?cz2, ?dz2, ?ez2, ?fz2, ?gz2, ?hz2, ?iz2⟩; (case gz2 => exact rfl); (case hz2 => exact rfl); (case iz2 => (exact rfl))))))))) (.cons rfl (.cons rfl (.cons rfl .nil))) (by rfl) (va_cons ve_str va_nil) vk_nil) va_nil)) (by rfl)) (vss_cons (vs_set (i := 2) sc__law_defaults_so.nd rfl (by first | exact Or.inl rfl | exact Or.inr rfl) (ve_lst (va_cons (ve_fz (ve_mtx0 (k := 2) (ks := []) (ix := []) (dd := []) (alt_cons ⟨C.c_Habit, _, _, _, _, C.m_Habit_parts, c_Habit_parts.mono (by omega), (fun fd cl h => h.kbA (fun _ _ _ _ _ _ us ws h1 h2 => match us, ws, h1, h2 with | [_], [], _, _ => rfl)), .nil⟩ (alt_cons ⟨C.c_Free, _, _, _, _, C.m_Free_parts, c_Free_parts.mono (by omega), (fun fd cl h => h.kbA (fun _ _ _ _ _ _ us ws h1 h2 => match us, ws, h1, h2 with | [_], [], _, _ => rfl)), .nil⟩ (alt_cons ⟨C.c_Spaced, _, _, _, _, C.m_Spaced_parts, c_Spaced_parts.mono (by omega), (fun fd cl h => h.kbA (fun _ _ _ _ _ _ us ws h1 h2 => match us, ws, h1, h2 with | [_], [], _, _ => rfl)), .nil⟩ (alt_cons ⟨C.c_Answering, _, _, _, _, C.m_Answering_parts, c_Answering_parts.mono (by omega), (fun fd cl h => h.kbA (fun _ _ _ _ _ _ us ws h1 h2 => match us, ws, h1, h2 with | [_], [], _, _ => rfl)), .nil⟩ alt_nil)))) (hr.mono (by omega)) (ve_name 0) vk_nil)) (va_cons (ve_fz (ve_mtx0 (k := 2) (ks := []) (ix := []) (dd := []) (alt_cons ⟨C.c_Habit, _, _, _, _, C.m_Habit_parts, c_Habit_parts.mono (by omega), (fun fd cl h => h.kbA (fun _ _ _ _ _ _ us ws h1 h2 => match us, ws, h1, h2 with | [_], [], _, _ => rfl)), .nil⟩ (alt_cons ⟨C.c_Free, _, _, _, _, C.m_Free_parts, c_Free_parts.mono (by omega), (fun fd cl h => h.kbA (fun _ _ _ _ _ _ us ws h1 h2 => match us, ws, h1, h2 with | [_], [], _, _ => rfl)), .nil⟩ (alt_cons ⟨C.c_Spaced, _, _, _, _, C.m_Spaced_parts, c_Spaced_parts.mono (by omega), (fun fd cl h => h.kbA (fun _ _ _ _ _ _ us ws h1 h2 => match us, ws, h1, h2 with | [_], [], _, _ => rfl)), .nil⟩ (alt_cons ⟨C.c_Answering, _, _, _, _, C.m_Answering_parts, c_Answering_parts.mono (by omega), (fun fd cl h => h.kbA (fun _ _ _ _ _ _ us ws h1 h2 => match us, ws, h1, h2 with | [_], [], _, _ => rfl)), .nil⟩ alt_nil)))) (hr.mono (by omega)) (ve_name 1) vk_nil)) (va_cons (ve_fz (ve_mtx0 (k := 2) (ks := []) (ix := []) (dd := []) (alt_cons ⟨C.c_Habit, _, _, _, _, C.m_Habit_parts, c_Habit_parts.mono (by omega), (fun fd cl h => h.kbA (fun _ _ _ _ _ _ us ws h1 h2 => match us, ws, h1, h2 with | [_], [], _, _ => rfl)), .nil⟩ (alt_cons ⟨C.c_Free, _, _, _, _, C.m_Free_parts, c_Free_parts.mono (by omega), (fun fd cl h => h.kbA (fun _ _ _ _ _ _ us ws h1 h2 => match us, ws, h1, h2 with | [_], [], _, _ => rfl)), .nil⟩ (alt_cons ⟨C.c_Spaced, _, _, _, _, C.m_Spaced_parts, c_Spaced_parts.mono (by omega), (fun fd cl h => h.kbA (fun _ _ _ _ _ _ us ws h1 h2 => match us, ws, h1, h2 with | [_], [], _, _ => rfl)), .nil⟩ (alt_cons ⟨C.c_Answering, _, _, _, _, C.m_Answering_parts, c_Answering_parts.mono (by omega), (fun fd cl h => h.kbA (fun _ _ _ _ _ _ us ws h1 h2 => match us, ws, h1, h2 with | [_], [], _, _ => rfl)), .nil⟩ alt_nil)))) (hr.mono (by omega)) (ve_mkx0 (ks := []) (ix := []) (dd := []) C.k_Free (c_Free___init__.ini _) (hr.mono (by omega)) C.g_Free (fun fd cl h => h.kbA (fun _ _ _ _ _ _ us ws h1 h2 => match us, ws, h1, h2 with | [_], [], _, _ => rfl)) .nil (by rfl) vk_nil) vk_nil)) (va_cons (ve_fz (ve_fld [(He.ga _ "Habit"), (He.ga _ "Free"), (He.ga _ "Spaced"), (He.ga _ "Answering")] (ve_mkx0 (ks := []) (ix := []) (dd := []) C.k_Free (c_Free___init__.ini _) (hr.mono (by omega)) C.g_Free (fun fd cl h => h.kbA (fun _ _ _ _ _ _ us ws h1 h2 => match us, ws, h1, h2 with | [_], [], _, _ => rfl)) .nil (by rfl) vk_nil) (in_cons ⟨C.c_Habit, C.n_Habit_late⟩ (in_cons ⟨C.c_Free, C.n_Free_late⟩ (in_cons ⟨C.c_Spaced, C.n_Spaced_late⟩ (in_cons ⟨C.c_Answering, C.n_Answering_late⟩ in_nil)))))) (va_cons (ve_fz (ve_mtx0 (k := 2) (ks := []) (ix := []) (dd := []) (alt_cons ⟨C.c_Habit, _, _, _, _, C.m_Habit_parts, c_Habit_parts.mono (by omega), (fun fd cl h => h.kbA (fun _ _ _ _ _ _ us ws h1 h2 => match us, ws, h1, h2 with | [_], [], _, _ => rfl)), .nil⟩ (alt_cons ⟨C.c_Free, _, _, _, _, C.m_Free_parts, c_Free_parts.mono (by omega), (fun fd cl h => h.kbA (fun _ _ _ _ _ _ us ws h1 h2 => match us, ws, h1, h2 with | [_], [], _, _ => rfl)), .nil⟩ (alt_cons ⟨C.c_Spaced, _, _, _, _, C.m_Spaced_parts, c_Spaced_parts.mono (by omega), (fun fd cl h => h.kbA (fun _ _ _ _ _ _ us ws h1 h2 => match us, ws, h1, h2 with | [_], [], _, _ => rfl)), .nil⟩ (alt_cons ⟨C.c_Answering, _, _, _, _, C.m_Answering_parts, c_Answering_parts.mono (by omega), (fun fd cl h => h.kbA (fun _ _ _ _ _ _ us ws h1 h2 => match us, ws, h1, h2 with | [_], [], _, _ => rfl)), .nil⟩ alt_nil)))) (hr.mono (by omega)) (ve_mkx0 (ks := []) (ix := [0]) (dd := [.int 0]) C.k_Habit (c_Habit___init__.ini _) (hr.mono (by omega)) C.g_Habit (fun fd cl h => h.kbD [("late", .int 0)] (List.cons_ne_nil _ _) (fun q hq => hq) (fun D doc pm cdv ct an us ws mv h1 h2 h3 => match us, ws, mv, h1, h2, h3 with | [_], [], [_], _, _, _ => (by refine ⟨?az1, ?bz1, ?cz1, ?dz1, ?ez1, ?fz1, ?gz1, ?hz1, ?iz1⟩; (case gz1 => exact rfl); (case hz1 => exact rfl); (case iz1 => (exact rfl))))) (.cons rfl .nil) (by rfl) vk_nil) vk_nil)) (va_cons (ve_fz (ve_fld [(He.ga _ "Habit"), (He.ga _ "Free"), (He.ga _ "Spaced"), (He.ga _ "Answering")] (ve_mkx0 (ks := ["late"]) (ix := [0]) (dd := []) C.k_Habit (c_Habit___init__.ini _) (hr.mono (by omega)) C.g_Habit (fun fd cl h => h.kbA (fun _ _ _ _ _ _ us ws h1 h2 => match us, ws, h1, h2 with | [_], [_], _, _ => rfl)) .nil (by rfl) (vk_cons ve_non vk_nil)) (in_cons ⟨C.c_Habit, C.n_Habit_late⟩ (in_cons ⟨C.c_Free, C.n_Free_late⟩ (in_cons ⟨C.c_Spaced, C.n_Spaced_late⟩ (in_cons ⟨C.c_Answering, C.n_Answering_late⟩ in_nil)))))) (va_cons (ve_fz (ve_mtx0 (k := 2) (ks := []) (ix := []) (dd := []) (alt_cons ⟨C.c_Habit, _, _, _, _, C.m_Habit_parts, c_Habit_parts.mono (by omega), (fun fd cl h => h.kbA (fun _ _ _ _ _ _ us ws h1 h2 => match us, ws, h1, h2 with | [_], [], _, _ => rfl)), .nil⟩ (alt_cons ⟨C.c_Free, _, _, _, _, C.m_Free_parts, c_Free_parts.mono (by omega), (fun fd cl h => h.kbA (fun _ _ _ _ _ _ us ws h1 h2 => match us, ws, h1, h2 with | [_], [], _, _ => rfl)), .nil⟩ (alt_cons ⟨C.c_Spaced, _, _, _, _, C.m_Spaced_parts, c_Spaced_parts.mono (by omega), (fun fd cl h => h.kbA (fun _ _ _ _ _ _ us ws h1 h2 => match us, ws, h1, h2 with | [_], [], _, _ => rfl)), .nil⟩ (alt_cons ⟨C.c_Answering, _, _, _, _, C.m_Answering_parts, c_Answering_parts.mono (by omega), (fun fd cl h => h.kbA (fun _ _ _ _ _ _ us ws h1 h2 => match us, ws, h1, h2 with | [_], [], _, _ => rfl)), .nil⟩ alt_nil)))) (hr.mono (by omega)) (ve_mkx0 (ks := ["late"]) (ix := [0]) (dd := []) C.k_Habit (c_Habit___init__.ini _) (hr.mono (by omega)) C.g_Habit (fun fd cl h => h.kbA (fun _ _ _ _ _ _ us ws h1 h2 => match us, ws, h1, h2 with | [_], [_], _, _ => rfl)) .nil (by rfl) (vk_cons ve_int vk_nil)) vk_nil)) (va_cons (ve_fz (ve_mtx0 (k := 1) (ks := []) (ix := []) (dd := []) (alt_cons ⟨C.c_Habit, _, _, _, _, C.m_Habit_source, c_Habit_source.mono (by omega), (fun fd cl h => h.kbA (fun _ _ _ _ _ _ us ws h1 h2 => match us, ws, h1, h2 with | [_], [], _, _ => rfl)), .nil⟩ (alt_cons ⟨C.c_Free, _, _, _, _, C.m_Free_source, c_Habit_source.mono (by omega), (fun fd cl h => h.kbA (fun _ _ _ _ _ _ us ws h1 h2 => match us, ws, h1, h2 with | [_], [], _, _ => rfl)), .nil⟩ (alt_cons ⟨C.c_Spaced, _, _, _, _, C.m_Spaced_source, c_Habit_source.mono (by omega), (fun fd cl h => h.kbA (fun _ _ _ _ _ _ us ws h1 h2 => match us, ws, h1, h2 with | [_], [], _, _ => rfl)), .nil⟩ (alt_cons ⟨C.c_Answering, _, _, _, _, C.m_Answering_source, c_Answering_source.mono (by omega), (fun fd cl h => h.kbA (fun _ _ _ _ _ _ us ws h1 h2 => match us, ws, h1, h2 with | [_], [], _, _ => rfl)), .nil⟩ alt_nil)))) (hr.mono (by omega)) (ve_name 1) vk_nil)) (va_cons (ve_fz (ve_mtx0 (k := 1) (ks := []) (ix := []) (dd := []) (alt_cons ⟨C.c_Habit, _, _, _, _, C.m_Habit_source, c_Habit_source.mono (by omega), (fun fd cl h => h.kbA (fun _ _ _ _ _ _ us ws h1 h2 => match us, ws, h1, h2 with | [_], [], _, _ => rfl)), .nil⟩ (alt_cons ⟨C.c_Free, _, _, _, _, C.m_Free_source, c_Habit_source.mono (by omega), (fun fd cl h => h.kbA (fun _ _ _ _ _ _ us ws h1 h2 => match us, ws, h1, h2 with | [_], [], _, _ => rfl)), .nil⟩ (alt_cons ⟨C.c_Spaced, _, _, _, _, C.m_Spaced_source, c_Habit_source.mono (by omega), (fun fd cl h => h.kbA (fun _ _ _ _ _ _ us ws h1 h2 => match us, ws, h1, h2 with | [_], [], _, _ => rfl)), .nil⟩ (alt_cons ⟨C.c_Answering, _, _, _, _, C.m_Answering_source, c_Answering_source.mono (by omega), (fun fd cl h => h.kbA (fun _ _ _ _ _ _ us ws h1 h2 => match us, ws, h1, h2 with | [_], [], _, _ => rfl)), .nil⟩ alt_nil)))) (hr.mono (by omega)) (ve_mkx0 (ks := []) (ix := []) (dd := []) C.k_Free (c_Free___init__.ini _) (hr.mono (by omega)) C.g_Free (fun fd cl h => h.kbA (fun _ _ _ _ _ _ us ws h1 h2 => match us, ws, h1, h2 with | [_], [], _, _ => rfl)) .nil (by rfl) vk_nil) vk_nil)) va_nil))))))))))) (vss_cons (vs_if (vc_not (vc_tru (ve_cv c__law_same (hr.mono (by omega)) rfl rfl rfl (fun _ _ _ _ _ _ us hl => match us, hl with | [_, _], _ => rfl) (by rfl) (va_cons (ve_name 2) (va_cons (ve_fz (ve_lst (va_cons (ve_tup (va_cons ve_int (va_cons ve_int (va_cons ve_non (va_cons ve_int va_nil))))) (va_cons (ve_tup (va_cons ve_str (va_cons ve_int (va_cons ve_int (va_cons ve_int va_nil))))) (va_cons (ve_tup va_nil) (va_cons ve_non (va_cons (ve_tup (va_cons ve_int va_nil)) (va_cons ve_non (va_cons (ve_tup (va_cons ve_int va_nil)) (va_cons ve_str (va_cons ve_non va_nil))))))))))) va_nil))))) (vss_one (vs_ret ve_bl)) vss_nil) (vss_cons (vs_if (vc_not (vc_tru (ve_cv c__law_same (hr.mono (by omega)) rfl rfl rfl (fun _ _ _ _ _ _ us hl => match us, hl with | [_, _], _ => rfl) (by rfl) (va_cons (ve_fz (ve_lst (va_cons (ve_fz (ve_fld [(He.ga _ "Answering")] (ve_name 1) (in_cons ⟨C.c_Answering, C.n_Answering_name⟩ in_nil))) (va_cons (ve_fz (ve_fld [(He.ga _ "Answering")] (ve_name 1) (in_cons ⟨C.c_Answering, C.n_Answering_least⟩ in_nil))) (va_cons (ve_fz (ve_fld [(He.ga _ "Answering")] (ve_name 1) (in_cons ⟨C.c_Answering, C.n_Answering_most⟩ in_nil))) (va_cons (ve_fz (ve_fld [(He.ga _ "Habit"), (He.ga _ "Free"), (He.ga _ "Spaced"), (He.ga _ "Answering")] (ve_name 1) (in_cons ⟨C.c_Habit, C.n_Habit_late⟩ (in_cons ⟨C.c_Free, C.n_Free_late⟩ (in_cons ⟨C.c_Spaced, C.n_Spaced_late⟩ (in_cons ⟨C.c_Answering, C.n_Answering_late⟩ in_nil)))))) va_nil)))))) (va_cons (ve_fz (ve_lst (va_cons ve_str (va_cons ve_int (va_cons ve_int (va_cons ve_int va_nil)))))) va_nil))))) (vss_one (vs_ret ve_bl)) vss_nil) (vss_cons (vs_if (vc_not (vc_tru (ve_cv c__law_same (hr.mono (by omega)) rfl rfl rfl (fun _ _ _ _ _ _ us hl => match us, hl with | [_, _], _ => rfl) (by rfl) (va_cons (ve_fz (ve_ctl (nn := n) (n := 1) (ks := []) (ix := [0]) (dd := []) c__law_all rfl (hr.mono (by omega)) (fun fd cl h => h.kbA (fun _ _ _ _ _ _ us ws h1 h2 => match us, ws, h1, h2 with | [_], [], _, _ => rfl)) .nil (by rfl) (fun _ => rfl) (by subst hsz; rfl) (lamd_cons (st := lam__law_defaults_so_0) ⟨⟨rfl, rfl, lamK_by (N := ["_law_plain", "_law_wide", "_law_told", "_law_kinds", "_law_one"]) (sc := d__law_defaults_so.scope) (scope := lam__law_defaults_so_0.scope) (by decide +kernel), lb_lam__law_defaults_so_0⟩, fun A outer s H E f c' (hr : Room 60 _) EX => (ve_mkx0 (ks := ["late"]) (ix := [0]) (dd := []) C.k_Habit (c_Habit___init__.ini _) (hr.mono (by omega)) C.g_Habit (fun fd cl h => h.kbA (fun _ _ _ _ _ _ us ws h1 h2 => match us, ws, h1, h2 with | [_], [_], _, _ => rfl)) .nil (by rfl) (vk_cons ve_int vk_nil))⟩ (lamd_cons (st := lam__law_defaults_so_1) ⟨⟨rfl, rfl, lamK_by (N := ["_law_plain", "_law_wide", "_law_told", "_law_kinds", "_law_one"]) (sc := d__law_defaults_so.scope) (scope := lam__law_defaults_so_1.scope) (by decide +kernel), lb_lam__law_defaults_so_1⟩, fun A outer s H E f c' (hr : Room 60 _) EX => (ve_mkx0 (ks := ["late"]) (ix := [0]) (dd := []) C.k_Habit (c_Habit___init__.ini _) (hr.mono (by omega)) C.g_Habit (fun fd cl h => h.kbA (fun _ _ _ _ _ _ us ws h1 h2 => match us, ws, h1, h2 with | [_], [_], _, _ => rfl)) .nil (by rfl) (vk_cons (ve_neg ve_int) vk_nil))⟩ lamd_nil)) (va_cons (ve_fz (ve_lst (va_cons (ve_fz (ve_lam (n := n) (st := lam__law_defaults_so_0) ⟨rfl, rfl, lamK_by (N := ["_law_plain", "_law_wide", "_law_told", "_law_kinds", "_law_one"]) (sc := d__law_defaults_so.scope) (scope := lam__law_defaults_so_0.scope) (by decide +kernel), lb_lam__law_defaults_so_0⟩ rfl rfl rfl (by subst hsz; rfl) (hL.tb hTB) hcd hL.mem hL.uni (.inl ⟨rfl, rfl⟩))) (va_cons (ve_fz (ve_lam (n := n) (st := lam__law_defaults_so_1) ⟨rfl, rfl, lamK_by (N := ["_law_plain", "_law_wide", "_law_told", "_law_kinds", "_law_one"]) (sc := d__law_defaults_so.scope) (scope := lam__law_defaults_so_1.scope) (by decide +kernel), lb_lam__law_defaults_so_1⟩ rfl rfl rfl (by subst hsz; rfl) (hL.tb hTB) hcd hL.mem hL.uni (.inr ⟨rfl, ⟨_, _, rfl⟩, rfl⟩))) va_nil)))) va_nil) vk_nil)) (va_cons (ve_fz (ve_op ow_mul (ve_lst (va_cons (ve_tup (va_cons ve_str (va_cons ve_str va_nil))) va_nil)) ve_int)) va_nil))))) (vss_one (vs_ret ve_bl)) vss_nil) (vss_cons (vs_set (i := 3) sc__law_defaults_so.nd rfl (by first | exact Or.inl rfl | exact Or.inr rfl) (ve_op ow_add (ve_lc (own := [("_law_one", 4)]) rfl sc__law_defaults_so.nd (vi_seq (ve_fz (ve_lst (va_cons (ve_name 0) (va_cons (ve_name 1) (va_cons (ve_fz (ve_mkx0 (ks := []) (ix := []) (dd := []) C.k_Free (c_Free___init__.ini _) (hr.mono (by omega)) C.g_Free (fun fd cl h => h.kbA (fun _ _ _ _ _ _ us ws h1 h2 => match us, ws, h1, h2 with | [_], [], _, _ => rfl)) .nil (by rfl) vk_nil)) va_nil)))))) (blkOk_by (own := [("_law_one", 4)]) (N := ["_law_plain", "_law_wide", "_law_told", "_law_kinds", "_law_one"]) (sc := d__law_defaults_so.scope) (by decide +kernel)) (fun _ _ _ _ _ => (vg_name (i := 4) sc__law_defaults_so.nd rfl (by first | exact Or.inl rfl | exact Or.inr rfl))) (fun _ _ _ _ _ => vcs_nil) (fun _ _ _ _ _ => (ve_fz (ve_isiC [(He.ga _ "Habit", true), (He.ga _ "Free", true), (He.ga _ "Spaced", true), (He.ga _ "Answering", true)] (ve_name 4) (by rfl) T.isinstance (by rfl) C.g_Habit C.nk_Habit (isa_cons C.c_Habit C.ik_Habit C.in_Habit_Habit (isa_cons C.c_Free C.ik_Free C.in_Free_Habit (isa_cons C.c_Spaced C.ik_Spaced C.in_Spaced_Habit (isa_cons C.c_Answering C.ik_Answering C.in_Answering_Habit isa_nil)))))))) (ve_lst (va_cons (ve_fz (ve_isiC [(He.ga _ "Habit", false), (He.ga _ "Free", false), (He.ga _ "Spaced", false), (He.ga _ "Answering", true)] (ve_name 0) (by rfl) T.isinstance (by rfl) C.g_Answering C.nk_Answering (isa_cons C.c_Habit C.ik_Habit C.in_Habit_Answering (isa_cons C.c_Free C.ik_Free C.in_Free_Answering (isa_cons C.c_Spaced C.ik_Spaced C.in_Spaced_Answering (isa_cons C.c_Answering C.ik_Answering C.in_Answering_Answering isa_nil)))))) (va_cons (ve_fz (ve_isiC [(He.ga _ "Habit", false), (He.ga _ "Free", true), (He.ga _ "Spaced", false), (He.ga _ "Answering", false)] (ve_name 1) (by rfl) T.isinstance (by rfl) C.g_Free C.nk_Free (isa_cons C.c_Habit C.ik_Habit C.in_Habit_Free (isa_cons C.c_Free C.ik_Free C.in_Free_Free (isa_cons C.c_Spaced C.ik_Spaced C.in_Spaced_Free (isa_cons C.c_Answering C.ik_Answering C.in_Answering_Free isa_nil)))))) va_nil))))) (vss_one (vs_ret (ve_and (ve_cmp (ow_eq hr.units) (ve_name 3) (ve_op ow_add (ve_op ow_mul (ve_lst (va_cons ve_bl va_nil)) ve_int) (ve_op ow_mul (ve_lst (va_cons ve_bl va_nil)) ve_int))) (ve_one (ve_cv c__law_same (hr.mono (by omega)) rfl rfl rfl (fun _ _ _ _ _ _ us hl => match us, hl with | [_, _], _ => rfl) (by rfl) (va_cons (ve_fz (ve_lst (va_cons (ve_fz (ve_cval (by rfl) C.g_Habit C.v_Habit_MOST)) (va_cons (ve_fz (ve_cvalS (by rfl) C.g_Habit C.v_Habit_KIND)) (va_cons (ve_fz (ve_cvalS (by rfl) C.g_Free C.v_Free_KIND)) (va_cons (ve_fz (ve_cvalS (by rfl) C.g_Spaced C.v_Spaced_KIND)) (va_cons (ve_fz (ve_cvalS (by rfl) C.g_Answering C.v_Answering_KIND)) va_nil))))))) (va_cons (ve_fz (ve_lst (va_cons ve_int (va_cons ve_str (va_cons ve_str (va_cons ve_str (va_cons ve_str va_nil))))))) va_nil)))))))))))))) (by rintro svs Qs Qx ⟨rfl, _⟩; rfl) (by
    rintro n svs Qs Qx ⟨rfl, q⟩
    have sp0 : spF (.int 1) (.int 1) .non (.int 0) = none := by decide +kernel
    have an0 : anF (.str "bob") (.int 0) (.int 0) (.int 0) = none := by decide +kernel
    have hcI : ∀ Q (z : Str), Q (.str "InvalidHabit") (.str z) → caught K Q (He.ga K "InvalidHabit") (habitF z) := fun Q z q => by unfold caught; first | exact .inl ⟨rfl, rfl, q⟩ | exact .inr (⟨rfl, _, rfl, q⟩)
    refine gSeq_go fun R hR => ?_
    simp
    refine ⟨rfl, rfl, _, _, _, _, rfl, rfl, rfl, rfl, rfl, fun _ => ?_, fun x h => by rw [sp0] at h; cases h⟩
    refine ⟨rfl, rfl, _, _, _, _, rfl, rfl, rfl, rfl, rfl, fun _ => ?_, fun x h => by rw [an0] at h; cases h⟩
    show R [some (.tr (spacedD K (.int 1) (.int 1) .non (.int 0))), some (.tr (answD K (.str "bob") (.int 0) (.int 0) (.int 0))), none, none, none]
    rw [hR]
    clear hR R
    refine gSeq_go fun R hR => ?_
    simp
    refine ⟨_, _, ⟨rfl, rfl⟩, _, .inr (.inr (.inl ⟨rfl, rfl⟩)), noA rfl, .int 1, .int 1, .non, .int 0, rfl, rfl, rfl, rfl, rfl, ?_⟩
    refine ⟨_, _, ⟨rfl, rfl⟩, _, .inr (.inr (.inr ⟨rfl, rfl⟩)), noA rfl, _, _, _, _, rfl, rfl, rfl, rfl, rfl, ?_⟩
    refine ⟨rfl, rfl, rfl, ?_⟩
    refine ⟨_, _, ⟨rfl, rfl⟩, _, .inr (.inl ⟨rfl, rfl⟩), noA rfl, rfl, ?_⟩
    refine ⟨rfl, rfl, rfl, ?_⟩
    refine ⟨_, _, ⟨rfl, rfl⟩, .inr (.inl rfl), .tr .non, rfl, ?_⟩
    refine ⟨hcH, rfl, .int 0, rfl, rfl, fun _ => ?_, fun h => by cases h⟩
    refine ⟨_, _, ⟨rfl, rfl⟩, _, .inl ⟨rfl, rfl⟩, noA rfl, _, _, .int 0, hcH, rfl, rfl, ?_⟩
    refine ⟨hcH, rfl, .non, rfl, rfl, fun _ => ?_, fun h => by cases h⟩
    refine ⟨_, _, ⟨rfl, rfl⟩, .inl rfl, .tr .non, rfl, ?_⟩
    refine ⟨hcH, rfl, .int 7, rfl, rfl, fun _ => ?_, fun h => by cases h⟩
    refine ⟨_, _, ⟨rfl, rfl⟩, _, .inl ⟨rfl, rfl⟩, noA rfl, _, _, .int 7, hcH, rfl, rfl, ?_⟩
    refine ⟨_, _, ⟨rfl, rfl⟩, _, .inr (.inr (.inr ⟨rfl, rfl⟩)), noA rfl, _, _, _, _, rfl, ?_⟩
    refine ⟨rfl, rfl, rfl, ?_⟩
    refine ⟨_, _, ⟨rfl, rfl⟩, _, .inr (.inl ⟨rfl, rfl⟩), noA rfl, _, rfl, ?_⟩
    simp
    rw [hR]
    clear hR R
    refine gSeq_go fun R hR => ?_
    simp
    refine .inr ⟨by decide +kernel, ?_⟩
    rw [hR]
    clear hR R
    refine gSeq_go fun R hR => ?_
    simp
    refine ⟨_, _, ⟨rfl, rfl⟩, rfl, .tr (.str "bob"), rfl, _, _, ⟨rfl, rfl⟩, rfl, .tr (.int 0), rfl, _, _, ⟨rfl, rfl⟩, rfl, .tr (.int 0), rfl, _, _, ⟨rfl, rfl⟩, .inr (.inr (.inr rfl)), .tr (.int 0), rfl, ?_⟩
    simp
    refine .inr ⟨by decide +kernel, ?_⟩
    rw [hR]
    clear hR R
    refine gSeq_go fun R hR => ?_
    simp
    intro f1 f2
    refine ⟨_, [(f1, ⟨lam__law_defaults_so_0, n⟩), (f2, ⟨lam__law_defaults_so_1, n⟩)], rfl, (isA_tr _ _).mpr rfl, by simp [sizeLine], ?_⟩
    refine lookT_of (.inl ⟨rfl, ?_⟩)
    simp [argS]
    refine ⟨hcH, rfl, .int 100, rfl, rfl, fun h => (by cases h), fun _ => ?_⟩
    refine hcI _ _ ?_
    refine lookT_of (.inr (.inl ⟨rfl, ?_⟩))
    simp [argS]
    refine ⟨hcH, rfl, .int (-1), rfl, rfl, fun h => (by cases h), fun _ => ?_⟩
    refine hcI _ _ ?_
    show _ ∧ _
    refine ⟨⟨⟨rfl, rfl⟩, rfl⟩, .inr ⟨by decide +kernel, ?_⟩⟩
    rw [hR]
    clear hR R
    refine gSeq_go fun R hR => ?_
    simp
    refine ⟨rfl, rfl, rfl, ?_⟩
    refine lcW_mapD (fun _ => .bl true) (by simp [sizeLine]) (fun d hd R r => ?_) ?_
    · simp
      simp at hd
      rcases hd with rfl | rfl | rfl
      · exact ⟨true, by simp, r⟩
      · exact ⟨true, by simp, r⟩
      · exact ⟨true, by simp, r⟩
    refine ⟨false, by simp, ?_⟩
    refine ⟨false, by simp, ?_⟩
    simp
    rw [hR]
    clear hR R
    simp
    rw [show sameD _ _ = true by decide +kernel]
    exact q
    ), h.mg⟩
end
end K2

namespace K2
open PySem PySem.Spec PyProof.Rows L2 VT HP
theorem bad_slot {V : VEnds} {n a m l2 : D} {s1 s2 s3 s4 s5 s6 s7 s12 : Option SV} (hn : n ∈ [D.str (Str.ofString "ann"), D.str (Str.ofString "A"), D.str (Str.ofString ""), D.non, D.int 3, D.str (Str.ofString "abcdefg")])
    (ha : a ∈ [D.int 0, D.int 1, D.int 99, D.int 100, D.int (-1), D.bl true]) (hm : m ∈ [D.int 0, D.int 1, D.int 99, D.int 100, D.non]) (hl2 : l2 ∈ [D.int 0, D.int 99, D.int 100, D.non, D.int (-1)])
    (key : V.nx [none, s1, s2, s3, s4, s5, s6, s7, some (.tr n), some (.tr a), some (.tr m), some (.tr l2), some (.tr (faultD (anF n a m l2)))]) :
    gSet 12
        (gIf (gTest (gOp (gEq true) (VT.gName 8) (gC (D.str (Str.ofString "ann"))))) (gC (D.str (Str.ofString "name")))
          (gIf
            (gOrT (gTest (gOp (gIsT false) (VT.gName 9) (gC (D.bl true))))
              (gNotT (gTest (gChain gLe gLe (gC (D.int 0)) (VT.gName 9) (gC (D.int 99))))))
            (gC (D.str (Str.ofString "least")))
            (gIf
              (gOrT (gTest (gOp (gIsN false) (VT.gName 10) (gC D.non)))
                (gNotT (gTest (gChain gLe gLe (VT.gName 9) (VT.gName 10) (gC (D.int 99))))))
              (gC (D.str (Str.ofString "most")))
              (gIf
                (gOrT (gTest (gOp (gIsN false) (VT.gName 11) (gC D.non)))
                  (gNotT (gTest (gChain gLe gLe (gC (D.int 0)) (VT.gName 11) (gC (D.int 99))))))
                (gC (D.str (Str.ofString "late"))) (gC D.non))))) V [none, s1, s2, s3, s4, s5, s6, s7, some (.tr n), some (.tr a), some (.tr m), some (.tr l2), s12] := by
  simp only [List.mem_cons, List.not_mem_nil, or_false] at hn ha hm hl2
  have ha : (∃ i : Int, a = .int i) ∨ a = .bl true := by rcases ha with rfl | rfl | rfl | rfl | rfl | rfl <;> first | exact .inl ⟨_, rfl⟩ | exact .inr rfl
  have hm : (∃ i : Int, m = .int i) ∨ m = .non := by rcases hm with rfl | rfl | rfl | rfl | rfl <;> first | exact .inl ⟨_, rfl⟩ | exact .inr rfl
  have hl2 : (∃ i : Int, l2 = .int i) ∨ l2 = .non := by rcases hl2 with rfl | rfl | rfl | rfl | rfl <;> first | exact .inl ⟨_, rfl⟩ | exact .inr rfl
  have nA : isNameD (.str "ann") = true := by decide +kernel
  have nB : n ≠ .str "ann" → isNameD n = false := by
    intro h
    rcases hn with rfl | rfl | rfl | rfl | rfl | rfl <;> first | exact (h rfl).elim | rfl | decide +kernel
  by_cases en : n = .str "ann"
  · subst en
    clear hn nB
    rcases ha with ⟨i, rfl⟩ | rfl
    · by_cases c1 : 0 ≤ i ∧ i ≤ 99
      rotate_left
      · have e : anF (.str "ann") (.int i) m l2 = some "least" := by
          have i1 : inD (.int i) 0 99 = false := by
            cases h : inD (.int i) 0 99 with
            | false => rfl
            | true =>
              simp [inD] at h
              omega
          simp [anF, nA, i1]
        rw [e] at key
        simp
        by_cases c2 : i < 0
        · exact .inl ⟨c2, key⟩
        · exact .inr ⟨by omega, .inl ⟨by omega, key⟩⟩
      have i1 : inD (.int i) 0 99 = true := by
        simp [inD]
        exact c1
      rcases hm with ⟨j, rfl⟩ | rfl
      rotate_left
      · have e : anF (.str "ann") (.int i) .non l2 = some "most" := by
          simp [anF, nA, i1, inD_non (d := .non) rfl]
        rw [e] at key
        simp
        exact .inr ⟨c1.1, .inr ⟨c1.2, key⟩⟩
      by_cases c3 : i ≤ j ∧ j ≤ 99
      rotate_left
      · have e : anF (.str "ann") (.int i) (.int j) l2 = some "most" := by
          have j1 : inD (.int j) i 99 = false := by
            cases h : inD (.int j) i 99 with
            | false => rfl
            | true =>
              simp [inD] at h
              omega
          simp [anF, nA, i1, intOf, j1]
        rw [e] at key
        simp
        refine .inr ⟨c1.1, .inr ⟨c1.2, ?_⟩⟩
        by_cases c2 : j < i
        · exact .inl ⟨c2, key⟩
        · exact .inr ⟨by omega, .inl ⟨by omega, key⟩⟩
      have j1 : inD (.int j) i 99 = true := by
        simp [inD]
        exact c3
      rcases hl2 with ⟨q, rfl⟩ | rfl
      rotate_left
      · have e : anF (.str "ann") (.int i) (.int j) .non = some "late" := by
          simp [anF, nA, i1, j1, intOf, inD_non (d := .non) rfl]
        rw [e] at key
        simp
        exact .inr ⟨c1.1, .inr ⟨c1.2, .inr ⟨c3.1, .inr ⟨c3.2, key⟩⟩⟩⟩
      by_cases c4 : 0 ≤ q ∧ q ≤ 99
      rotate_left
      · have e : anF (.str "ann") (.int i) (.int j) (.int q) = some "late" := by
          have q1 : inD (.int q) 0 99 = false := by
            cases h : inD (.int q) 0 99 with
            | false => rfl
            | true =>
              simp [inD] at h
              omega
          simp [anF, nA, i1, intOf, j1, q1]
        rw [e] at key
        simp
        refine .inr ⟨c1.1, .inr ⟨c1.2, .inr ⟨c3.1, .inr ⟨c3.2, ?_⟩⟩⟩⟩
        by_cases c2 : q < 0
        · exact .inl ⟨c2, key⟩
        · exact .inr ⟨by omega, .inl ⟨by omega, key⟩⟩
      have e : anF (.str "ann") (.int i) (.int j) (.int q) = none := by
        have q1 : inD (.int q) 0 99 = true := by
          simp [inD]
          exact c4
        simp [anF, nA, i1, intOf, j1, q1]
      rw [e] at key
      simp
      exact .inr ⟨c1.1, .inr ⟨c1.2, .inr ⟨c3.1, .inr ⟨c3.2, .inr ⟨c4.1, .inr ⟨c4.2, key⟩⟩⟩⟩⟩⟩
    · have e : anF (.str "ann") (.bl true) m l2 = some "least" := by
        simp [anF, nA, inD]
      rw [e] at key
      simp
      exact key
  · have k0 : (∃ t, n = .str t) ∨ n = .non ∨ ∃ i, n = .int i := by
      rcases hn with rfl | rfl | rfl | rfl | rfl | rfl <;> first | exact .inl ⟨_, rfl⟩ | exact .inr (.inl rfl) | exact .inr (.inr ⟨_, rfl⟩)
    have e : anF n a m l2 = some "name" := by
      unfold anF
      rw [nB en, if_pos rfl]
      rfl
    rw [e] at key
    rcases k0 with ⟨t, rfl⟩ | rfl | ⟨i, rfl⟩
    · simp
      exact .inr ⟨fun e => en (by rw [e]), key⟩
    · simp
      exact .inr ⟨rfl, key⟩
    · simp
      exact .inr ⟨rfl, key⟩

section
variable {P : Program} {w : World} {K : PySem.W.Frag} {mg : Str → Option Value} {base : Heap}
theorem ok_law (T : Facts mg) (C : CF K mg) (hL : LamF K "law") (hTB : TabBs K mg base) (hB : DefAt K mg d__law_bag) (c__law_draw : FnV P w K mg base d__law_draw 1 ["_law_bag_here", "_law_many"] fDraw) (c__law_pick : FnV P w K mg base d__law_pick 2 ["_law_bag_here", "_law_some"] fPick) (c_Habit___init__ : IniU P w K mg base d_Habit___init__ (He.fAd K d_Habit___init__.at_) 4 ["self", "late"] (uHabit K)) (c_Free___init__ : IniU P w K mg base d_Free___init__ (He.fAd K d_Free___init__.at_) 5 ["self"] (uFree K))
    (c_Spaced___init__ : IniU P w K mg base d_Spaced___init__ (He.fAd K d_Spaced___init__.at_) 5 ["self", "burst", "window", "pause", "late"] (uSpaced K)) (c_Answering___init__ : IniU P w K mg base d_Answering___init__ (He.fAd K d_Answering___init__.at_) 5 ["self", "name", "least", "most", "late"] (uAnsw K))
    (c_Habit_parts : FnX P w K mg base d_Habit_parts (He.fAd K d_Habit_parts.at_) 1 ["self"] (fPartsH K)) (c_Free_parts : FnX P w K mg base d_Free_parts (He.fAd K d_Free_parts.at_) 1 ["self"] (fPartsF K)) (c_Spaced_parts : FnX P w K mg base d_Spaced_parts (He.fAd K d_Spaced_parts.at_) 2 ["self"] (fPartsS K))
    (c_Answering_parts : FnX P w K mg base d_Answering_parts (He.fAd K d_Answering_parts.at_) 2 ["self"] (fPartsA K)) (c_Habit_source : FnX P w K mg base d_Habit_source (He.fAd K d_Habit_source.at_) 1 ["self"] fSourceH) (c_Answering_source : FnX P w K mg base d_Answering_source (He.fAd K d_Answering_source.at_) 1 ["self"] (fSourceA K))
    (c__law_spaced : FnV P w K mg base d__law_spaced 3 ["_law_bag_here", "_law_top"] fSpacedL) (c__law_habit_fault : FnV P w K mg base d__law_habit_fault 1 ["_law_parts"] fFaultL) (c__law_defaults_so : FnG P w K mg base d__law_defaults_so 65 [] fYes)
    (c__law_same : FnV P w K mg base d__law_same 4 ["_law_found", "_law_due"] (fSame 4)) (c__law_got : FnT P w K mg base d__law_got 63 ["_law_ask"] (fGot K)) :
    ∀ fd, FunD K d_law.name d_law.qual d_law.params d_law.body d_law.scope (d_law.dvs K) (d_law.kws K) (He.fAd K d_law.at_) fd → FnOk P w K mg base CX0 70 (He.fAd K d_law.at_) fd ["_law_script"] (spLaw K) := by
  obtain ⟨fdB, FB, GB⟩ := ok_bag (P := P) (w := w) (base := base) hB T
  have bB : Binds K fdB ["_law_script"] [] := FB.bindsN fun _ _ _ _ _ _ us hl => match us, hl with | [_], _ => rfl
  refine law_okL sc_law (fun f cdv A outer s H E n hsz hcd hr => pss_cons (ps_set (i := 1) sc_law.nd rfl (by first | exact Or.inl rfl | exact Or.inr rfl) (pe_call GB (hr.mono (by omega)) (by rfl) hB.mg FB.kp bB .nil pass0 (pa_cons (pv 0) pa_nil))) (VSs.ex (vss_cons (vs_for (by first | exact PassesOwn.never | exact passes_of rfl) rfl (vi_r1 (by rfl) T.range (va_cons ve_int va_nil)) (vg_name (i := 2) sc_law.nd rfl (by first | exact Or.inl rfl | exact Or.inr rfl)) (vss_cons (vs_set (i := 3) sc_law.nd rfl (by first | exact Or.inl rfl | exact Or.inr rfl) (ve_callT cw_list (by rfl) T.list (by decide +kernel) (va_cons (ve_cv c__law_spaced (hr.mono (by omega)) rfl rfl rfl (fun _ _ _ _ _ _ us hl => match us, hl with | [_, _], _ => rfl) (by rfl) (va_cons (ve_name 1) (va_cons ve_int va_nil))) va_nil))) (vss_cons (vs_for (by first | exact PassesOwn.never | exact passes_of rfl) rfl (vi_r1 (by rfl) T.range (va_cons (ve_cv c__law_draw (hr.mono (by omega)) rfl rfl rfl (fun _ _ _ _ _ _ us hl => match us, hl with | [_, _], _ => rfl) (by rfl) (va_cons (ve_name 1) (va_cons ve_int va_nil))) va_nil)) (vg_name (i := 4) sc_law.nd rfl (by first | exact Or.inl rfl | exact Or.inr rfl)) (vss_one (vs_putA (hu1 hr) 3 (ve_fz (ve_cv c__law_pick (hr.mono (by omega)) rfl rfl rfl (fun _ _ _ _ _ _ us hl => match us, hl with | [_, _], _ => rfl) (by rfl) (va_cons (ve_name 1) (va_cons (ve_fz (ve_lst (va_cons ve_int (va_cons ve_int (va_cons ve_int (va_cons ve_int (va_cons ve_int (va_cons ve_int (va_cons (ve_neg ve_int) (va_cons ve_non (va_cons ve_bl (va_cons ve_str (va_cons ve_int va_nil))))))))))))) va_nil)))) (ve_cv c__law_draw (hr.mono (by omega)) rfl rfl rfl (fun _ _ _ _ _ _ us hl => match us, hl with | [_, _], _ => rfl) (by rfl) (va_cons (ve_name 1) (va_cons ve_int va_nil)))))) (vss_cons (vs_set (i := 5) sc_law.nd rfl (by first | exact Or.inl rfl | exact Or.inr rfl) (ve_cv c__law_habit_fault (hr.mono (by omega)) rfl rfl rfl (fun _ _ _ _ _ _ us hl => match us, hl with | [_], _ => rfl) (by rfl) (va_cons (ve_name 3) va_nil))) (vss_cons (vs_set (i := 6) sc_law.nd rfl (by first | exact Or.inl rfl | exact Or.inr rfl) (ve_ctl (nn := n) (n := 1) (ks := []) (ix := [0]) (dd := []) c__law_got rfl (hr.mono (by omega)) (fun fd cl h => h.kbA (fun _ _ _ _ _ _ us ws h1 h2 => match us, ws, h1, h2 with | [_], [], _, _ => rfl)) .nil (by rfl) (fun _ => rfl) (by subst hsz; rfl) (lamd_cons (st := lam_law_0) ⟨⟨rfl, rfl, lamK_by (N := ["_law_script", "_law_bag_here", "_law_turn", "_law_parts", "_law_k", "_law_fault", "_law_told", "_law_made", "_law_name", "_law_low", "_law_high", "_law_lag", "_law_bad"]) (sc := d_law.scope) (scope := lam_law_0.scope) (by decide +kernel), lb_lam_law_0⟩, fun A outer s H E f c' (hr : Room 60 _) EX => (ve_mtx0 (k := 2) (ks := []) (ix := []) (dd := []) (alt_cons ⟨C.c_Habit, _, _, _, _, C.m_Habit_parts, c_Habit_parts.mono (by omega), (fun fd cl h => h.kbA (fun _ _ _ _ _ _ us ws h1 h2 => match us, ws, h1, h2 with | [_], [], _, _ => rfl)), .nil⟩ (alt_cons ⟨C.c_Free, _, _, _, _, C.m_Free_parts, c_Free_parts.mono (by omega), (fun fd cl h => h.kbA (fun _ _ _ _ _ _ us ws h1 h2 => match us, ws, h1, h2 with | [_], [], _, _ => rfl)), .nil⟩ (alt_cons ⟨C.c_Spaced, _, _, _, _, C.m_Spaced_parts, c_Spaced_parts.mono (by omega), (fun fd cl h => h.kbA (fun _ _ _ _ _ _ us ws h1 h2 => match us, ws, h1, h2 with | [_], [], _, _ => rfl)), .nil⟩ (alt_cons ⟨C.c_Answering, _, _, _, _, C.m_Answering_parts, c_Answering_parts.mono (by omega), (fun fd cl h => h.kbA (fun _ _ _ _ _ _ us ws h1 h2 => match us, ws, h1, h2 with | [_], [], _, _ => rfl)), .nil⟩ alt_nil)))) (hr.mono (by omega)) (ve_mkx0 (ks := ["late", "pause", "window", "burst"]) (ix := [3, 2, 1, 0]) (dd := []) C.k_Spaced (c_Spaced___init__.ini _) (hr.mono (by omega)) C.g_Spaced (fun fd cl h => h.kbA (fun _ _ _ _ _ _ us ws h1 h2 => match us, ws, h1, h2 with | [_], [_, _, _, _], _, _ => rfl)) .nil (by rfl) (vk_cons (ve_fz (ve_ixA (hu1 hr) (ve_name 3) ve_int)) (vk_cons (ve_fz (ve_ixA (hu1 hr) (ve_name 3) ve_int)) (vk_cons (ve_fz (ve_ixA (hu1 hr) (ve_name 3) ve_int)) (vk_cons (ve_fz (ve_ixA (hu1 hr) (ve_name 3) ve_int)) vk_nil))))) vk_nil)⟩ lamd_nil) (va_cons (ve_fz (ve_lam (n := n) (st := lam_law_0) ⟨rfl, rfl, lamK_by (N := ["_law_script", "_law_bag_here", "_law_turn", "_law_parts", "_law_k", "_law_fault", "_law_told", "_law_made", "_law_name", "_law_low", "_law_high", "_law_lag", "_law_bad"]) (sc := d_law.scope) (scope := lam_law_0.scope) (by decide +kernel), lb_lam_law_0⟩ rfl rfl rfl (by subst hsz; rfl) (hL.tb hTB) hcd hL.mem hL.uni (.inl ⟨rfl, rfl⟩))) va_nil) vk_nil)) (vss_cons (vs_if (vc_not (vc_tru (ve_cv c__law_same (hr.mono (by omega)) rfl rfl rfl (fun _ _ _ _ _ _ us hl => match us, hl with | [_, _], _ => rfl) (by rfl) (va_cons (ve_name 6) (va_cons (ve_fz (ve_if (vc_cmp ow_is (ve_name 5) ve_non) (ve_tup (va_cons ve_str (va_cons (ve_fz (ve_callT cw_tuple (by rfl) T.tuple (by decide +kernel) (va_cons (ve_name 3) va_nil))) va_nil))) (ve_tup (va_cons ve_str (va_cons (ve_name 5) va_nil))))) va_nil))))) (vss_one (vs_ret ve_bl)) vss_nil) (vss_cons (vs_if (vc_cmp ow_is (ve_name 5) ve_non) (vss_cons (vs_set (i := 7) sc_law.nd rfl (by first | exact Or.inl rfl | exact Or.inr rfl) (ve_mkx0 (ks := ["burst", "window", "pause", "late"]) (ix := [0, 1, 2, 3]) (dd := []) C.k_Spaced (c_Spaced___init__.ini _) (hr.mono (by omega)) C.g_Spaced (fun fd cl h => h.kbA (fun _ _ _ _ _ _ us ws h1 h2 => match us, ws, h1, h2 with | [_], [_, _, _, _], _, _ => rfl)) .nil (by rfl) (vk_cons (ve_fz (ve_ixA (hu1 hr) (ve_name 3) ve_int)) (vk_cons (ve_fz (ve_ixA (hu1 hr) (ve_name 3) ve_int)) (vk_cons (ve_fz (ve_ixA (hu1 hr) (ve_name 3) ve_int)) (vk_cons (ve_fz (ve_ixA (hu1 hr) (ve_name 3) ve_int)) vk_nil)))))) (vss_one (vs_if (vc_not (vc_tru (ve_cv c__law_same (hr.mono (by omega)) rfl rfl rfl (fun _ _ _ _ _ _ us hl => match us, hl with | [_, _], _ => rfl) (by rfl) (va_cons (ve_fz (ve_lst (va_cons (ve_fz (ve_fld [(He.ga _ "Spaced")] (ve_name 7) (in_cons ⟨C.c_Spaced, C.n_Spaced_burst⟩ in_nil))) (va_cons (ve_fz (ve_fld [(He.ga _ "Spaced")] (ve_name 7) (in_cons ⟨C.c_Spaced, C.n_Spaced_window⟩ in_nil))) (va_cons (ve_fz (ve_fld [(He.ga _ "Spaced")] (ve_name 7) (in_cons ⟨C.c_Spaced, C.n_Spaced_pause⟩ in_nil))) (va_cons (ve_fz (ve_fld [(He.ga _ "Habit"), (He.ga _ "Free"), (He.ga _ "Spaced"), (He.ga _ "Answering")] (ve_name 7) (in_cons ⟨C.c_Habit, C.n_Habit_late⟩ (in_cons ⟨C.c_Free, C.n_Free_late⟩ (in_cons ⟨C.c_Spaced, C.n_Spaced_late⟩ (in_cons ⟨C.c_Answering, C.n_Answering_late⟩ in_nil)))))) (va_cons (ve_fz (ve_mtx0 (k := 1) (ks := []) (ix := []) (dd := []) (alt_cons ⟨C.c_Habit, _, _, _, _, C.m_Habit_source, c_Habit_source.mono (by omega), (fun fd cl h => h.kbA (fun _ _ _ _ _ _ us ws h1 h2 => match us, ws, h1, h2 with | [_], [], _, _ => rfl)), .nil⟩ (alt_cons ⟨C.c_Free, _, _, _, _, C.m_Free_source, c_Habit_source.mono (by omega), (fun fd cl h => h.kbA (fun _ _ _ _ _ _ us ws h1 h2 => match us, ws, h1, h2 with | [_], [], _, _ => rfl)), .nil⟩ (alt_cons ⟨C.c_Spaced, _, _, _, _, C.m_Spaced_source, c_Habit_source.mono (by omega), (fun fd cl h => h.kbA (fun _ _ _ _ _ _ us ws h1 h2 => match us, ws, h1, h2 with | [_], [], _, _ => rfl)), .nil⟩ (alt_cons ⟨C.c_Answering, _, _, _, _, C.m_Answering_source, c_Answering_source.mono (by omega), (fun fd cl h => h.kbA (fun _ _ _ _ _ _ us ws h1 h2 => match us, ws, h1, h2 with | [_], [], _, _ => rfl)), .nil⟩ alt_nil)))) (hr.mono (by omega)) (ve_name 7) vk_nil)) va_nil))))))) (va_cons (ve_fz (ve_op ow_add (ve_name 3) (ve_lst (va_cons ve_non va_nil)))) va_nil))))) (vss_one (vs_ret ve_bl)) vss_nil))) vss_nil) (vss_cons (vs_parT rfl (by decide) (va_cons (ve_cv c__law_pick (hr.mono (by omega)) rfl rfl rfl (fun _ _ _ _ _ _ us hl => match us, hl with | [_, _], _ => rfl) (by rfl) (va_cons (ve_name 1) (va_cons (ve_fz (ve_lst (va_cons ve_str (va_cons ve_str (va_cons ve_str (va_cons ve_non (va_cons ve_int (va_cons ve_str va_nil)))))))) va_nil))) (va_cons (ve_cv c__law_pick (hr.mono (by omega)) rfl rfl rfl (fun _ _ _ _ _ _ us hl => match us, hl with | [_, _], _ => rfl) (by rfl) (va_cons (ve_name 1) (va_cons (ve_fz (ve_lst (va_cons ve_int (va_cons ve_int (va_cons ve_int (va_cons ve_int (va_cons (ve_neg ve_int) (va_cons ve_bl va_nil)))))))) va_nil))) (va_cons (ve_cv c__law_pick (hr.mono (by omega)) rfl rfl rfl (fun _ _ _ _ _ _ us hl => match us, hl with | [_, _], _ => rfl) (by rfl) (va_cons (ve_name 1) (va_cons (ve_fz (ve_lst (va_cons ve_int (va_cons ve_int (va_cons ve_int (va_cons ve_int (va_cons ve_non va_nil))))))) va_nil))) (va_cons (ve_cv c__law_pick (hr.mono (by omega)) rfl rfl rfl (fun _ _ _ _ _ _ us hl => match us, hl with | [_, _], _ => rfl) (by rfl) (va_cons (ve_name 1) (va_cons (ve_fz (ve_lst (va_cons ve_int (va_cons ve_int (va_cons ve_int (va_cons ve_non (va_cons (ve_neg ve_int) va_nil))))))) va_nil))) va_nil)))) (vns_cons (i := 8) sc_law.nd rfl (by first | exact Or.inl rfl | exact Or.inr rfl) (vns_cons (i := 9) sc_law.nd rfl (by first | exact Or.inl rfl | exact Or.inr rfl) (vns_cons (i := 10) sc_law.nd rfl (by first | exact Or.inl rfl | exact Or.inr rfl) (vns_cons (i := 11) sc_law.nd rfl (by first | exact Or.inl rfl | exact Or.inr rfl) vns_nil))))) (vss_cons (vs_set (i := 12) sc_law.nd rfl (by first | exact Or.inl rfl | exact Or.inr rfl) (ve_if (vc_cmp (ow_ne hr.units) (ve_name 8) ve_str) ve_str (ve_if (VW.vc (vw_or (vc_cmp ow_isT (ve_name 9) ve_bl) (vw_or1 (vc_not (vc_chain ow_le ow_le ve_int (ve_name 9) ve_int))))) ve_str (ve_if (VW.vc (vw_or (vc_cmp ow_is (ve_name 10) ve_non) (vw_or1 (vc_not (vc_chain ow_le ow_le (ve_name 9) (ve_name 10) ve_int))))) ve_str (ve_if (VW.vc (vw_or (vc_cmp ow_is (ve_name 11) ve_non) (vw_or1 (vc_not (vc_chain ow_le ow_le ve_int (ve_name 11) ve_int))))) ve_str ve_non))))) (vss_cons (vs_set (i := 6) sc_law.nd rfl (by first | exact Or.inl rfl | exact Or.inr rfl) (ve_ctl (nn := n) (n := 1) (ks := []) (ix := [0]) (dd := []) c__law_got rfl (hr.mono (by omega)) (fun fd cl h => h.kbA (fun _ _ _ _ _ _ us ws h1 h2 => match us, ws, h1, h2 with | [_], [], _, _ => rfl)) .nil (by rfl) (fun _ => rfl) (by subst hsz; rfl) (lamd_cons (st := lam_law_1) ⟨⟨rfl, rfl, lamK_by (N := ["_law_script", "_law_bag_here", "_law_turn", "_law_parts", "_law_k", "_law_fault", "_law_told", "_law_made", "_law_name", "_law_low", "_law_high", "_law_lag", "_law_bad"]) (sc := d_law.scope) (scope := lam_law_1.scope) (by decide +kernel), lb_lam_law_1⟩, fun A outer s H E f c' (hr : Room 60 _) EX => (ve_mtx0 (k := 2) (ks := []) (ix := []) (dd := []) (alt_cons ⟨C.c_Habit, _, _, _, _, C.m_Habit_parts, c_Habit_parts.mono (by omega), (fun fd cl h => h.kbA (fun _ _ _ _ _ _ us ws h1 h2 => match us, ws, h1, h2 with | [_], [], _, _ => rfl)), .nil⟩ (alt_cons ⟨C.c_Free, _, _, _, _, C.m_Free_parts, c_Free_parts.mono (by omega), (fun fd cl h => h.kbA (fun _ _ _ _ _ _ us ws h1 h2 => match us, ws, h1, h2 with | [_], [], _, _ => rfl)), .nil⟩ (alt_cons ⟨C.c_Spaced, _, _, _, _, C.m_Spaced_parts, c_Spaced_parts.mono (by omega), (fun fd cl h => h.kbA (fun _ _ _ _ _ _ us ws h1 h2 => match us, ws, h1, h2 with | [_], [], _, _ => rfl)), .nil⟩ (alt_cons ⟨C.c_Answering, _, _, _, _, C.m_Answering_parts, c_Answering_parts.mono (by omega), (fun fd cl h => h.kbA (fun _ _ _ _ _ _ us ws h1 h2 => match us, ws, h1, h2 with | [_], [], _, _ => rfl)), .nil⟩ alt_nil)))) (hr.mono (by omega)) (ve_mkx (n := 1) (ks := ["most", "late", "least"]) (ix := [0, 3, 1, 2]) (dd := []) C.k_Answering (c_Answering___init__.ini _) (hr.mono (by omega)) C.g_Answering (fun fd cl h => h.kbA (fun _ _ _ _ _ _ us ws h1 h2 => match us, ws, h1, h2 with | [_, _], [_, _, _], _, _ => rfl)) .nil (by rfl) (va_cons (ve_name 8) va_nil) (vk_cons (ve_name 10) (vk_cons (ve_name 11) (vk_cons (ve_name 9) vk_nil)))) vk_nil)⟩ lamd_nil) (va_cons (ve_fz (ve_lam (n := n) (st := lam_law_1) ⟨rfl, rfl, lamK_by (N := ["_law_script", "_law_bag_here", "_law_turn", "_law_parts", "_law_k", "_law_fault", "_law_told", "_law_made", "_law_name", "_law_low", "_law_high", "_law_lag", "_law_bad"]) (sc := d_law.scope) (scope := lam_law_1.scope) (by decide +kernel), lb_lam_law_1⟩ rfl rfl rfl (by subst hsz; rfl) (hL.tb hTB) hcd hL.mem hL.uni (.inl ⟨rfl, rfl⟩))) va_nil) vk_nil)) (vss_one (vs_if (vc_not (vc_tru (ve_cv c__law_same (hr.mono (by omega)) rfl rfl rfl (fun _ _ _ _ _ _ us hl => match us, hl with | [_, _], _ => rfl) (by rfl) (va_cons (ve_name 6) (va_cons (ve_fz (ve_if (vc_cmp ow_is (ve_name 12) ve_non) (ve_tup (va_cons ve_str (va_cons (ve_tup (va_cons ve_str (va_cons (ve_name 9) (va_cons (ve_name 10) (va_cons (ve_name 11) va_nil))))) va_nil))) (ve_tup (va_cons ve_str (va_cons (ve_name 12) va_nil))))) va_nil))))) (vss_one (vs_ret ve_bl)) vss_nil)))))))))))) (vss_one (vs_ret (ve_cx0 (ks := []) (ix := []) (dd := []) c__law_defaults_so.x (hr.mono (by omega)) c__law_defaults_so.mg (fun fd cl h => h.kbA (fun _ _ _ _ _ _ us ws h1 h2 => match us, ws, h1, h2 with | [], [], _, _ => rfl)) .nil (by rfl) vk_nil)))))) (fun n => ?_)
  have hcI : ∀ Q (z : Str), Q (.str "InvalidHabit") (.str z) → caught K Q (He.ga K "InvalidHabit") (habitF z) := fun Q z q => by unfold caught; first | exact .inl ⟨rfl, rfl, q⟩ | exact .inr (⟨rfl, _, rfl, q⟩)
  refine gSeq_go fun R hR => ?_
  simp
  refine forW_rng (fun _ S => ∃ b2 b3 b4 b5 b6 b7 b8 b9 b10 b11 b12, S = [none, some .bag, b2, b3, b4, b5, b6, b7, b8, b9, b10, b11, b12]) ⟨_, _, _, _, _, _, _, _, _, _, _, rfl⟩ ?_ ?_
  · rintro S ⟨b2, b3, b4, b5, b6, b7, b8, b9, b10, b11, b12, rfl⟩
    show R _
    rw [hR]
    simp
    exact ⟨rfl, trivial, rfl⟩
  · rintro k hk S ⟨b2, b3, b4, b5, b6, b7, b8, b9, b10, b11, b12, rfl⟩ N hN
    clear hR
    show gSeq _ _ _ _
    refine gSeq_go fun R2 hR => ?_
    simp
    refine ⟨49, rfl, by decide, by decide, fun b0 w0 p0 l0 hb0 hw0 hp0 hl0 => ⟨trivial, ?_⟩⟩
    rw [hR]
    clear hR R2
    refine gSeq_go fun R2 hR => ?_
    simp
    refine ⟨by decide, fun r r0 r1 => ⟨by omega, ?_⟩⟩
    refine forW_rng (fun _ S => ∃ b w_ p l b4, S = [none, some .bag, some (.tr (.int k)), some (.own (.lst [b, w_, p, l])), b4, b5, b6, b7, b8, b9, b10, b11, b12] ∧ smp b = true ∧ smp w_ = true ∧ smp p = true ∧ smp l = true) ⟨_, _, _, _, _, rfl, hb0, hw0, hp0, hl0⟩ ?_ ?_
    · rintro S ⟨b, w_, p, l, b4, rfl, hb, hw, hp, hl⟩
      show R2 _
      rw [hR]
      clear hR R2
      refine gSeq_go fun R2 hR => ?_
      simp
      refine ⟨_, b, w_, p, l, rfl, (isA_brw _ _).mpr rfl, hb, hw, hp, hl, ?_⟩
      refine ⟨trivial, ?_⟩
      clear hb0 hw0 hp0 hl0 b0 w0 p0 l0
      rw [hR]
      clear hR R2
      refine gSeq_go fun R2 hR => ?_
      have tell : ∀ t : D, t = (match spF b w_ p l with | none => D.tup [.str Str.empty, .tup [b, w_, p, l]] | some z => .tup [.str "InvalidHabit", .str z]) → R2 [none, some .bag, some (.tr (.int k)), some (.own (.lst [b, w_, p, l])), b4, some (.tr (faultD (spF b w_ p l))), some (.tr t), b7, b8, b9, b10, b11, b12] := by
        intro t ht
        rw [hR]
        clear hR R2
        refine gSeq_go fun R2 hR => ?_
        have after : R2 [none, some .bag, some (.tr (.int k)), some (.own (.lst [b, w_, p, l])), b4, some (.tr (faultD (spF b w_ p l))), some (.tr t), b7, b8, b9, b10, b11, b12] := by
          rw [hR]
          clear hR R2
          refine gSeq_go fun R2 hR => ?_
          have after2 : ∀ b7, R2 [none, some .bag, some (.tr (.int k)), some (.own (.lst [b, w_, p, l])), b4, some (.tr (faultD (spF b w_ p l))), some (.tr t), b7, b8, b9, b10, b11, b12] := by
            intro b7
            generalize faultD (spF b w_ p l) = ff
            rw [hR]
            clear hR R2
            refine gSeq_go fun R2 hR => ?_
            simp [-List.mem_cons]
            intro nm hn a ha m hm l2 hl2
            have sn : smp nm = true := by
              simp only [List.mem_cons, List.not_mem_nil, or_false] at hn
              rcases hn with rfl | rfl | rfl | rfl | rfl | rfl <;> rfl
            have sa : smp a = true := by
              simp only [List.mem_cons, List.not_mem_nil, or_false] at ha
              rcases ha with rfl | rfl | rfl | rfl | rfl | rfl <;> rfl
            have sm : smp m = true := by
              simp only [List.mem_cons, List.not_mem_nil, or_false] at hm
              rcases hm with rfl | rfl | rfl | rfl | rfl <;> rfl
            have sl : smp l2 = true := by
              simp only [List.mem_cons, List.not_mem_nil, or_false] at hl2
              rcases hl2 with rfl | rfl | rfl | rfl | rfl <;> rfl
            have ok : ∀ sv ∈ [SV.tr nm, .tr a, .tr m, .tr l2], sv.ok := by
              intro sv hsv
              simp only [List.mem_cons, List.not_mem_nil, or_false] at hsv
              rcases hsv with rfl | rfl | rfl | rfl
              · trivial
              · trivial
              · trivial
              · trivial
            refine ⟨ok, ?_⟩
            rw [hR]
            clear hR R2
            refine gSeq_go fun R2 hR => ?_
            have key : R2 [none, some .bag, some (.tr (.int k)), some (.own (.lst [b, w_, p, l])), b4, some (.tr ff), some (.tr t), b7, some (.tr nm), some (.tr a), some (.tr m), some (.tr l2), some (.tr (faultD (anF nm a m l2)))] := by
              rw [hR]
              clear hR R2
              refine gSeq_go fun R2 hR => ?_
              have tell : ∀ t2 : D, t2 = (match anF nm a m l2 with | none => D.tup [.str Str.empty, .tup [nm, a, m, l2]] | some z => .tup [.str "InvalidHabit", .str z]) → R2 [none, some .bag, some (.tr (.int k)), some (.own (.lst [b, w_, p, l])), b4, some (.tr ff), some (.tr t2), b7, some (.tr nm), some (.tr a), some (.tr m), some (.tr l2), some (.tr (faultD (anF nm a m l2)))] := by
                intro t2 ht2
                rw [hR]
                clear hR R2
                cases e : anF nm a m l2 with
                | some z =>
                  rw [e] at ht2
                  subst ht2
                  simp [faultD]
                  exact .inr ⟨sameD_refl _ rfl, hN _ ⟨_, _, _, _, _, _, _, _, _, _, _, rfl⟩⟩
                | none =>
                  have en : nm = .str "ann" := by
                    have h0 : isNameD nm = true := by
                      cases h : isNameD nm with
                      | true => rfl
                      | false =>
                        unfold anF at e
                        rw [h, if_pos rfl] at e
                        cases e
                    simp only [List.mem_cons, List.not_mem_nil, or_false] at hn
                    rcases hn with rfl | rfl | rfl | rfl | rfl | rfl
                    · rfl
                    all_goals exact absurd h0 (by decide +kernel)
                  subst en
                  rw [e] at ht2
                  subst ht2
                  simp [faultD, smp_dat sa, smp_dat sm, smp_dat sl, smp_wid sa, smp_wid sm, smp_wid sl, smp_dep sa, smp_dep sm, smp_dep sl]
                  exact .inr ⟨sameD_refl _ (by simp [smp_dat sa, smp_dat sm, smp_dat sl]), hN _ ⟨_, _, _, _, _, _, _, _, _, _, _, rfl⟩⟩
              clear hR
              simp
              intro f0
              refine ⟨f0, _, rfl, ?_⟩
              refine lookT_of (.inl ⟨rfl, ?_⟩)
              simp [argS]
              exact ⟨rfl, rfl, nm, a, m, l2, rfl, sn, sa, sm, sl, fun e => ⟨_, _, ⟨rfl, rfl⟩, _, .inr (.inr (.inr ⟨rfl, rfl⟩)), noA rfl, nm, a, m, l2, rfl, sn, sa, sm, sl, ⟨trivial, _, rfl, tell _ (by rw [e])⟩⟩, fun x e => hcI _ _ (tell _ (by rw [e]))⟩
            clear hR
            exact bad_slot hn ha hm hl2 key
          clear hR
          cases e : spF b w_ p l with
          | some z =>
            rw [e] at after2
            simp [faultD]
            exact after2 _
          | none =>
            rw [e] at after2
            simp [faultD]
            refine gSeq_go fun R3 hR3 => ?_
            simp
            refine ⟨rfl, rfl, b, w_, p, l, rfl, hb, hw, hp, hl, fun _ => ?_, fun x h => (by rw [e] at h; cases h)⟩
            show R3 [none, some .bag, some (.tr (.int k)), some (.own (.lst [b, w_, p, l])), b4, some (.tr .non), some (.tr t), some (.tr (spacedD K b w_ p l)), b8, b9, b10, b11, b12]
            rw [hR3]
            simp
            refine ⟨_, _, ⟨rfl, rfl⟩, rfl, .tr b, rfl, _, _, ⟨rfl, rfl⟩, rfl, .tr w_, rfl, _, _, ⟨rfl, rfl⟩, rfl, .tr p, rfl, _, _, ⟨rfl, rfl⟩, .inr (.inr (.inl rfl)), .tr l, rfl, ?_⟩
            refine ⟨_, _, ⟨rfl, rfl⟩, _, .inr (.inr (.inl ⟨rfl, rfl⟩)), noA rfl, _, rfl, ?_⟩
            simp [smp_dat hb, smp_dat hw, smp_dat hp, smp_dat hl, smp_wid hb, smp_wid hw, smp_wid hp, smp_wid hl, smp_dep hb, smp_dep hw, smp_dep hp, smp_dep hl]
            exact .inr ⟨sameD_refl _ (by simp [smp_dat hb, smp_dat hw, smp_dat hp, smp_dat hl]), after2 _⟩
        clear hR
        cases e : spF b w_ p l with
        | some z =>
          rw [e] at ht after
          subst ht
          simp [faultD]
          exact .inr ⟨sameD_refl _ rfl, after⟩
        | none =>
          rw [e] at ht after
          subst ht
          simp [faultD, smp_dat hb, smp_dat hw, smp_dat hp, smp_dat hl, smp_wid hb, smp_wid hw, smp_wid hp, smp_wid hl, smp_dep hb, smp_dep hw, smp_dep hp, smp_dep hl]
          exact .inr ⟨sameD_refl _ (by simp [smp_dat hb, smp_dat hw, smp_dat hp, smp_dat hl]), after⟩
      clear hR
      simp
      intro f0
      refine ⟨f0, _, rfl, ?_⟩
      refine lookT_of (.inl ⟨rfl, ?_⟩)
      simp [argS]
      exact ⟨rfl, rfl, b, w_, p, l, rfl, hb, hw, hp, hl, fun e => ⟨_, _, ⟨rfl, rfl⟩, _, .inr (.inr (.inl ⟨rfl, rfl⟩)), noA rfl, b, w_, p, l, rfl, hb, hw, hp, hl, ⟨trivial, _, rfl, tell _ (by rw [e])⟩⟩, fun x e => hcI _ _ (tell _ (by rw [e]))⟩
    · rintro i hi S ⟨b, w_, p, l, b4, rfl, hb, hw, hp, hl⟩ N2 hN2
      clear hR
      simp [-List.mem_cons]
      refine fun d hd => ⟨by decide, fun r r0 r1 => ?_⟩
      have hs : smp d = true := by
        simp only [List.mem_cons, List.not_mem_nil, or_false] at hd
        rcases hd with rfl | rfl | rfl | rfl | rfl | rfl | rfl | rfl | rfl | rfl | rfl <;> rfl
      have hr : r = 0 ∨ r = 1 ∨ r = 2 ∨ r = 3 := by omega
      rcases hr with rfl | rfl | rfl | rfl
      · exact ⟨0, rfl, hN2 _ ⟨_, _, _, _, _, rfl, hs, hw, hp, hl⟩⟩
      · exact ⟨1, rfl, hN2 _ ⟨_, _, _, _, _, rfl, hb, hs, hp, hl⟩⟩
      · exact ⟨2, rfl, hN2 _ ⟨_, _, _, _, _, rfl, hb, hw, hs, hl⟩⟩
      · exact ⟨3, rfl, hN2 _ ⟨_, _, _, _, _, rfl, hb, hw, hp, hs⟩⟩
end
end K2

set_option maxHeartbeats 0
namespace K2
open PySem PySem.Spec PyProof.Rows L2 VT HP
def lk : VT.LksZ where
  l := { l := { fa := [.free "IndexError", .free "LookupError", .free "ValueError", .free "abs", .free "all", .free "bool", .free "int", .free "isinstance", .free "len", .free "list", .free "range", .free "str", .free "super", .free "tuple", .free "zip", .int "MOST_SIGNS" 6, .str "LETTERS" "abcdefghijklmnopqrstuvwxyz", .int "MOST_NUMBER" 99, .int "MOST_BURST" 4, .glo "Habit", .cls "Habit", .mkr "Habit", .noat "Habit" "late", .meth "Habit" "parts", .meth "Habit" "source", .glo "Free", .cls "Free", .mkr "Free", .noat "Free" "late", .meth "Free" "parts", .meth "Free" "source", .glo "Spaced", .cls "Spaced", .mkr "Spaced", .noat "Spaced" "late", .noat "Spaced" "burst", .noat "Spaced" "window", .noat "Spaced" "pause", .meth "Spaced" "parts", .meth "Spaced" "source", .glo "Answering", .cls "Answering", .mkr "Answering", .noat "Answering" "late", .noat "Answering" "name", .noat "Answering" "least", .noat "Answering" "most", .meth "Answering" "parts", .meth "Answering" "source", .glo "HeardError", .glo "Missing", .glo "NothingLeft", .glo "InvalidHabit", .glo "_law_bag", .glo "_law_field", .glo "_law_got", .glo "_law_all", .glo "_law_same", .glo "is_name", .glo "is_number", .glo "is_within", .glo "need_within", .glo "_law_defaults_so", .glo "_law_draw", .glo "_law_habit_fault", .glo "_law_pick", .glo "_law_spaced", .glo "law"], fn := [d__law_bag, d__law_field, d__law_got, d__law_all, d__law_same, d_is_name, d_is_number, d_is_within, d_need_within, d__law_defaults_so, d__law_draw, d__law_habit_fault, d__law_pick, d__law_spaced, d_law, d_Habit___init__, d_Habit_parts, d_Answering_source, d_Free_parts, d_Habit_source], pr := [], bs := [inhB "Free" "Habit" "source", inhB "Spaced" "Habit" "source", clsiB "Habit" "MOST" 99, clssB "Habit" "KIND" "habit", clssB "Free" "KIND" "free", clssB "Spaced" "KIND" "spaced", clssB "Answering" "KIND" "answers", supmB "Answering" "Answering" "__init__" "Habit", supmB "Answering" "Answering" "parts" "Habit", supmB "Free" "Free" "__init__" "Habit", supmB "Spaced" "Spaced" "__init__" "Habit", supmB "Spaced" "Spaced" "parts" "Habit", iskB "Habit", iskB "Free", iskB "Spaced", iskB "Answering", nokB "Answering", inkB "Habit" "Answering" false, inkB "Free" "Answering" false, inkB "Spaced" "Answering" false, inkB "Answering" "Answering" true, nokB "Free", inkB "Habit" "Free" false, inkB "Free" "Free" true, inkB "Spaced" "Free" false, inkB "Answering" "Free" false, nokB "Habit", inkB "Habit" "Habit" true, inkB "Free" "Habit" true, inkB "Spaced" "Habit" true, inkB "Answering" "Habit" true, exB "NothingLeft", exB "InvalidHabit", lamB "_law_defaults_so", lamB "law"] }, P := (PySem.Challenge.rw_heardwire_k02_habits_made_and_refused).prog, xs := [xe_NothingLeft, xe_InvalidHabit] }
  ss := [d_Answering___init__, d_Free___init__, d_Spaced___init__, d_Answering_parts, d_Spaced_parts]
abbrev R : PySem.W.OpenRow := PySem.W.OpenLaw.row PySem.Challenge.rw_heardwire_k02_habits_made_and_refused
abbrev hk : PySem.W.Hook := VT.hookZ 5 lk.seen lk.due
def ob (s : PySem.W.SharedT) : (((Bool × List He.FnW) × Bool × List He.FnW) × Bool × List He.FnW) × Bool := VT.obsZ 5 lk.seen (HandSHeadRun.getT s)
theorem ob_eq (s : PySem.W.SharedT) : ob s = hk.obs s.abs := VT.hookZ_eq (HandSHeadRun.getT_eq s)
def loose : List PySem.Str := (["_wall", "HeardError", "Missing", "NothingLeft", "InvalidHabit", "MOST_SIGNS", "LETTERS", "is_name", "is_number", "is_within", "MOST_NUMBER", "MOST_BURST", "need_within", "Habit", "Free", "Spaced", "Answering", "_law_same", "_law_field", "_law_got", "_law_all", "_law_bag", "_law_draw", "_law_pick", "_law_spaced", "_law_habit_fault", "_law_defaults_so"] : List PySem.Str)
theorem run (w : World) : HandSHeadRun.RunEq R (PySem.W.view R.prog [31]) hk ob 9000 loose w := by
  intro os
  kernel_rfl
structure Defs (K : PySem.W.Frag) (mg : Str → Option Value) : Prop where
  _law_bag : DefAt K mg d__law_bag
  _law_field : DefAt K mg d__law_field
  _law_got : DefAt K mg d__law_got
  _law_all : DefAt K mg d__law_all
  _law_same : DefAt K mg d__law_same
  is_name : DefAt K mg d_is_name
  is_number : DefAt K mg d_is_number
  is_within : DefAt K mg d_is_within
  need_within : DefAt K mg d_need_within
  _law_defaults_so : DefAt K mg d__law_defaults_so
  _law_draw : DefAt K mg d__law_draw
  _law_habit_fault : DefAt K mg d__law_habit_fault
  _law_pick : DefAt K mg d__law_pick
  _law_spaced : DefAt K mg d__law_spaced
  law : DefAt K mg d_law
  Answering___init__ : SupOk (PySem.Challenge.rw_heardwire_k02_habits_made_and_refused).prog K d_Answering___init__
  Free___init__ : SupOk (PySem.Challenge.rw_heardwire_k02_habits_made_and_refused).prog K d_Free___init__
  Spaced___init__ : SupOk (PySem.Challenge.rw_heardwire_k02_habits_made_and_refused).prog K d_Spaced___init__
  Answering_parts : SupOk (PySem.Challenge.rw_heardwire_k02_habits_made_and_refused).prog K d_Answering_parts
  Spaced_parts : SupOk (PySem.Challenge.rw_heardwire_k02_habits_made_and_refused).prog K d_Spaced_parts
  Habit___init__ : ∃ fd, FunD K d_Habit___init__.name d_Habit___init__.qual d_Habit___init__.params d_Habit___init__.body d_Habit___init__.scope (d_Habit___init__.dvs K) (d_Habit___init__.kws K) (He.fAd K d_Habit___init__.at_) fd
  Habit_parts : ∃ fd, FunD K d_Habit_parts.name d_Habit_parts.qual d_Habit_parts.params d_Habit_parts.body d_Habit_parts.scope (d_Habit_parts.dvs K) (d_Habit_parts.kws K) (He.fAd K d_Habit_parts.at_) fd
  Answering_source : ∃ fd, FunD K d_Answering_source.name d_Answering_source.qual d_Answering_source.params d_Answering_source.body d_Answering_source.scope (d_Answering_source.dvs K) (d_Answering_source.kws K) (He.fAd K d_Answering_source.at_) fd
  Free_parts : ∃ fd, FunD K d_Free_parts.name d_Free_parts.qual d_Free_parts.params d_Free_parts.body d_Free_parts.scope (d_Free_parts.dvs K) (d_Free_parts.kws K) (He.fAd K d_Free_parts.at_) fd
  Habit_source : ∃ fd, FunD K d_Habit_source.name d_Habit_source.qual d_Habit_source.params d_Habit_source.body d_Habit_source.scope (d_Habit_source.dvs K) (d_Habit_source.kws K) (He.fAd K d_Habit_source.at_) fd
theorem defs_of {K : PySem.W.Frag} {h : Heap} {mg : Str → Option Value} (X : K.In h) (G : h.Ns mainGlobals mg) (c : lk.Ok K) : Facts mg ∧ CF K mg ∧ Defs K mg :=
  ⟨⟨He.free_ok X G (c.lx.ll.fact 0 (f := .free "IndexError") rfl),
    He.free_ok X G (c.lx.ll.fact 1 (f := .free "LookupError") rfl),
    He.free_ok X G (c.lx.ll.fact 2 (f := .free "ValueError") rfl),
    He.free_ok X G (c.lx.ll.fact 3 (f := .free "abs") rfl),
    He.free_ok X G (c.lx.ll.fact 4 (f := .free "all") rfl),
    He.free_ok X G (c.lx.ll.fact 5 (f := .free "bool") rfl),
    He.free_ok X G (c.lx.ll.fact 6 (f := .free "int") rfl),
    He.free_ok X G (c.lx.ll.fact 7 (f := .free "isinstance") rfl),
    He.free_ok X G (c.lx.ll.fact 8 (f := .free "len") rfl),
    He.free_ok X G (c.lx.ll.fact 9 (f := .free "list") rfl),
    He.free_ok X G (c.lx.ll.fact 10 (f := .free "range") rfl),
    He.free_ok X G (c.lx.ll.fact 11 (f := .free "str") rfl),
    He.free_ok X G (c.lx.ll.fact 12 (f := .free "super") rfl),
    He.free_ok X G (c.lx.ll.fact 13 (f := .free "tuple") rfl),
    He.free_ok X G (c.lx.ll.fact 14 (f := .free "zip") rfl),
    He.int_ok X G (c.lx.ll.fact 15 (f := .int "MOST_SIGNS" 6) rfl),
    He.str_ok X G (c.lx.ll.fact 16 (f := .str "LETTERS" "abcdefghijklmnopqrstuvwxyz") rfl),
    He.int_ok X G (c.lx.ll.fact 17 (f := .int "MOST_NUMBER" 99) rfl),
    He.int_ok X G (c.lx.ll.fact 18 (f := .int "MOST_BURST" 4) rfl)⟩,
   ⟨He.glo_ok X G (c.lx.ll.fact 19 (f := .glo "Habit") rfl),
    He.cls_ok (c.lx.ll.fact 20 (f := .cls "Habit") rfl),
    He.mkr_ok (c.lx.ll.fact 21 (f := .mkr "Habit") rfl),
    He.noat_ok (c.lx.ll.fact 22 (f := .noat "Habit" "late") rfl),
    He.meth_ok (c.lx.ll.fact 23 (f := .meth "Habit" "parts") rfl),
    He.meth_ok (c.lx.ll.fact 24 (f := .meth "Habit" "source") rfl),
    He.glo_ok X G (c.lx.ll.fact 25 (f := .glo "Free") rfl),
    He.cls_ok (c.lx.ll.fact 26 (f := .cls "Free") rfl),
    He.mkr_ok (c.lx.ll.fact 27 (f := .mkr "Free") rfl),
    He.noat_ok (c.lx.ll.fact 28 (f := .noat "Free" "late") rfl),
    He.meth_ok (c.lx.ll.fact 29 (f := .meth "Free" "parts") rfl),
    meth_inh (He.meth_ok (c.lx.ll.fact 30 (f := .meth "Free" "source") rfl)) (c.lx.ll.bool 0 (b := inhB "Free" "Habit" "source") rfl),
    He.glo_ok X G (c.lx.ll.fact 31 (f := .glo "Spaced") rfl),
    He.cls_ok (c.lx.ll.fact 32 (f := .cls "Spaced") rfl),
    He.mkr_ok (c.lx.ll.fact 33 (f := .mkr "Spaced") rfl),
    He.noat_ok (c.lx.ll.fact 34 (f := .noat "Spaced" "late") rfl),
    He.noat_ok (c.lx.ll.fact 35 (f := .noat "Spaced" "burst") rfl),
    He.noat_ok (c.lx.ll.fact 36 (f := .noat "Spaced" "window") rfl),
    He.noat_ok (c.lx.ll.fact 37 (f := .noat "Spaced" "pause") rfl),
    He.meth_ok (c.lx.ll.fact 38 (f := .meth "Spaced" "parts") rfl),
    meth_inh (He.meth_ok (c.lx.ll.fact 39 (f := .meth "Spaced" "source") rfl)) (c.lx.ll.bool 1 (b := inhB "Spaced" "Habit" "source") rfl),
    He.glo_ok X G (c.lx.ll.fact 40 (f := .glo "Answering") rfl),
    He.cls_ok (c.lx.ll.fact 41 (f := .cls "Answering") rfl),
    He.mkr_ok (c.lx.ll.fact 42 (f := .mkr "Answering") rfl),
    He.noat_ok (c.lx.ll.fact 43 (f := .noat "Answering" "late") rfl),
    He.noat_ok (c.lx.ll.fact 44 (f := .noat "Answering" "name") rfl),
    He.noat_ok (c.lx.ll.fact 45 (f := .noat "Answering" "least") rfl),
    He.noat_ok (c.lx.ll.fact 46 (f := .noat "Answering" "most") rfl),
    He.meth_ok (c.lx.ll.fact 47 (f := .meth "Answering" "parts") rfl),
    He.meth_ok (c.lx.ll.fact 48 (f := .meth "Answering" "source") rfl),
    clsiB_ok (c.lx.ll.bool 2 (b := clsiB "Habit" "MOST" 99) rfl),
    clssB_ok (c.lx.ll.bool 3 (b := clssB "Habit" "KIND" "habit") rfl),
    clssB_ok (c.lx.ll.bool 4 (b := clssB "Free" "KIND" "free") rfl),
    clssB_ok (c.lx.ll.bool 5 (b := clssB "Spaced" "KIND" "spaced") rfl),
    clssB_ok (c.lx.ll.bool 6 (b := clssB "Answering" "KIND" "answers") rfl),
    supmB_ok (c.lx.ll.bool 7 (b := supmB "Answering" "Answering" "__init__" "Habit") rfl),
    supmB_ok (c.lx.ll.bool 8 (b := supmB "Answering" "Answering" "parts" "Habit") rfl),
    supmB_ok (c.lx.ll.bool 9 (b := supmB "Free" "Free" "__init__" "Habit") rfl),
    supmB_ok (c.lx.ll.bool 10 (b := supmB "Spaced" "Spaced" "__init__" "Habit") rfl),
    supmB_ok (c.lx.ll.bool 11 (b := supmB "Spaced" "Spaced" "parts" "Habit") rfl),
    iskB_ok (c.lx.ll.bool 12 (b := iskB "Habit") rfl),
    iskB_ok (c.lx.ll.bool 13 (b := iskB "Free") rfl),
    iskB_ok (c.lx.ll.bool 14 (b := iskB "Spaced") rfl),
    iskB_ok (c.lx.ll.bool 15 (b := iskB "Answering") rfl),
    nokB_ok (c.lx.ll.bool 16 (b := nokB "Answering") rfl),
    inkB_ok (c.lx.ll.bool 17 (b := inkB "Habit" "Answering" false) rfl),
    inkB_ok (c.lx.ll.bool 18 (b := inkB "Free" "Answering" false) rfl),
    inkB_ok (c.lx.ll.bool 19 (b := inkB "Spaced" "Answering" false) rfl),
    inkB_ok (c.lx.ll.bool 20 (b := inkB "Answering" "Answering" true) rfl),
    nokB_ok (c.lx.ll.bool 21 (b := nokB "Free") rfl),
    inkB_ok (c.lx.ll.bool 22 (b := inkB "Habit" "Free" false) rfl),
    inkB_ok (c.lx.ll.bool 23 (b := inkB "Free" "Free" true) rfl),
    inkB_ok (c.lx.ll.bool 24 (b := inkB "Spaced" "Free" false) rfl),
    inkB_ok (c.lx.ll.bool 25 (b := inkB "Answering" "Free" false) rfl),
    nokB_ok (c.lx.ll.bool 26 (b := nokB "Habit") rfl),
    inkB_ok (c.lx.ll.bool 27 (b := inkB "Habit" "Habit" true) rfl),
    inkB_ok (c.lx.ll.bool 28 (b := inkB "Free" "Habit" true) rfl),
    inkB_ok (c.lx.ll.bool 29 (b := inkB "Spaced" "Habit" true) rfl),
    inkB_ok (c.lx.ll.bool 30 (b := inkB "Answering" "Habit" true) rfl)⟩,
   ⟨⟨c.lx.ll.fun_ 0 (d := d__law_bag) rfl, He.glo_ok X G (c.lx.ll.fact 53 (f := .glo "_law_bag") rfl)⟩,
    ⟨c.lx.ll.fun_ 1 (d := d__law_field) rfl, He.glo_ok X G (c.lx.ll.fact 54 (f := .glo "_law_field") rfl)⟩,
    ⟨c.lx.ll.fun_ 2 (d := d__law_got) rfl, He.glo_ok X G (c.lx.ll.fact 55 (f := .glo "_law_got") rfl)⟩,
    ⟨c.lx.ll.fun_ 3 (d := d__law_all) rfl, He.glo_ok X G (c.lx.ll.fact 56 (f := .glo "_law_all") rfl)⟩,
    ⟨c.lx.ll.fun_ 4 (d := d__law_same) rfl, He.glo_ok X G (c.lx.ll.fact 57 (f := .glo "_law_same") rfl)⟩,
    ⟨c.lx.ll.fun_ 5 (d := d_is_name) rfl, He.glo_ok X G (c.lx.ll.fact 58 (f := .glo "is_name") rfl)⟩,
    ⟨c.lx.ll.fun_ 6 (d := d_is_number) rfl, He.glo_ok X G (c.lx.ll.fact 59 (f := .glo "is_number") rfl)⟩,
    ⟨c.lx.ll.fun_ 7 (d := d_is_within) rfl, He.glo_ok X G (c.lx.ll.fact 60 (f := .glo "is_within") rfl)⟩,
    ⟨c.lx.ll.fun_ 8 (d := d_need_within) rfl, He.glo_ok X G (c.lx.ll.fact 61 (f := .glo "need_within") rfl)⟩,
    ⟨c.lx.ll.fun_ 9 (d := d__law_defaults_so) rfl, He.glo_ok X G (c.lx.ll.fact 62 (f := .glo "_law_defaults_so") rfl)⟩,
    ⟨c.lx.ll.fun_ 10 (d := d__law_draw) rfl, He.glo_ok X G (c.lx.ll.fact 63 (f := .glo "_law_draw") rfl)⟩,
    ⟨c.lx.ll.fun_ 11 (d := d__law_habit_fault) rfl, He.glo_ok X G (c.lx.ll.fact 64 (f := .glo "_law_habit_fault") rfl)⟩,
    ⟨c.lx.ll.fun_ 12 (d := d__law_pick) rfl, He.glo_ok X G (c.lx.ll.fact 65 (f := .glo "_law_pick") rfl)⟩,
    ⟨c.lx.ll.fun_ 13 (d := d__law_spaced) rfl, He.glo_ok X G (c.lx.ll.fact 66 (f := .glo "_law_spaced") rfl)⟩,
    ⟨c.lx.ll.fun_ 14 (d := d_law) rfl, He.glo_ok X G (c.lx.ll.fact 67 (f := .glo "law") rfl)⟩,
    c.sup 0 (d := d_Answering___init__) rfl,
    c.sup 1 (d := d_Free___init__) rfl,
    c.sup 2 (d := d_Spaced___init__) rfl,
    c.sup 3 (d := d_Answering_parts) rfl,
    c.sup 4 (d := d_Spaced_parts) rfl,
    c.lx.ll.fun_ 15 (d := d_Habit___init__) rfl,
    c.lx.ll.fun_ 16 (d := d_Habit_parts) rfl,
    c.lx.ll.fun_ 17 (d := d_Answering_source) rfl,
    c.lx.ll.fun_ 18 (d := d_Free_parts) rfl,
    c.lx.ll.fun_ 19 (d := d_Habit_source) rfl⟩⟩
theorem xf_of {K : PySem.W.Frag} {h : Heap} {mg : Str → Option Value} {w : World} {base : Heap} (X : K.In h) (G : h.Ns mainGlobals mg) (c : lk.Ok K) (T : Facts mg) : XF (PySem.Challenge.rw_heardwire_k02_habits_made_and_refused).prog w K mg base :=
  ⟨He.glo_ok X G (c.lx.ll.fact 49 (f := .glo "HeardError") rfl),
    He.glo_ok X G (c.lx.ll.fact 50 (f := .glo "Missing") rfl),
    He.glo_ok X G (c.lx.ll.fact 51 (f := .glo "NothingLeft") rfl),
    He.glo_ok X G (c.lx.ll.fact 52 (f := .glo "InvalidHabit") rfl),
    (c.lx.x 0 (e := xe_NothingLeft) rfl).code,
    xmk0 (c.lx.x 0 (e := xe_NothingLeft) rfl) T.super (He.glo_ok X G (c.lx.ll.fact 51 (f := .glo "NothingLeft") rfl)) rfl rfl (by decide +kernel) ⟨rfl, rfl, rfl, by decide +kernel, rfl, by decide +kernel, by decide +kernel, by decide +kernel⟩ rfl (fun _ => ⟨_, rfl⟩) rfl rfl rfl rfl (fun _ _ _ _ _ _ _ us hl => match us, hl with | [_], _ => rfl),
    of_decide_eq_true (c.lx.ll.bool 31 (b := exB "NothingLeft") rfl),
    (c.lx.x 1 (e := xe_InvalidHabit) rfl).code,
    (c.lx.x 1 (e := xe_InvalidHabit) rfl).field rfl,
    xmk1 (c.lx.x 1 (e := xe_InvalidHabit) rfl) T.super (He.glo_ok X G (c.lx.ll.fact 52 (f := .glo "InvalidHabit") rfl)) rfl rfl rfl (by decide +kernel) ⟨rfl, rfl, rfl, by decide +kernel, rfl, by decide +kernel, by decide +kernel, by decide +kernel⟩ rfl (fun _ => ⟨_, rfl⟩) rfl rfl rfl rfl (by decide) (by decide) (fun _ _ _ _ _ _ _ us hl => match us, hl with | [_, _], _ => rfl),
    of_decide_eq_true (c.lx.ll.bool 32 (b := exB "InvalidHabit") rfl)⟩
theorem law_holds {w : World} {K : PySem.W.Frag} {mg : Str → Option Value} {base : Heap} (T : Facts mg) (C : CF K mg) (D : Defs K mg) (XX : XF (PySem.Challenge.rw_heardwire_k02_habits_made_and_refused).prog w K mg base) (hL0 : LamF K "_law_defaults_so") (hL : LamF K "law") (hTB : TabBs K mg base) :
    ∀ fd, FunD K d_law.name d_law.qual d_law.params d_law.body d_law.scope (d_law.dvs K) (d_law.kws K) (He.fAd K d_law.at_) fd → FnOk (PySem.Challenge.rw_heardwire_k02_habits_made_and_refused).prog w K mg base CX0 70 (He.fAd K d_law.at_) fd ["_law_script"] (spLaw K) := by
  have c_draw := ok_draw (P := (PySem.Challenge.rw_heardwire_k02_habits_made_and_refused).prog) (w := w) (base := base) D._law_draw T
  have c_num := ok_is_number (P := (PySem.Challenge.rw_heardwire_k02_habits_made_and_refused).prog) (w := w) (base := base) D.is_number T
  have c_name := ok_is_name (P := (PySem.Challenge.rw_heardwire_k02_habits_made_and_refused).prog) (w := w) (base := base) D.is_name T
  have c_within := ok_is_within D.is_within T c_num
  have c_need := ok_need_within D.need_within T XX c_within
  have c_habit := ok_habit D.Habit___init__ T C XX c_need
  have c_free := ok_free (D.Free___init__.d T.super sc_Free___init__ ⟨_, rfl, rfl⟩ rfl rfl rfl rfl) T C c_habit
  have c_spaced := ok_spaced (D.Spaced___init__.d T.super sc_Spaced___init__ ⟨_, rfl, rfl⟩ rfl rfl rfl rfl) T C XX c_need c_habit
  have c_answ := ok_answ (D.Answering___init__.d T.super sc_Answering___init__ ⟨_, rfl, rfl⟩ rfl rfl rfl rfl) T C XX c_name c_need c_habit
  have pH := ok_partsH (P := (PySem.Challenge.rw_heardwire_k02_habits_made_and_refused).prog) (w := w) (base := base) D.Habit_parts T C
  have pF := ok_partsF (P := (PySem.Challenge.rw_heardwire_k02_habits_made_and_refused).prog) (w := w) (base := base) D.Free_parts T C
  have pS := ok_partsS (D.Spaced_parts.d T.super sc_Spaced_parts ⟨_, rfl, rfl⟩ rfl rfl rfl rfl) T C pH
  have pA := ok_partsA (D.Answering_parts.d T.super sc_Answering_parts ⟨_, rfl, rfl⟩ rfl rfl rfl rfl) T C pH
  have sH := ok_sourceH (P := (PySem.Challenge.rw_heardwire_k02_habits_made_and_refused).prog) (w := w) (base := base) D.Habit_source T C
  have sA := ok_sourceA (P := (PySem.Challenge.rw_heardwire_k02_habits_made_and_refused).prog) (w := w) (base := base) D.Answering_source T C
  have c_pick := ok_pick D._law_pick T c_draw
  have c_got := ok_got D._law_got T XX (ok_field D._law_field T XX)
  have c_same := ok_same (P := (PySem.Challenge.rw_heardwire_k02_habits_made_and_refused).prog) (w := w) (K := K) (mg := mg) (base := base) D._law_same T 4
  have c_def := ok_defaults T C hL0 hTB D._law_defaults_so c_habit c_free c_spaced c_answ pH pF pS pA sH sA c_same (ok_all D._law_all T c_got)
  exact ok_law T C hL hTB D._law_bag c_draw c_pick c_habit c_free c_spaced c_answ pH pF pS pA sH sA (ok_lspaced D._law_spaced T c_draw c_pick) (ok_fault D._law_habit_fault T) c_def c_same c_got
theorem facts {w : World} {K : PySem.W.Frag} {h : Heap} {mg : Str → Option Value} {f : Addr} (X : K.In h) (G : h.Ns mainGlobals mg) (hfa : mg ("law" : Str) = some (.ref f)) (c : lk.Ok K) :
    ∃ fd : FuncData, (∀ (s : Shared) (v : Value), BindsTo s fd ⟨[v], []⟩ [("_law_script", v)]) ∧ ∀ base : Heap, K.In base → base.Ns mainGlobals mg → TabBs K mg base → FnOk (PySem.Challenge.rw_heardwire_k02_habits_made_and_refused).prog w K mg base CX0 70 f fd ["_law_script"] (spLaw K) := by
  obtain ⟨T, C, D⟩ := defs_of X G c
  obtain ⟨fd, F⟩ := D.law.fd
  have e := hfa.symm.trans D.law.mg
  cases e
  have b := FunD.bindsA (ps := ["_law_script"]) F fun _ _ _ _ _ _ us hl => match us, hl with | [_], _ => rfl
  exact ⟨fd, fun s v => b s [v] rfl, fun base _ _ hTB => law_holds (w := w) (base := base) T C D (xf_of X G c T) (lamB_ok (c.lx.ll.bool 33 (b := lamB "_law_defaults_so") rfl)) (lamB_ok (c.lx.ll.bool 34 (b := lamB "law") rfl)) hTB fd F⟩
end K2
open PySem PySem.W PySem.Calls PyProof.Rows
theorem PySem.Challenge.cw_heardwire_k02_habits_made_and_refused_holds : PySem.Challenge.rw_heardwire_k02_habits_made_and_refused.Holds := by
  w_on; o_law
  refine HandSHeadRun.head_any (r := OpenLaw.row PySem.Challenge.rw_heardwire_k02_habits_made_and_refused) (q := view (OpenLaw.row PySem.Challenge.rw_heardwire_k02_habits_made_and_refused).prog [31]) (H := K2.hk) (ob := K2.ob) (M := 9000) (loose := K2.loose) (d := HandSHeadRun.topDef (OpenLaw.row PySem.Challenge.rw_heardwire_k02_habits_made_and_refused).prog 31) (kwd := []) K2.ob_eq
    (by kernel_rfl) (fun s => by kernel_rfl) K2.run (by kernel_rfl) (by kernel_rfl) (by kernel_rfl) (by rfl) (by first | assumption | decide +kernel) (by decide +kernel) ⟨rfl, rfl, rfl, rfl, rfl, by decide +kernel⟩ ?hw ?hc
  case hw => w_witness2
  case hc =>
    refine LamX.walk_ofTsE (l := PySem.Challenge.rw_heardwire_k02_habits_made_and_refused) (n := 63) (k := 70) (x := "_law_script") (CX := fun _ => L2.CX0) rfl (by decide) (by kernel_rfl) ⟨rfl, by decide, by decide⟩ ?F (fun _ _ _ _ _ z => z)
    intro w mg fa h Y G hmg0
    obtain ⟨K, KX, c, t, u⟩ := Y
    have hmg : mg ("law" : PySem.Str) = some (.ref fa) := by
      have e : (HandSHeadRun.topDef (OpenLaw.row PySem.Challenge.rw_heardwire_k02_habits_made_and_refused).prog 31).name = ("law" : PySem.Str) := by kernel_rfl
      rw [← e]
      exact hmg0
    obtain ⟨fd, hb, hF⟩ := K2.facts (w := w) KX G hmg c
    exact VT.lawAtZ KX t u hb hF
