import PyProof.Rows.All
import Wide.All
import OpenK.AllK
import Wide.FinOn
import HandS.ForMost
import HandS.IsInst
import HandS.Wide
import HandS.Style
import HandS.TupAny
import HandS.Flow
import HandS.Exc
import HandS.ExcInit
import HandS.ExcValue
import HandS.Lambda
import HandS.Deep
import PyProof.StrBlock2
import HandS.Zip
import HandS.More
import HandS.Defaults
import HandS.HeadHook2
import HandS.Head0
import HandS.Head1
import HandS.Head2
import HandS.HeadEnd
import HandS.Codes
import HandS.Dict
import HandS.Property
import HandS.MakeKwOnly
import HandS.Small
import HandS.DictComp
import HandS.HeadHook1
import HandS.MakeKw
import HandS.WordsExc
import HandS.ClsMeth
import HandS.Conv
import HandS.Strs
import HandS.FStr
import PyProof.CollectStr
import PyProof.TupleOfSeq
import PySem.Challenge.RW_heardwire_k12_plans_played
set_option Elab.async false
set_option linter.all false
set_option maxRecDepth 100000
set_option maxHeartbeats 4000000
set_option autoImplicit false
/-! VT: values as trees over HandS. -/
namespace VT
open PySem PySem.Spec PyProof.Rows L2

/-- a text of the world -/
def okS (x : Str) : Prop := PyData.strOk x = true ∧ x.length ≤ sizeLine
instance (x : Str) : Decidable (okS x) := inferInstanceAs (Decidable (_ ∧ _))
/-- data without addresses -/
inductive D where
  | non | bl (b : Bool) | int (i : Int) | str (x : Str)
  | lst (xs : List D) | tup (xs : List D)
  | dic (kvs : List (Key × D)) | dit (kvs : List (List Key × D))
  | ins (C : Addr) (fs : List (Str × D))
  | exn (C : Addr) (fs : List (Str × D))
  | opq

/-- an exception at a, raised or not: its class, its dict -/
def exnO (a C dx : Addr) : HO := .ext fun h => ∃ (oe : Obj) (vs : Array Value), h.get? a = some oe ∧ oe.cls = .ref C ∧ oe.dict = some dx ∧ oe.data = .fields vs
mutual
def rep (F : Hp) : D → V → Prop
  | .non, v => v = .non
  | .bl b, v => v = .bl b
  | .int i, v => v = .int i
  | .str x, v => v = .str x ∧ okS x
  | .lst ds, v => ∃ a vs, v = .ref a ∧ F a = some (.lst vs) ∧ reps F ds vs
  | .tup ds, v => ∃ a vs, v = .ref a ∧ Rd F a (.tup vs) ∧ reps F ds vs
  | .dic kvs, v => ∃ a ws, v = .ref a ∧ F a = some (.dK ws) ∧ repk F kvs ws
  | .dit kvs, v => ∃ a ws, v = .ref a ∧ F a = some (.dT ws) ∧ rept F kvs ws
  | .ins C fs, v => ∃ a dx ws, v = .ref a ∧ F a = some (.ins C dx ws) ∧ F dx = some (.own a) ∧ repf F fs ws
  | .exn C fs, v => ∃ a dx ws o, v = .ref a ∧ F a = some (.frz o (exnO a C dx)) ∧ F dx = some (.xd ws) ∧ repf F fs ws
  | .opq, _ => False
def reps (F : Hp) : List D → List V → Prop
  | [], vs => vs = []
  | d :: ds, vs => ∃ v r, vs = v :: r ∧ rep F d v ∧ reps F ds r
def repk (F : Hp) : List (Key × D) → List (Key × V) → Prop
  | [], ws => ws = []
  | (k, d) :: r, ws => ∃ v t, ws = (k, v) :: t ∧ rep F d v ∧ repk F r t
def rept (F : Hp) : List (List Key × D) → List (List Key × V) → Prop
  | [], ws => ws = []
  | (k, d) :: r, ws => ∃ v t, ws = (k, v) :: t ∧ rep F d v ∧ rept F r t
def repf (F : Hp) : List (Str × D) → List (Str × V) → Prop
  | [], ws => ws = []
  | (k, d) :: r, ws => ∃ v t, ws = (k, v) :: t ∧ rep F d v ∧ repf F r t
end

section
variable {F F' : Hp}
mutual
theorem rep.mono (h : ∀ b o, F b = some o → F' b = some o) : ∀ (d : D) (v : V), rep F d v → rep F' d v
  | .non, _, r => r
  | .bl _, _, r => r
  | .int _, _, r => r
  | .str _, _, r => r
  | .lst ds, _, ⟨a, vs, e, q, r⟩ => ⟨a, vs, e, h _ _ q, reps.mono h ds vs r⟩
  | .tup ds, _, ⟨a, vs, e, q, r⟩ => ⟨a, vs, e, q.imp (h _ _) fun ⟨o, q⟩ => ⟨o, h _ _ q⟩, reps.mono h ds vs r⟩
  | .dic kvs, _, ⟨a, ws, e, q, r⟩ => ⟨a, ws, e, h _ _ q, repk.mono h kvs ws r⟩
  | .dit kvs, _, ⟨a, ws, e, q, r⟩ => ⟨a, ws, e, h _ _ q, rept.mono h kvs ws r⟩
  | .ins C fs, _, ⟨a, dx, ws, e, q, q2, r⟩ => ⟨a, dx, ws, e, h _ _ q, h _ _ q2, repf.mono h fs ws r⟩
  | .exn C fs, _, ⟨a, dx, ws, o, e, q, q2, r⟩ => ⟨a, dx, ws, o, e, h _ _ q, h _ _ q2, repf.mono h fs ws r⟩
  | .opq, _, r => r
theorem reps.mono (h : ∀ b o, F b = some o → F' b = some o) : ∀ (ds : List D) (vs : List V), reps F ds vs → reps F' ds vs
  | [], _, r => r
  | d :: ds, _, ⟨v, r, e, q, z⟩ => ⟨v, r, e, rep.mono h d v q, reps.mono h ds r z⟩
theorem repk.mono (h : ∀ b o, F b = some o → F' b = some o) : ∀ (ds : List (Key × D)) (vs : List (Key × V)), repk F ds vs → repk F' ds vs
  | [], _, r => r
  | (k, d) :: ds, _, ⟨v, r, e, q, z⟩ => ⟨v, r, e, rep.mono h d v q, repk.mono h ds r z⟩
theorem rept.mono (h : ∀ b o, F b = some o → F' b = some o) : ∀ (ds : List (List Key × D)) (vs : List (List Key × V)), rept F ds vs → rept F' ds vs
  | [], _, r => r
  | (k, d) :: ds, _, ⟨v, r, e, q, z⟩ => ⟨v, r, e, rep.mono h d v q, rept.mono h ds r z⟩
theorem repf.mono (h : ∀ b o, F b = some o → F' b = some o) : ∀ (ds : List (Str × D)) (vs : List (Str × V)), repf F ds vs → repf F' ds vs
  | [], _, r => r
  | (k, d) :: ds, _, ⟨v, r, e, q, z⟩ => ⟨v, r, e, rep.mono h d v q, repf.mono h ds r z⟩
end
theorem reps.length : ∀ {ds : List D} {vs : List V}, reps F ds vs → vs.length = ds.length
  | [], _, r => by rw [show _ = [] from r]; rfl
  | _ :: _, _, ⟨v, r, e, _, z⟩ => by rw [e, List.length_cons, List.length_cons, reps.length z]
theorem reps.append : ∀ {ds es : List D} {vs ws : List V}, reps F ds vs → reps F es ws → reps F (ds ++ es) (vs ++ ws)
  | [], _, _, _, r, s => by rw [show _ = [] from r]; exact s
  | _ :: _, _, _, _, ⟨v, r, e, q, z⟩, s => by rw [e]; exact ⟨v, _, rfl, q, reps.append z s⟩
theorem reps.get : ∀ {ds : List D} {vs : List V} {i : Nat} {d : D}, reps F ds vs → ds[i]? = some d → ∃ v, vs[i]? = some v ∧ rep F d v
  | [], _, _, _, _, e => by simp at e
  | _ :: _, _, 0, _, ⟨v, r, e, q, z⟩, h => by
    rw [e]
    have h : some _ = some _ := h
    cases h
    exact ⟨v, rfl, q⟩
  | _ :: _, _, i + 1, _, ⟨v, r, e, q, z⟩, h => by
    rw [e]
    exact reps.get (i := i) z h
theorem reps.get' : ∀ {ds : List D} {vs : List V} {i : Nat} {v : V}, reps F ds vs → vs[i]? = some v → ∃ d, ds[i]? = some d ∧ rep F d v
  | [], _, _, _, r, e => by rw [show _ = [] from r] at e; simp at e
  | d :: _, _, 0, _, ⟨v, r, e, q, z⟩, h => by
    rw [e] at h
    have h : some _ = some _ := h
    cases h
    exact ⟨d, rfl, q⟩
  | _ :: _, _, i + 1, _, ⟨v, r, e, q, z⟩, h => by
    rw [e] at h
    exact reps.get' (i := i) z h
theorem reps.take : ∀ {ds : List D} {vs : List V} (n : Nat), reps F ds vs → reps F (ds.take n) (vs.take n)
  | _, _, 0, _ => rfl
  | [], _, _ + 1, r => by rw [show _ = [] from r]; rfl
  | _ :: _, _, n + 1, ⟨v, r, e, q, z⟩ => by rw [e]; exact ⟨v, _, rfl, q, reps.take n z⟩
theorem reps.drop : ∀ {ds : List D} {vs : List V} (n : Nat), reps F ds vs → reps F (ds.drop n) (vs.drop n)
  | _, _, 0, r => r
  | [], _, _ + 1, r => by rw [show _ = [] from r]; rfl
  | _ :: _, _, n + 1, ⟨v, r, e, q, z⟩ => by rw [e]; exact reps.drop n z
theorem reps.set : ∀ {ds : List D} {vs : List V} (n : Nat) {d : D} {v : V}, reps F ds vs → rep F d v → reps F (ds.set n d) (vs.set n v)
  | [], _, _, _, _, r, _ => by rw [show _ = [] from r]; rfl
  | _ :: _, _, 0, _, _, ⟨v, r, e, q, z⟩, h => by rw [e]; exact ⟨_, _, rfl, h, z⟩
  | _ :: _, _, n + 1, _, _, ⟨v, r, e, q, z⟩, h => by rw [e]; exact ⟨v, _, rfl, q, reps.set n z h⟩
theorem reps.reverse : ∀ {ds : List D} {vs : List V}, reps F ds vs → reps F ds.reverse vs.reverse
  | [], _, r => by rw [show _ = [] from r]; rfl
  | _ :: _, _, ⟨v, r, e, q, z⟩ => by
    rw [e, List.reverse_cons, List.reverse_cons]
    exact reps.append (reps.reverse z) ⟨v, [], rfl, q, rfl⟩
theorem reps.map_int : ∀ {ns : List Int} {vs : List V}, reps F (ns.map D.int) vs → vs = ns.map V.int
  | [], _, r => r
  | _ :: ns, _, ⟨v, r, e, q, z⟩ => by
    rw [e, show v = _ from q, reps.map_int (ns := ns) z]
    rfl
theorem reps.of_int : ∀ {ns : List Int}, reps F (ns.map D.int) (ns.map V.int)
  | [] => rfl
  | _ :: ns => ⟨_, _, rfl, rfl, reps.of_int (ns := ns)⟩
theorem reps.map_str : ∀ {ns : List Str} {vs : List V}, reps F (ns.map D.str) vs → vs = ns.map V.str ∧ ∀ x ∈ ns, okS x
  | [], _, r => ⟨r, fun _ h => nomatch h⟩
  | n :: ns, _, ⟨v, r, e, q, z⟩ => by
    obtain ⟨h1, h2⟩ := reps.map_str (ns := ns) z
    refine ⟨by rw [e, show v = _ from q.1, h1]; rfl, fun x h => ?_⟩
    rcases List.mem_cons.mp h with rfl | h
    · exact q.2
    · exact h2 x h
theorem reps.map_bl : ∀ {ns : List Bool} {vs : List V}, reps F (ns.map D.bl) vs → vs = ns.map V.bl
  | [], _, r => r
  | _ :: ns, _, ⟨v, r, e, q, z⟩ => by
    rw [e, show v = _ from q, reps.map_bl (ns := ns) z]
    rfl
end

/-- a field of an object under way: a frozen tree, or an object of its own -/
inductive FV where
  | tr (d : D) | own (d : D)
/-- how a value is held: a frozen tree; an object of this frame's own, not yet shared; a parameter's object that is only read; an object just looked at; the bag; an object under way, looked at, a parameter -/
inductive SV where
  | tr (d : D) | own (d : D) | brw (d : D) | pk (d : D) | bag | obj (q C : Addr) (fs : List (Str × FV)) | pob (C : Addr) (fs : List (Str × FV)) | bob (C : Addr) (fs : List (Str × FV)) | exc (a C d : Addr) (fs : List (Str × D)) | tz (ds : List D)
def SV.d : SV → D
  | .tr d => d
  | .own d => d
  | .brw d => d
  | .pk d => d
  | .bag => .opq
  | .obj _ _ _ => .opq
  | .pob _ _ => .opq
  | .bob _ _ => .opq
  | .exc _ _ _ _ => .opq
  | .tz ds => .tup ds

/-- the ghosts: what is frozen, where the bag stands -/
structure Gh where
  F : Hp
  pb : Option Addr
  T : List (Addr × Str) := []
/-- the tables of code objects of a fragment's defs -/
def TabsOf (K : PySem.W.Frag) : List (Addr × Str) := []

/-- the bag: cells (frozen), place, rest, mixed -/
def BagAt (G : Gh) (H : Hp) (p : Addr) : Prop := ∃ (c : Addr) (ns : List Int) (i r m : Int), H p = some (.lst [.ref c, .int i, .int r, .int m]) ∧ G.F c = some (.lst (ns.map V.int)) ∧ ns.length ≤ 63 ∧ 0 ≤ i ∧ 0 ≤ r ∧ 0 ≤ m ∧ m < 2147483648

structure OkG (G : Gh) (H : Hp) : Prop where
  sub : ∀ b o, G.F b = some o → H b = some o
  bag : ∀ p, G.pb = some p → BagAt G H p ∧ G.F p = none
  tabs : LamX.Tabs G.T H

/-- the heap went on: nothing that stood was changed but the bag -/
structure Ext (G : Gh) (H : Hp) (G' : Gh) (H' : Hp) : Prop where
  ok : OkG G' H'
  same : ∀ b o, H b = some o → G.pb ≠ some b → (∀ ps, o ≠ .tbl ps) → H' b = some o
  tbl : ∀ b ps, H b = some (.tbl ps) → ∃ ps', H' b = some (.tbl ps')
  tt : G'.T = G.T
  pb : ∀ p, G.pb = some p → G'.pb = some p
  pnew : ∀ p, G'.pb = some p → G.pb = some p ∨ H p = none
  frz : ∀ b o, G.F b = some o → G'.F b = some o
  new : ∀ b o, G'.F b = some o → G.F b = some o ∨ H b = none

section
variable {G G' G1 G2 : Gh} {H H' H1 H2 : Hp}
theorem Ext.refl (ok : OkG G H) : Ext G H G H := ⟨ok, fun _ _ h _ _ => h, fun _ ps h => ⟨ps, h⟩, rfl, fun _ h => h, fun _ h => .inl h, fun _ _ h => h, fun _ _ h => .inl h⟩
/-- what stood stands -/
theorem Ext.dom (E : Ext G H G' H') {b : Addr} (h : H' b = none) : H b = none := by
  cases e : H b with
  | none => rfl
  | some o =>
    by_cases q : G.pb = some b
    · obtain ⟨⟨c, ns, i, r, m, z, _⟩, _⟩ := E.ok.bag b (E.pb b q)
      rw [z] at h
      cases h
    · by_cases ht : ∃ ps, o = .tbl ps
      · obtain ⟨ps, rfl⟩ := ht
        obtain ⟨ps', z⟩ := E.tbl b ps e
        rw [z] at h
        cases h
      · rw [E.same b o e q fun ps z => ht ⟨ps, z⟩] at h
        cases h
theorem Ext.trans (a : Ext G H G1 H1) (b : Ext G1 H1 G2 H2) : Ext G H G2 H2 where
  ok := b.ok
  same := fun c o h q n => b.same c o (a.same c o h q n) (fun z => by
    rcases a.pnew c z with z | z
    · exact q z
    · rw [h] at z; cases z) n
  tbl := fun c ps h => by
    obtain ⟨ps1, h1⟩ := a.tbl c ps h
    exact b.tbl c ps1 h1
  tt := b.tt.trans a.tt
  pb := fun p h => b.pb p (a.pb p h)
  pnew := fun p h => by
    rcases b.pnew p h with z | z
    · exact a.pnew p z
    · exact .inr (a.dom z)
  frz := fun c o h => b.frz c o (a.frz c o h)
  new := fun c o h => by
    rcases b.new c o h with z | z
    · exact a.new c o z
    · exact .inr (a.dom z)
end

/-- what stands at a, to be changed -/
def cont (F H : Hp) (a : Addr) : D → Prop
  | .lst ds => ∃ vs, H a = some (.lst vs) ∧ reps F ds vs
  | .dic kvs => ∃ ws, H a = some (.dK ws) ∧ repk F kvs ws
  | .dit kvs => ∃ ws, H a = some (.dT ws) ∧ rept F kvs ws
  | _ => False
/-- the fields of an object under way -/
inductive RepF (Hs : Hp) (G : Gh) (H : Hp) : List (Str × FV) → List (Str × V) → Prop
  | nil : RepF Hs G H [] []
  | tr {f : Str} {d : D} {v : V} {fs : List (Str × FV)} {ws : List (Str × V)} : rep G.F d v → RepF Hs G H fs ws → RepF Hs G H ((f, .tr d) :: fs) ((f, v) :: ws)
  | own {f : Str} {d : D} {b : Addr} {fs : List (Str × FV)} {ws : List (Str × V)} : Hs b = none → G.F b = none → G.pb ≠ some b → cont G.F H b d → RepF Hs G H fs ws → RepF Hs G H ((f, .own d) :: fs) ((f, .ref b) :: ws)
/-- .. that are only looked at -/
inductive RepP (N : Addr → Prop) (G : Gh) (H : Hp) : List (Str × FV) → List (Str × V) → Prop
  | nil : RepP N G H [] []
  | tr {f : Str} {d : D} {v : V} {fs : List (Str × FV)} {ws : List (Str × V)} : rep G.F d v → RepP N G H fs ws → RepP N G H ((f, .tr d) :: fs) ((f, v) :: ws)
  | own {f : Str} {d : D} {b : Addr} {fs : List (Str × FV)} {ws : List (Str × V)} : N b → G.pb ≠ some b → cont G.F H b d → RepP N G H fs ws → RepP N G H ((f, .own d) :: fs) ((f, .ref b) :: ws)
/-- where the fields' own objects stand -/
def adrs : List (Str × FV) → List (Str × V) → List Addr
  | (_, .own _) :: fs, (_, .ref b) :: ws => b :: adrs fs ws
  | (_, .tr _) :: fs, _ :: ws => adrs fs ws
  | _, _ => []
/-- something stands there, no table -/
def There (H : Hp) (b : Addr) : Prop := ∃ o, H b = some o ∧ ∀ ps, o ≠ .tbl ps
theorem There.ne {H : Hp} {b : Addr} (h : There H b) : H b ≠ none := by
  obtain ⟨o, e, _⟩ := h
  rw [e]
  nofun
theorem rdUp {F H : Hp} {a : Addr} {u : HO} (h : ∀ b o, F b = some o → H b = some o) (q : Rd F a u) : Rd H a u := q.imp (h _ _) fun ⟨o, q⟩ => ⟨o, h _ _ q⟩
/-- a place of the frame's own -/
def Mine (Hs : Hp) (G : Gh) (b : Addr) : Prop := Hs b = none ∧ G.F b = none ∧ G.pb ≠ some b
/-- H0: the heap at the frame's entry (a parameter's object stood there); Hs: the heap ahead of which an own object did not stand -/
def RepV (H0 Hs : Hp) (G : Gh) (H : Hp) (v : V) : SV → Prop
  | .tr d => rep G.F d v
  | .own d => ∃ a, v = .ref a ∧ Hs a = none ∧ G.F a = none ∧ G.pb ≠ some a ∧ cont G.F H a d
  | .brw d => ∃ a, v = .ref a ∧ H0 a ≠ none ∧ G.pb ≠ some a ∧ cont G.F H a d
  | .pk d => ∃ a, v = .ref a ∧ G.pb ≠ some a ∧ cont G.F H a d
  | .bag => ∃ a, v = .ref a ∧ G.pb = some a
  | .obj q C fs => ∃ a dx ws, v = .ref a ∧ H a = some (.ins C dx ws) ∧ H dx = some (.own a) ∧ Mine Hs G a ∧ Mine Hs G dx ∧ (a :: dx :: adrs fs ws).Nodup ∧ RepF Hs G H fs ws ∧ a = q
  | .pob C fs => ∃ a dx ws, v = .ref a ∧ H a = some (.ins C dx ws) ∧ G.pb ≠ some a ∧ RepP (fun _ => True) G H fs ws
  | .bob C fs => ∃ a dx ws, v = .ref a ∧ H0 a ≠ none ∧ H a = some (.ins C dx ws) ∧ G.pb ≠ some a ∧ RepP (fun b => H0 b ≠ none) G H fs ws
  | .exc a _ d fs => v = .ref a ∧ ∃ ws, G.F d = some (.xd ws) ∧ repf G.F fs ws
  | .tz ds => ∃ a o vs, v = .ref a ∧ o.dict = none ∧ G.F a = some (.frz o (.tup vs)) ∧ reps G.F ds vs
/-- the places of an own value -/
def Owns (H : Hp) (v : V) : SV → Addr → Prop
  | .own _, b => v = .ref b
  | .obj _ C fs, b => ∃ a dx ws, v = .ref a ∧ H a = some (.ins C dx ws) ∧ (b = a ∨ b = dx ∨ b ∈ adrs fs ws)
  | _, _ => False

section
variable {G G' G1 G2 : Gh} {H0 Hs Hs' H H' H1 H2 : Hp} {v : V} {sv : SV} {a : Addr} {d : D}
theorem Rd.ext (E : Ext G H G' H') {u : HO} (q : G.pb ≠ some a) (n : ∀ ps, u ≠ .tbl ps) (h : Rd H a u) : Rd H' a u := by
  rcases h with h | ⟨o, h⟩
  · exact .inl (E.same a _ h q n)
  · exact .inr ⟨o, E.same a _ h q nofun⟩
theorem cont.ext (E : Ext G H G' H') (q : G.pb ≠ some a) (h : cont G.F H a d) : cont G'.F H' a d := by
  cases d with
  | lst ds => obtain ⟨vs, e, r⟩ := h; exact ⟨vs, E.same _ _ e q nofun, reps.mono E.frz _ _ r⟩
  | dic kvs => obtain ⟨vs, e, r⟩ := h; exact ⟨vs, E.same _ _ e q nofun, repk.mono E.frz _ _ r⟩
  | dit kvs => obtain ⟨vs, e, r⟩ := h; exact ⟨vs, E.same _ _ e q nofun, rept.mono E.frz _ _ r⟩
  | _ => exact h.elim
theorem cont.thereT (h : cont G.F H a d) : There H a := by
  cases d with
  | lst ds => obtain ⟨vs, e, r⟩ := h; exact ⟨_, e, nofun⟩
  | dic kvs => obtain ⟨vs, e, r⟩ := h; exact ⟨_, e, nofun⟩
  | dit kvs => obtain ⟨vs, e, r⟩ := h; exact ⟨_, e, nofun⟩
  | _ => exact h.elim
theorem cont.there (h : cont G.F H a d) : H a ≠ none := by
  cases d with
  | lst ds => obtain ⟨vs, e, r⟩ := h; rw [e]; simp
  | dic kvs => obtain ⟨vs, e, r⟩ := h; rw [e]; simp
  | dit kvs => obtain ⟨vs, e, r⟩ := h; rw [e]; simp
  | _ => exact h.elim
theorem Ext.npb (E : Ext G H G' H') (q : G.pb ≠ some a) (h : H a ≠ none) : G'.pb ≠ some a := fun z => by
  rcases E.pnew a z with z | z
  · exact q z
  · exact h z
theorem Ext.nF (E : Ext G H G' H') (q : G.F a = none) (h : H a ≠ none) : G'.F a = none := by
  cases e : G'.F a with
  | none => rfl
  | some o =>
    rcases E.new a o e with z | z
    · rw [q] at z; cases z
    · exact (h z).elim
theorem RepF.mine {fs : List (Str × FV)} {ws : List (Str × V)} (r : RepF Hs G H fs ws) : ∀ b ∈ adrs fs ws, Mine Hs G b ∧ There H b := by
  induction r with
  | nil => intro b hb; cases hb
  | tr _ _ ih => exact ih
  | own h1 h2 h3 h4 _ ih =>
    intro b hb
    rcases List.mem_cons.mp hb with rfl | hb
    · exact ⟨⟨h1, h2, h3⟩, h4.thereT⟩
    · exact ih b hb
/-- fields stay where their places are as they were -/
theorem cont.at {F F' H H' : Hp} {b : Addr} {d : D} (m : ∀ x o, F x = some o → F' x = some o) (e : H' b = H b) (h : cont F H b d) : cont F' H' b d := by
  cases d with
  | lst ds => obtain ⟨vs, k, r⟩ := h; exact ⟨vs, e.trans k, reps.mono m _ _ r⟩
  | dic ds => obtain ⟨vs, k, r⟩ := h; exact ⟨vs, e.trans k, repk.mono m _ _ r⟩
  | dit ds => obtain ⟨vs, k, r⟩ := h; exact ⟨vs, e.trans k, rept.mono m _ _ r⟩
  | _ => exact h.elim
theorem RepF.at {fs : List (Str × FV)} {ws : List (Str × V)} (r : RepF Hs G H fs ws) (m : ∀ x o, G.F x = some o → G'.F x = some o) (hb : ∀ b ∈ adrs fs ws, Mine Hs' G' b ∧ H' b = H b) : RepF Hs' G' H' fs ws := by
  induction r with
  | nil => exact .nil
  | tr h _ ih => exact .tr (rep.mono m _ _ h) (ih hb)
  | own h1 h2 h3 h4 _ ih =>
    obtain ⟨⟨q1, q2, q3⟩, q4⟩ := hb _ (List.mem_cons_self ..)
    exact .own q1 q2 q3 (h4.at m q4) (ih fun b h => hb b (List.mem_cons_of_mem _ h))
/-- an own value's places: new, not frozen, not the bag, there -/
theorem RepV.owns {b : Addr} (r : RepV H0 Hs G H v sv) (o : Owns H v sv b) : Mine Hs G b ∧ There H b := by
  cases sv with
  | own d =>
    obtain ⟨a, e, h1, h2, h3, h4⟩ := r
    have o : v = .ref b := o
    rw [e] at o
    cases o
    exact ⟨⟨h1, h2, h3⟩, h4.thereT⟩
  | obj q C fs =>
    obtain ⟨a, dx, ws, e, ea, ed, h1, h2, _, rf, _⟩ := r
    obtain ⟨a', dx', ws', e', ea', hb⟩ := o
    rw [e] at e'
    cases e'
    rw [ea] at ea'
    cases ea'
    rcases hb with rfl | rfl | hb
    · exact ⟨h1, _, ea, nofun⟩
    · exact ⟨h2, _, ed, nofun⟩
    · exact rf.mine b hb
  | _ => exact o.elim
theorem RepP.ext {N : Addr → Prop} {fs : List (Str × FV)} {ws : List (Str × V)} (E : Ext G H G' H') (r : RepP N G H fs ws) : RepP N G' H' fs ws := by
  induction r with
  | nil => exact .nil
  | tr h _ ih => exact .tr (rep.mono E.frz _ _ h) ih
  | own h1 h2 h3 _ ih => exact .own h1 (E.npb h2 h3.there) (h3.ext E h2) ih
theorem RepP.imp {N N' : Addr → Prop} {fs : List (Str × FV)} {ws : List (Str × V)} (h : ∀ b, H b ≠ none → N b → N' b) (r : RepP N G H fs ws) : RepP N' G H fs ws := by
  induction r with
  | nil => exact .nil
  | tr q _ ih => exact .tr q ih
  | own h1 h2 h3 _ ih => exact .own (h _ h3.there h1) h2 h3 ih
theorem RepP.mono {N : Addr → Prop} {fs : List (Str × FV)} {ws : List (Str × V)} (m : ∀ x o, G.F x = some o → G'.F x = some o) (e : G'.pb = G.pb := by rfl) (r : RepP N G H fs ws) : RepP N G' H fs ws := by
  induction r with
  | nil => exact .nil
  | tr q _ ih => exact .tr (rep.mono m _ _ q) ih
  | own h1 h2 h3 _ ih => exact .own h1 (by rw [e]; exact h2) (h3.at m rfl) ih
theorem RepP.off {N : Addr → Prop} {fs : List (Str × FV)} {ws : List (Str × V)} (r : RepP N G H fs ws) (h : ∀ b, N b → ∀ u, H b = some u → H' b = some u) : RepP N G H' fs ws := by
  induction r with
  | nil => exact .nil
  | tr q _ ih => exact .tr q ih
  | own h1 h2 h3 _ ih =>
    refine .own h1 h2 (h3.at (fun _ _ z => z) ?_) ih
    obtain ⟨o, ho⟩ := Option.ne_none_iff_exists'.mp h3.there
    rw [ho]
    exact h _ h1 o ho
theorem RepF.peek {fs : List (Str × FV)} {ws : List (Str × V)} (r : RepF Hs G H fs ws) : RepP (fun _ => True) G H fs ws := by
  induction r with
  | nil => exact .nil
  | tr q _ ih => exact .tr q ih
  | own h1 h2 h3 h4 _ ih => exact .own trivial h3 h4 ih
/-- what holds an own value: it stays where its places are as they were -/
theorem RepV.at (r : RepV H0 Hs G H v sv) (hs : ∀ d, sv ≠ .brw d) (hs2 : ∀ d, sv ≠ .pk d) (hs3 : sv ≠ .bag) (hs4 : ∀ C fs, sv ≠ .pob C fs) (hs5 : ∀ C fs, sv ≠ .bob C fs) (m : ∀ x o, G.F x = some o → G'.F x = some o) (hb : ∀ b, Owns H v sv b → Mine Hs' G' b ∧ H' b = H b) : RepV H0 Hs' G' H' v sv := by
  cases sv with
  | tr d => exact rep.mono m d v r
  | exc a C d fs =>
    obtain ⟨e, ws, h1, h2⟩ := r
    exact ⟨e, ws, m _ _ h1, repf.mono m _ _ h2⟩
  | tz ds =>
    obtain ⟨a, o, vs, e, h0, h1, h2⟩ := r
    exact ⟨a, o, vs, e, h0, m _ _ h1, reps.mono m _ _ h2⟩
  | own d =>
    obtain ⟨a, e, h1, h2, h3, h4⟩ := r
    obtain ⟨⟨q1, q2, q3⟩, q4⟩ := hb a e
    exact ⟨a, e, q1, q2, q3, h4.at m q4⟩
  | obj q C fs =>
    obtain ⟨a, dx, ws, e, ea, ed, h1, h2, hn, rf, hq⟩ := r
    obtain ⟨qa, qa2⟩ := hb a ⟨a, dx, ws, e, ea, .inl rfl⟩
    obtain ⟨qd, qd2⟩ := hb dx ⟨a, dx, ws, e, ea, .inr (.inl rfl)⟩
    exact ⟨a, dx, ws, e, qa2.trans ea, qd2.trans ed, qa, qd, hn, rf.at m fun b h => hb b ⟨a, dx, ws, e, ea, .inr (.inr h)⟩, hq⟩
  | brw d => exact (hs d rfl).elim
  | pk d => exact (hs2 d rfl).elim
  | bag => exact (hs3 rfl).elim
  | pob C fs => exact (hs4 C fs rfl).elim
  | bob C fs => exact (hs5 C fs rfl).elim
theorem Owns.at {b : Addr} (r : RepV H0 Hs G H v sv) (h : ∀ b, Owns H v sv b → H' b = H b) (o : Owns H' v sv b) : Owns H v sv b := by
  cases sv with
  | own d => exact o
  | obj q C fs =>
    obtain ⟨a, dx, ws, e, ea, _⟩ := r
    obtain ⟨a', dx', ws', e', ea', hb⟩ := o
    rw [e] at e'
    cases e'
    rw [h a ⟨a, dx, ws, e, ea, .inl rfl⟩, ea] at ea'
    cases ea'
    exact ⟨a, dx, ws, e, ea, hb⟩
  | _ => exact o.elim
theorem Ext.mine {Hs : Hp} {b : Addr} (E : Ext G H G' H') (h : Mine Hs G b) (hb : There H b) : Mine Hs G' b ∧ H' b = H b := by
  refine ⟨⟨h.1, E.nF h.2.1 hb.ne, E.npb h.2.2 hb.ne⟩, ?_⟩
  obtain ⟨o, e, n⟩ := hb
  rw [e]
  exact E.same b o e h.2.2 n
/-- a held value stays -/
theorem RepV.ext (E : Ext G H G' H') (r : RepV H0 Hs G H v sv) : RepV H0 Hs G' H' v sv := by
  cases sv with
  | tr d => exact rep.mono E.frz d v r
  | exc a C d fs =>
    obtain ⟨e, ws, h1, h2⟩ := r
    exact ⟨e, ws, E.frz _ _ h1, repf.mono E.frz _ _ h2⟩
  | tz ds =>
    obtain ⟨a, o, vs, e, h0, h1, h2⟩ := r
    exact ⟨a, o, vs, e, h0, E.frz _ _ h1, reps.mono E.frz _ _ h2⟩
  | own d =>
    obtain ⟨a, e, h1, h2, h3, h4⟩ := r
    exact ⟨a, e, h1, E.nF h2 h4.there, E.npb h3 h4.there, h4.ext E h3⟩
  | brw d =>
    obtain ⟨a, e, h1, h3, h4⟩ := r
    exact ⟨a, e, h1, E.npb h3 h4.there, h4.ext E h3⟩
  | pk d =>
    obtain ⟨a, e, h3, h4⟩ := r
    exact ⟨a, e, E.npb h3 h4.there, h4.ext E h3⟩
  | bag =>
    obtain ⟨a, e, h⟩ := r
    exact ⟨a, e, E.pb a h⟩
  | obj q C fs => exact r.at (fun _ => nofun) (fun _ => nofun) nofun (fun _ _ => nofun) (fun _ _ => nofun) E.frz fun b o => E.mine (r.owns o).1 (r.owns o).2
  | pob C fs =>
    obtain ⟨a, dx, ws, e, ea, nb, rf⟩ := r
    exact ⟨a, dx, ws, e, E.same _ _ ea nb nofun, E.npb nb (by rw [ea]; simp), rf.ext E⟩
  | bob C fs =>
    obtain ⟨a, dx, ws, e, h0, ea, nb, rf⟩ := r
    exact ⟨a, dx, ws, e, h0, E.same _ _ ea nb nofun, E.npb nb (by rw [ea]; simp), rf.ext E⟩
/-- newer than a later heap is newer than an earlier one -/
theorem RepV.back (h : ∀ b, Hs b = none → Hs' b = none) (r : RepV H0 Hs G H v sv) : RepV H0 Hs' G H v sv := by
  cases sv with
  | own d =>
    obtain ⟨a, e, h1, h2⟩ := r
    exact ⟨a, e, h a h1, h2⟩
  | obj q C fs => exact r.at (fun _ => nofun) (fun _ => nofun) nofun (fun _ _ => nofun) (fun _ _ => nofun) (fun _ _ z => z) fun b o => ⟨⟨h b (r.owns o).1.1, (r.owns o).1.2⟩, rfl⟩
  | _ => exact r
end

/-- may stand in a slot -/
def SV.ok : SV → Prop
  | .pk _ => False
  | .pob _ _ => False
  | _ => True
abbrev S := List (Option SV)
/-- the frame's slots as they are told -/
structure Rel (G0 : Gh) (H0 : Hp) (G : Gh) (H : Hp) (σ : L2.St) (S : S) : Prop where
  ext : Ext G0 H0 G H
  len : S.length = σ.length
  slot : ∀ (i : Nat) (sv : SV), S[i]? = some (some sv) → ∃ v, σ[i]? = some (some v) ∧ RepV H0 H0 G H v sv
  sep : ∀ (i j : Nat) (sv sw : SV) (v w : V) (b : Addr), i ≠ j → S[i]? = some (some sv) → S[j]? = some (some sw) → σ[i]? = some (some v) → σ[j]? = some (some w) → Owns H v sv b → ¬ Owns H w sw b
  nopk : ∀ (i : Nat) (sv : SV), S[i]? = some (some sv) → sv.ok
theorem Rel.ok {G0 G : Gh} {H0 H : Hp} {σ : L2.St} {S : S} (R : Rel G0 H0 G H σ S) : OkG G H := R.ext.ok
theorem Rel.go {G0 G G' : Gh} {H0 H H' : Hp} {σ : L2.St} {S : S} (R : Rel G0 H0 G H σ S) (E : Ext G H G' H') : Rel G0 H0 G' H' σ S :=
  ⟨R.ext.trans E, R.len, fun i sv e => let ⟨v, e1, r⟩ := R.slot i sv e; ⟨v, e1, r.ext E⟩, fun i j sv sw v w b hij e1 e2 e3 e4 o1 o2 => by
    obtain ⟨v', e5, r1⟩ := R.slot i sv e1
    obtain ⟨w', e6, r2⟩ := R.slot j sw e2
    rw [e3] at e5
    cases e5
    rw [e4] at e6
    cases e6
    exact R.sep i j sv sw v w b hij e1 e2 e3 e4 (o1.at r1 fun b o => (E.mine (r1.owns o).1 (r1.owns o).2).2) (o2.at r2 fun b o => (E.mine (r2.owns o).1 (r2.owns o).2).2), R.nopk⟩

/-! ### readings -/
abbrev GE := S → (SV → Prop) → Prop
abbrev GT := S → (Bool → Prop) → Prop
abbrev GA := S → (List SV → Prop) → Prop
abbrev KQ (H0 : Hp) (G : Gh) (H : Hp) (Qs : SV → Prop) (Q : VK) : Prop := ∀ v H' G' sv, Ext G H G' H' → RepV H0 H G' H' v sv → Qs sv → Q v H'
def TV (G0 : Gh) (H0 : Hp) (g : GE) : TE := fun σ H Q => ∃ G S Qs, Rel G0 H0 G H σ S ∧ g S Qs ∧ KQ H0 G H Qs Q
def TTV (G0 : Gh) (H0 : Hp) (g : GT) : TT := fun σ H Q => ∃ G S Qs, Rel G0 H0 G H σ S ∧ g S Qs ∧ ∀ b H' G', Ext G H G' H' → Qs b → Q b H'
/-- the places of the own ones of a row -/
def OwnsL (H : Hp) : List V → List SV → Addr → Prop
  | v :: vs, sv :: svs, b => Owns H v sv b ∨ OwnsL H vs svs b
  | _, _, _ => False
inductive RepL (H0 Hs : Hp) (G : Gh) (H : Hp) : List V → List SV → Prop
  | nil : RepL H0 Hs G H [] []
  | cons {v : V} {sv : SV} {vs : List V} {svs : List SV} : RepV H0 Hs G H v sv → RepL H0 Hs G H vs svs → (∀ b, Owns H v sv b → ¬ OwnsL H vs svs b) → RepL H0 Hs G H (v :: vs) (sv :: svs)
theorem RepL.owns {H0 Hs : Hp} {G : Gh} {H : Hp} {b : Addr} : ∀ {vs : List V} {svs : List SV}, RepL H0 Hs G H vs svs → OwnsL H vs svs b → Mine Hs G b ∧ There H b
  | _, _, .nil, o => o.elim
  | _, _, .cons r t _, o => o.elim (fun o => r.owns o) fun o => RepL.owns t o
theorem OwnsL.at {H0 Hs : Hp} {G : Gh} {H H' : Hp} {b : Addr} : ∀ {vs : List V} {svs : List SV}, RepL H0 Hs G H vs svs → (∀ b, OwnsL H vs svs b → H' b = H b) → OwnsL H' vs svs b → OwnsL H vs svs b
  | _, _, .nil, _, o => o.elim
  | _, _, .cons r t _, h, o => o.elim (fun o => .inl (o.at r fun b o => h b (.inl o))) fun o => .inr (OwnsL.at t (fun b o => h b (.inr o)) o)
def TAV (G0 : Gh) (H0 : Hp) (g : GA) : TA := fun σ H Q => ∃ G S Qs, Rel G0 H0 G H σ S ∧ g S Qs ∧ ∀ vs H' G' svs, Ext G H G' H' → RepL H0 H G' H' vs svs → Qs svs → Q vs H'
/-- what is wanted of an exception of the class at C with these fields, raised at these slots -/
abbrev EXT := Addr → List (Str × D) → S → Prop
abbrev E0T : EXT := fun _ _ _ => False
def WV (EX : EXT) (G0 : Gh) (H0 : Hp) : WX := fun cls d σ H => ∃ G S C dx fs ws, cls = .ref C ∧ d = some dx ∧ Rel G0 H0 G H σ S ∧ G.F dx = some (.xd ws) ∧ repf G.F fs ws ∧ EX C fs S
structure Lk (X : Cx) (EX : EXT) (G0 : Gh) (H0 : Hp) : Prop where
  takes : Takes X (WV EX G0 H0)
  tabs : G0.T = TabsOf X.K
theorem takesE0 {X : Cx} {G0 : Gh} {H0 : Hp} : Takes X (WV E0T G0 H0) := LamX.takes0.imp fun _ _ _ _ ⟨_, _, _, _, _, _, _, _, _, _, _, z⟩ => z
theorem Lk.blk {X Y : Cx} {EX : EXT} {G0 : Gh} {H0 : Hp} (l : Lk X EX G0 H0) (h : Y.K = X.K) : Lk Y E0T G0 H0 := ⟨takesE0, by rw [h]; exact l.tabs⟩
structure VE (X : Cx) (EX : EXT) (e : Expr) (g : GE) : Prop where
  pe : ∀ G0 H0, Lk X EX G0 H0 → PE X e (TV G0 H0 g)
structure VC (X : Cx) (EX : EXT) (e : Expr) (g : GT) : Prop where
  pt : ∀ G0 H0, Lk X EX G0 H0 → PT X e (TTV G0 H0 g)
structure VW (X : Cx) (EX : EXT) (e : Expr) (g : GT) : Prop where
  pw : ∀ G0 H0, Lk X EX G0 H0 → PW X e (TTV G0 H0 g)
structure VA (X : Cx) (EX : EXT) (es : List Expr) (g : GA) : Prop where
  pa : ∀ G0 H0, Lk X EX G0 H0 → PA X es (TAV G0 H0 g)
section
variable {X : Cx} {EX : EXT} {e : Expr}
theorem peMono {t t' : TE} (h : PE X e t) (k : ∀ σ H Q, t' σ H Q → t σ H Q) : PE X e t' := ⟨fun pins s σ H Q I q => h.run pins s σ H Q I (k σ H Q q)⟩
theorem ptMono {t t' : TT} (h : PT X e t) (k : ∀ σ H Q, t' σ H Q → t σ H Q) : PT X e t' := ⟨fun pins s σ H Q I q => h.run pins s σ H Q I (k σ H Q q)⟩
theorem pwMono {t t' : TT} (h : PW X e t) (k : ∀ σ H Q, t' σ H Q → t σ H Q) : PW X e t' := ⟨fun wh pins s σ H Q I q => h.run wh pins s σ H Q I (k σ H Q q)⟩
theorem paMono {es : List Expr} {t t' : TA} (h : PA X es t) (k : ∀ σ H Q, t' σ H Q → t σ H Q) : PA X es t' := ⟨fun pos pins s σ H Q I q => h.run pos pins s σ H Q I (k σ H Q q)⟩
theorem peOf {t : TE} (h : ∀ σ H Q, t σ H Q → ∃ t', PE X e t' ∧ t' σ H Q) : PE X e t := ⟨fun pins s σ H Q I q => let ⟨_, p, z⟩ := h σ H Q q; p.run pins s σ H Q I z⟩
end
theorem RepL.ext {H0 Hs : Hp} {G G' : Gh} {H H' : Hp} (E : Ext G H G' H') : ∀ {vs : List V} {svs : List SV}, RepL H0 Hs G H vs svs → RepL H0 Hs G' H' vs svs
  | _, _, .nil => .nil
  | _, _, .cons r t n => .cons (r.ext E) (RepL.ext E t) fun b o1 o2 => n b (o1.at r fun b o => (E.mine (r.owns o).1 (r.owns o).2).2) (o2.at t fun b o => (E.mine (t.owns o).1 (t.owns o).2).2)
theorem RepL.back {H0 Hs Hs' : Hp} {G : Gh} {H : Hp} (h : ∀ b, Hs b = none → Hs' b = none) : ∀ {vs : List V} {svs : List SV}, RepL H0 Hs G H vs svs → RepL H0 Hs' G H vs svs
  | _, _, .nil => .nil
  | _, _, .cons r t n => .cons (r.back h) (RepL.back h t) n
theorem RepL.length {H0 Hs : Hp} {G : Gh} {H : Hp} : ∀ {vs : List V} {svs : List SV}, RepL H0 Hs G H vs svs → vs.length = svs.length
  | _, _, .nil => rfl
  | _, _, .cons r t _ => by rw [List.length_cons, List.length_cons, RepL.length t]
/-- a value, then a row newer than it -/
theorem RepL.cons' {H0 Hs : Hp} {G1 G2 : Gh} {H1 H2 : Hp} {v : V} {sv : SV} {vs : List V} {svs : List SV} (E1 : ∀ b, H1 b = none → Hs b = none) (E2 : Ext G1 H1 G2 H2) (r : RepV H0 Hs G1 H1 v sv) (t : RepL H0 H1 G2 H2 vs svs) : RepL H0 Hs G2 H2 (v :: vs) (sv :: svs) :=
  .cons (r.ext E2) (t.back E1) fun b o1 o2 => (r.owns (o1.at r fun b o => (E2.mine (r.owns o).1 (r.owns o).2).2)).2.ne (t.owns o2).1.1

/-! ### names and constants -/
/-- what a name gives: its own object is only looked at -/
def SV.look : SV → SV
  | .own d => .pk d
  | .obj _ C fs => .pob C fs
  | sv => sv
def gName (i : Nat) : GE := fun S Q => ∃ sv, S[i]? = some (some sv) ∧ Q sv.look
@[simp] def gC (d : D) : GE := fun _ Q => Q (.tr d)
section
variable {X : Cx} {EX : EXT}
theorem ve_name (i : Nat) {x : Str} {pos : Pos} (hN : X.N[i]? = some x := by rfl) (hv : Vis X.env.scope x := by first | exact Or.inl rfl | exact Or.inr (Or.inl rfl) | exact Or.inr (Or.inr rfl)) (hd : (x == ("__debug__" : Str)) = false := by decide)
    (hcd : (x == ("__classdict__" : Str)) = false := by decide) : VE X EX (.Name x pos) (gName i) := by
  refine ⟨fun G0 H0 tk => peMono (pe_var hN hv hd hcd) fun σ H Q ⟨G, S, Qs, R, ⟨sv, e, q⟩, k⟩ => ?_⟩
  obtain ⟨v, e1, r⟩ := R.slot i sv e
  refine ⟨v, e1, k v H G sv.look (.refl R.ok) ?_ q⟩
  cases sv with
  | tr d => exact r
  | own d => obtain ⟨a, e, h1, h2, h3, h4⟩ := r; exact ⟨a, e, h3, h4⟩
  | obj q C fs => obtain ⟨a, dx, ws, e, ea, _, h1, _, _, rf, _⟩ := r; exact ⟨a, dx, ws, e, ea, h1.2.2, rf.peek⟩
  | _ => exact r
theorem ve_c {e : Expr} {v : V} {d : D} (h : PE X e (tC v)) (r : ∀ F, rep F d v) : VE X EX e (gC d) :=
  ⟨fun G0 H0 tk => peMono h fun σ H Q ⟨G, S, Qs, R, q, k⟩ => k v H G (.tr d) (.refl R.ok) (r G.F) q⟩
theorem ve_int {i j pos} : VE X EX (.Constant (.int i) j pos) (gC (.int i)) := ve_c pe_int fun _ => rfl
theorem ve_bl {b j pos} : VE X EX (.Constant (.bool b) j pos) (gC (.bl b)) := ve_c pe_bl fun _ => rfl
theorem ve_non {j pos} : VE X EX (.Constant .none j pos) (gC .non) := ve_c pe_non fun _ => rfl
theorem ve_str {x j pos} (h : okS x := by decide +kernel) : VE X EX (.Constant (.str x) j pos) (gC (.str x)) := ve_c pe_str fun _ => ⟨rfl, h⟩
end

/-! ### operators by values -/
abbrev KB (H0 : Hp) (G : Gh) (H : Hp) (Qs : SV → Prop) (Q : VK) : Prop := KQ H0 G H Qs Q
/-- f on two held values gives what g tells -/
def OpW (X : Cx) (f : Value → Value → Sem Value) (g : D → D → (SV → Prop) → Prop) : Prop :=
  ∀ (H0 Ha Hb : Hp) (G : Gh) (H : Hp) (x y : V) (sx sy : SV) (Qs : SV → Prop) (Q : VK), OkG G H → RepV H0 Ha G H x sx → RepV H0 Hb G H y sy → g sx.d sy.d Qs → KQ H0 G H Qs Q → ∃ r, OpR X f r ∧ r x y H Q
@[simp] def gOp (g : D → D → (SV → Prop) → Prop) (ga gb : GE) : GE := fun S Q => ga S fun x => gb S fun y => g x.d y.d Q
section
variable {X : Cx} {EX : EXT} {a b c : Expr} {ga gb gc : GE} {pos : Pos}
theorem opr_any {f : Value → Value → Sem Value} : OpR X f (fun x y H Q => ∃ r, OpR X f r ∧ r x y H Q) := fun pins s σ H x y v u Q I rx ry ⟨_, h, q⟩ => h pins s σ H x y v u Q I rx ry q
theorem kq_back {H0 : Hp} {G G1 : Gh} {H H1 : Hp} {Qs : SV → Prop} {Q : VK} (E : Ext G H G1 H1) (k : KQ H0 G H Qs Q) : KQ H0 G1 H1 Qs Q :=
  fun v H' G' sv E' r q => k v H' G' sv (E.trans E') (r.back fun _ z => E.dom z) q
theorem gOp_t {f : Value → Value → Sem Value} {g : D → D → (SV → Prop) → Prop} (ho : OpW X f g) {G0 : Gh} {H0 : Hp} {σ : L2.St} {H : Hp} {Q : VK} (h : TV G0 H0 (gOp g ga gb) σ H Q) :
    tOp (fun x y H Q => ∃ r, OpR X f r ∧ r x y H Q) (TV G0 H0 ga) (TV G0 H0 gb) σ H Q := by
  obtain ⟨G, S, Qs, R, q, k⟩ := h
  refine ⟨G, S, _, R, q, fun x H1 G1 sx E1 r1 q1 => ?_⟩
  refine ⟨G1, S, _, R.go E1, q1, fun y H2 G2 sy E2 r2 q2 => ?_⟩
  exact ho H0 _ _ G2 H2 x y sx sy Qs Q E2.ok (r1.ext E2) r2 q2 (kq_back (E1.trans E2) k)
theorem ve_op {op : Operator} {g : D → D → (SV → Prop) → Prop} (ho : OpW X (binaryOp op) g) (ha : VE X EX a ga) (hb : VE X EX b gb) : VE X EX (.BinOp a op b pos) (gOp g ga gb) :=
  ⟨fun G0 H0 tk => peMono (pe_op opr_any (ha.pe G0 H0 tk) (hb.pe G0 H0 tk)) fun _ _ _ h => gOp_t ho h⟩
theorem ve_cmp {op : CmpOp} {g : D → D → (SV → Prop) → Prop} (ho : OpW X (compareOp op) g) (ha : VE X EX a ga) (hb : VE X EX b gb) (hm : behindInMarks op b = false := by first | exact nobehind _ (by decide) (by decide) | rfl) : VE X EX (.Compare a [op] [b] pos) (gOp g ga gb) :=
  ⟨fun G0 H0 tk => peMono (pe_cmpR opr_any (ha.pe G0 H0 tk) (hb.pe G0 H0 tk) hm) fun _ _ _ h => gOp_t ho h⟩
/-- two comparisons in a chain -/
@[simp] def gChain (g g' : D → D → (SV → Prop) → Prop) (ga gb gc : GE) : GE := fun S Q => ga S fun x => gb S fun y => g x.d y.d fun z => ∃ k, z = .tr (.bl k) ∧ if k = true then gc S fun w => g' y.d w.d Q else Q (.tr (.bl false))
theorem ve_chain {op op' : CmpOp} {g g' : D → D → (SV → Prop) → Prop} (ho : OpW X (compareOp op) g) (ho' : OpW X (compareOp op') g') (ha : VE X EX a ga) (hb : VE X EX b gb) (hc : VE X EX c gc)
    (hm : lastMarks [op, op'] [b, c] = false := by with_unfolding_all rfl) : VE X EX (.Compare a [op, op'] [b, c] pos) (gChain g g' ga gb gc) := by
  refine ⟨fun G0 H0 tk => peMono (pe_chain opr_any opr_any (ha.pe G0 H0 tk) (hb.pe G0 H0 tk) (hc.pe G0 H0 tk) hm) fun σ H Q ⟨G, S, Qs, R, q, k⟩ => ?_⟩
  refine ⟨G, S, _, R, q, fun x H1 G1 sx E1 r1 q1 => ?_⟩
  refine ⟨G1, S, _, R.go E1, q1, fun y H2 G2 sy E2 r2 q2 => ?_⟩
  refine ho H0 _ _ G2 H2 x y sx sy _ _ E2.ok (r1.ext E2) r2 q2 fun z H3 G3 sz E3 r3 q3 => ?_
  obtain ⟨kb, rfl, q3⟩ := q3
  cases kb with
  | true =>
    refine ⟨true, r3, ?_⟩
    rw [if_pos rfl] at q3 ⊢
    refine ⟨G3, S, _, (R.go E1).go (E2.trans E3), q3, fun w H4 G4 sw E4 r4 q4 => ?_⟩
    exact ho' H0 _ _ G4 H4 y w sy sw Qs Q E4.ok ((r2.ext E3).ext E4) r4 q4 (kq_back ((E1.trans E2).trans (E3.trans E4)) k)
  | false =>
    refine ⟨false, r3, ?_⟩
    rw [if_neg Bool.false_ne_true] at q3 ⊢
    exact k (V.bl false) H3 G3 (.tr (.bl false)) ((E1.trans E2).trans E3) rfl q3
/-! ### tests -/
@[simp] def gTest (g : GE) : GT := fun S Q => g S fun z => ∃ k, z = .tr (.bl k) ∧ Q k
theorem vc_val {e : Expr} {g : GE} (h : VE X EX e g) (he : ∀ whole, isTrue e X.env whole = (do let v ← whole; standAt e.pos; holding [v] (truthy v)) := by intro _; rfl) : VC X EX e (gTest g) := by
  refine ⟨fun G0 H0 tk => ptMono (pt_val (h.pe G0 H0 tk) he) fun σ H Q ⟨G, S, Qs, R, q, k⟩ => ?_⟩
  refine ⟨G, S, _, R, q, fun v H1 G1 sv E1 r1 q1 => ?_⟩
  obtain ⟨b, rfl, q1⟩ := q1
  exact ⟨b, r1, k b H1 G1 E1 q1⟩
theorem vc_cmp {op : CmpOp} {g : D → D → (SV → Prop) → Prop} (ho : OpW X (compareOp op) g) (ha : VE X EX a ga) (hb : VE X EX b gb) (hm : behindInMarks op b = false := by first | exact nobehind _ (by decide) (by decide) | rfl) : VC X EX (.Compare a [op] [b] pos) (gTest (gOp g ga gb)) := by
  refine ⟨fun G0 H0 tk => ptMono (pt_cmpR opr_any (ha.pe G0 H0 tk) (hb.pe G0 H0 tk) hm) fun σ H Q ⟨G, S, Qs, R, q, k⟩ => ?_⟩
  refine ⟨G, S, _, R, q, fun x H1 G1 sx E1 r1 q1 => ?_⟩
  refine ⟨G1, S, _, R.go E1, q1, fun y H2 G2 sy E2 r2 q2 => ?_⟩
  refine ho H0 _ _ G2 H2 x y sx sy _ _ E2.ok (r1.ext E2) r2 q2 fun z H3 G3 sz E3 r3 q3 => ?_
  obtain ⟨b, rfl, q3⟩ := q3
  exact ⟨b, r3, k b H3 G3 ((E1.trans E2).trans E3) q3⟩
theorem vc_chain {op op' : CmpOp} {g g' : D → D → (SV → Prop) → Prop} (ho : OpW X (compareOp op) g) (ho' : OpW X (compareOp op') g') (ha : VE X EX a ga) (hb : VE X EX b gb) (hc : VE X EX c gc)
    (hm : lastMarks [op, op'] [b, c] = false := by with_unfolding_all rfl) : VC X EX (.Compare a [op, op'] [b, c] pos) (gTest (gChain g g' ga gb gc)) := by
  refine ⟨fun G0 H0 tk => ptMono (pt_chain opr_any opr_any (ha.pe G0 H0 tk) (hb.pe G0 H0 tk) (hc.pe G0 H0 tk) hm) fun σ H Q ⟨G, S, Qs, R, q, k⟩ => ?_⟩
  refine ⟨G, S, _, R, q, fun x H1 G1 sx E1 r1 q1 => ?_⟩
  refine ⟨G1, S, _, R.go E1, q1, fun y H2 G2 sy E2 r2 q2 => ?_⟩
  refine ho H0 _ _ G2 H2 x y sx sy _ _ E2.ok (r1.ext E2) r2 q2 fun z H3 G3 sz E3 r3 q3 => ?_
  obtain ⟨kb, rfl, q3⟩ := q3
  cases kb with
  | true =>
    refine ⟨true, r3, ?_⟩
    rw [if_pos rfl] at q3 ⊢
    refine ⟨G3, S, _, (R.go E1).go (E2.trans E3), q3, fun w H4 G4 sw E4 r4 q4 => ?_⟩
    refine ho' H0 _ _ G4 H4 y w sy sw _ _ E4.ok ((r2.ext E3).ext E4) r4 q4 fun z H5 G5 sz5 E5 r5 q5 => ?_
    obtain ⟨b, rfl, q5⟩ := q5
    exact ⟨b, r5, k b H5 G5 (((E1.trans E2).trans (E3.trans E4)).trans E5) q5⟩
  | false =>
    refine ⟨false, r3, ?_⟩
    rw [if_neg Bool.false_ne_true] at q3 ⊢
    obtain ⟨b, e, q3⟩ := q3
    cases e
    exact ⟨false, rfl, k _ _ _ ((E1.trans E2).trans E3) q3⟩
@[simp] def gAndT (t u : GT) : GT := fun S Q => t S fun c => if c = true then u S Q else Q false
@[simp] def gOrT (t u : GT) : GT := fun S Q => t S fun c => if c = true then Q true else u S Q
@[simp] def gNotT (t : GT) : GT := fun S Q => t S fun c => Q (!c)
variable {gA gB : GT} {rest : List Expr}
theorem VW.vc {e : Expr} (h : VW X EX e gA) : VC X EX e gA := ⟨fun G0 H0 tk => (h.pw G0 H0 tk).pt⟩
theorem vw_and1 (ha : VC X EX a gA) : VW X EX (.BoolOp .And [a] pos) gA := ⟨fun G0 H0 tk => pw_and1 (ha.pt G0 H0 tk)⟩
theorem vw_or1 (ha : VC X EX a gA) : VW X EX (.BoolOp .Or [a] pos) gA := ⟨fun G0 H0 tk => pw_or1 (ha.pt G0 H0 tk)⟩
theorem vw_and (ha : VC X EX a gA) (hb : VW X EX (.BoolOp .And (b :: rest) pos) gB) : VW X EX (.BoolOp .And (a :: b :: rest) pos) (gAndT gA gB) := by
  refine ⟨fun G0 H0 tk => pwMono (pw_and (ha.pt G0 H0 tk) (hb.pw G0 H0 tk)) fun σ H Q ⟨G, S, Qs, R, q, k⟩ => ?_⟩
  refine ⟨G, S, _, R, q, fun c H1 G1 E1 q1 => ?_⟩
  cases c with
  | true =>
    rw [if_pos rfl] at q1 ⊢
    exact ⟨G1, S, _, R.go E1, q1, fun b H2 G2 E2 q2 => k b H2 G2 (E1.trans E2) q2⟩
  | false =>
    rw [if_neg Bool.false_ne_true] at q1 ⊢
    exact k _ _ _ E1 q1
theorem vw_or (ha : VC X EX a gA) (hb : VW X EX (.BoolOp .Or (b :: rest) pos) gB) : VW X EX (.BoolOp .Or (a :: b :: rest) pos) (gOrT gA gB) := by
  refine ⟨fun G0 H0 tk => pwMono (pw_or (ha.pt G0 H0 tk) (hb.pw G0 H0 tk)) fun σ H Q ⟨G, S, Qs, R, q, k⟩ => ?_⟩
  refine ⟨G, S, _, R, q, fun c H1 G1 E1 q1 => ?_⟩
  cases c with
  | true =>
    rw [if_pos rfl] at q1 ⊢
    exact k _ _ _ E1 q1
  | false =>
    rw [if_neg Bool.false_ne_true] at q1 ⊢
    exact ⟨G1, S, _, R.go E1, q1, fun b H2 G2 E2 q2 => k b H2 G2 (E1.trans E2) q2⟩
theorem vc_not (ha : VC X EX a gA) : VC X EX (.UnaryOp .Not a pos) (gNotT gA) := by
  refine ⟨fun G0 H0 tk => ptMono (pt_not (ha.pt G0 H0 tk)) fun σ H Q ⟨G, S, Qs, R, q, k⟩ => ?_⟩
  exact ⟨G, S, _, R, q, fun c H1 G1 E1 q1 => k _ _ _ E1 q1⟩
/-! ### and, or, not as values, all but the last bools -/
@[simp] def gAndV (ga gb : GE) : GE := fun S Q => ga S fun x => ∃ c, x = .tr (.bl c) ∧ if c = true then gb S Q else Q (.tr (.bl false))
@[simp] def gOrV (ga gb : GE) : GE := fun S Q => ga S fun x => ∃ c, x = .tr (.bl c) ∧ if c = true then Q (.tr (.bl true)) else gb S Q
@[simp] def gNotV (ga : GE) : GE := fun S Q => ga S fun x => ∃ c, x = .tr (.bl c) ∧ Q (.tr (.bl (!c)))
theorem ve_one {op} (h : VE X EX a ga) : VE X EX (.BoolOp op [a] pos) ga := ⟨fun G0 H0 tk => pe_one (h.pe G0 H0 tk)⟩
theorem ve_and (ha : VE X EX a ga) (hb : VE X EX (.BoolOp .And (b :: rest) pos) gb) : VE X EX (.BoolOp .And (a :: b :: rest) pos) (gAndV ga gb) := by
  refine ⟨fun G0 H0 tk => peMono (pe_and (ha.pe G0 H0 tk) (hb.pe G0 H0 tk)) fun σ H Q ⟨G, S, Qs, R, q, k⟩ => ?_⟩
  refine ⟨G, S, _, R, q, fun v H1 G1 sv E1 r1 q1 => ?_⟩
  obtain ⟨c, rfl, q1⟩ := q1
  refine ⟨c, r1, ?_⟩
  cases c with
  | true =>
    rw [if_pos rfl] at q1 ⊢
    exact ⟨G1, S, Qs, R.go E1, q1, kq_back E1 k⟩
  | false =>
    rw [if_neg Bool.false_ne_true] at q1 ⊢
    exact k (V.bl false) H1 G1 (.tr (.bl false)) E1 rfl q1
theorem ve_or (ha : VE X EX a ga) (hb : VE X EX (.BoolOp .Or (b :: rest) pos) gb) : VE X EX (.BoolOp .Or (a :: b :: rest) pos) (gOrV ga gb) := by
  refine ⟨fun G0 H0 tk => peMono (pe_or (ha.pe G0 H0 tk) (hb.pe G0 H0 tk)) fun σ H Q ⟨G, S, Qs, R, q, k⟩ => ?_⟩
  refine ⟨G, S, _, R, q, fun v H1 G1 sv E1 r1 q1 => ?_⟩
  obtain ⟨c, rfl, q1⟩ := q1
  refine ⟨c, r1, ?_⟩
  cases c with
  | true =>
    rw [if_pos rfl] at q1 ⊢
    exact k (V.bl true) H1 G1 (.tr (.bl true)) E1 rfl q1
  | false =>
    rw [if_neg Bool.false_ne_true] at q1 ⊢
    exact ⟨G1, S, Qs, R.go E1, q1, kq_back E1 k⟩
theorem ve_not (ha : VE X EX a ga) : VE X EX (.UnaryOp .Not a pos) (gNotV ga) := by
  refine ⟨fun G0 H0 tk => peMono (pe_not (ha.pe G0 H0 tk)) fun σ H Q ⟨G, S, Qs, R, q, k⟩ => ?_⟩
  refine ⟨G, S, _, R, q, fun v H1 G1 sv E1 r1 q1 => ?_⟩
  obtain ⟨c, rfl, q1⟩ := q1
  exact ⟨c, r1, k (V.bl (!c)) H1 G1 (.tr (.bl (!c))) E1 rfl q1⟩
@[simp] def gIf (t : GT) (ga gb : GE) : GE := fun S Q => t S fun c => if c = true then ga S Q else gb S Q
theorem ve_if {c : Expr} (hc : VC X EX c gA) (ha : VE X EX a ga) (hb : VE X EX b gb) : VE X EX (.IfExp c a b pos) (gIf gA ga gb) := by
  refine ⟨fun G0 H0 tk => peMono (pe_ifExp (hc.pt G0 H0 tk) (ha.pe G0 H0 tk) (hb.pe G0 H0 tk)) fun σ H Q ⟨G, S, Qs, R, q, k⟩ => ?_⟩
  refine ⟨G, S, _, R, q, fun c H1 G1 E1 q1 => ?_⟩
  cases c with
  | true =>
    rw [if_pos rfl] at q1 ⊢
    exact ⟨G1, S, Qs, R.go E1, q1, kq_back E1 k⟩
  | false =>
    rw [if_neg Bool.false_ne_true] at q1 ⊢
    exact ⟨G1, S, Qs, R.go E1, q1, kq_back E1 k⟩
/-! ### lists of expressions -/
@[simp] def gaNil : GA := fun _ Q => Q []
@[simp] def gaCons (ga : GE) (gr : GA) : GA := fun S Q => ga S fun x => gr S fun xs => Q (x :: xs)
theorem va_nil : VA X EX [] gaNil := ⟨fun G0 H0 tk => paMono pa_nil fun σ H Q ⟨G, S, Qs, R, q, k⟩ => k [] H G [] (.refl R.ok) .nil q⟩
theorem va_cons {e : Expr} {es : List Expr} {g : GE} {gr : GA} (ha : VE X EX e g) (hr : VA X EX es gr) (hs : starEach (e :: es) X.env = (false, eval e X.env) :: starEach es X.env := by rfl) : VA X EX (e :: es) (gaCons g gr) := by
  refine ⟨fun G0 H0 tk => paMono (pa_cons (ha.pe G0 H0 tk) (hr.pa G0 H0 tk) hs) fun σ H Q ⟨G, S, Qs, R, q, k⟩ => ?_⟩
  refine ⟨G, S, _, R, q, fun v H1 G1 sv E1 r1 q1 => ?_⟩
  refine ⟨G1, S, _, R.go E1, q1, fun vs H2 G2 svs E2 r2 q2 => ?_⟩
  exact k _ _ _ _ (E1.trans E2) (RepL.cons' (fun _ z => E1.dom z) E2 r1 r2) q2
end
end VT

namespace VT
open PySem PySem.Spec PyProof.Rows L2

/-! ### tables -/
theorem tabs_put {T : List (Addr × Str)} {H : Hp} {a : Addr} {u o : HO} (h : LamX.Tabs T H) (ha : H a = some u) (n1 : ∀ ps, u ≠ .tbl ps) (n2 : ∀ φ, u ≠ .ext φ) : LamX.Tabs T (upd H a o) := fun p hp => by
  obtain ⟨ps, e, k, c⟩ := h p hp
  have ne : p.1 ≠ a := ne_of e ha fun z => n1 ps z.symm
  refine ⟨ps, by rw [upd_ne ne]; exact e, k, fun pos cv hc => ?_⟩
  obtain ⟨b, e1, e2⟩ := c pos cv hc
  have nb : b ≠ a := ne_of e2 ha fun z => n2 _ z.symm
  exact ⟨b, e1, by rw [upd_ne nb]; exact e2⟩
theorem tabs_new {T : List (Addr × Str)} {H : Hp} {p : Addr} {o : HO} (h : LamX.Tabs T H) (hp : H p = none) : LamX.Tabs T (upd H p o) := h.ext fun b u e => by rw [upd_ne (ne_of_none e hp)]; exact e
/-! ### new objects -/
section
variable {G Gs : Gh} {H0 H Hs : Hp} {p a : Addr} {o : HO} {Qs : SV → Prop} {Q : VK} {ds : List D} {vs : List V} {d : D} {v : V}
theorem OkG.nF (ok : OkG G H) (hp : H p = none) : G.F p = none := by
  cases e : G.F p with
  | none => rfl
  | some o => rw [ok.sub p o e] at hp; cases hp
theorem OkG.npb (ok : OkG G H) (hp : H p = none) : G.pb ≠ some p := fun z => by
  obtain ⟨⟨c, ns, i, r, m, e, _⟩, _⟩ := ok.bag p z
  rw [e] at hp; cases hp
/-- the bag is as it was where its own place is -/
theorem BagAt.go {G' : Gh} {H' : Hp} {q : Addr} (b : BagAt G H q) (h : ∀ o, H q = some o → H' q = some o) (hF : ∀ b o, G.F b = some o → G'.F b = some o) : BagAt G' H' q := by
  obtain ⟨c, ns, i, r, m, e, ec, z⟩ := b
  exact ⟨c, ns, i, r, m, h _ e, hF _ _ ec, z⟩
theorem BagAt.upd {q : Addr} (b : BagAt G H q) (hp : H p = none) : BagAt G (upd H p o) q := b.go (fun u e => by rw [upd_ne (ne_of_none e hp)]; exact e) fun _ _ z => z
theorem upd_mono {F : Hp} (hn : F p = none) : ∀ b u, F b = some u → upd F p o b = some u := fun b u e => by rw [upd_ne (ne_of_none e hn)]; exact e
theorem ext_new (ok : OkG G H) (hp : H p = none) (o : HO) : Ext G H G (upd H p o) where
  ok := ⟨fun b u e => by rw [upd_ne (ne_of_none (ok.sub b u e) hp)]; exact ok.sub b u e, fun q e => ⟨(ok.bag q e).1.upd hp, (ok.bag q e).2⟩, tabs_new ok.tabs hp⟩
  same := fun b u e _ _ => by rw [upd_ne (ne_of_none e hp)]; exact e
  tbl := fun b ps e => ⟨ps, by rw [upd_ne (ne_of_none e hp)]; exact e⟩
  tt := rfl
  pb := fun _ h => h
  pnew := fun _ h => .inl h
  frz := fun _ _ h => h
  new := fun _ _ h => .inl h
theorem ext_frz (ok : OkG G H) (hp : H p = none) (o : HO) : Ext G H ⟨upd G.F p o, G.pb, G.T⟩ (upd H p o) where
  ok := by
    refine ⟨fun b u e => ?_, fun q e => ⟨((ok.bag q e).1.upd hp).go (fun _ z => z) (upd_mono (ok.nF hp)), ?_⟩, tabs_new ok.tabs hp⟩
    · by_cases h : b = p
      · subst h
        have e : upd G.F b o b = some u := e
        rw [upd_same] at e
        rw [upd_same]
        exact e
      · have e : upd G.F p o b = some u := e
        rw [upd_ne h] at e
        rw [upd_ne h]
        exact ok.sub b u e
    · show upd G.F p o q = none
      rw [upd_ne (fun z => ok.npb hp (by rw [← z]; exact e))]
      exact (ok.bag q e).2
  same := fun b u e _ _ => by rw [upd_ne (ne_of_none e hp)]; exact e
  tbl := fun b ps e => ⟨ps, by rw [upd_ne (ne_of_none e hp)]; exact e⟩
  tt := rfl
  pb := fun _ h => h
  pnew := fun _ h => .inl h
  frz := upd_mono (ok.nF hp)
  new := fun b u h => by
    by_cases z : b = p
    · subst z; exact .inr hp
    · have h : upd G.F p o b = some u := h
      rw [upd_ne z] at h
      exact .inl h
theorem ext_freeze (E : Ext Gs Hs G H) (hs : Hs a = none) (ha : H a = some o) (hF : G.F a = none) (hb : G.pb ≠ some a) : Ext Gs Hs ⟨upd G.F a o, G.pb, G.T⟩ H where
  ok := by
    refine ⟨fun b u e => ?_, fun q e => ⟨(E.ok.bag q e).1.go (fun _ z => z) (upd_mono hF), ?_⟩, by show LamX.Tabs G.T H; exact E.ok.tabs⟩
    · by_cases h : b = a
      · subst h
        have e : upd G.F b o b = some u := e
        rw [upd_same] at e
        rw [ha]
        exact e
      · have e : upd G.F a o b = some u := e
        rw [upd_ne h] at e
        exact E.ok.sub b u e
    · show upd G.F a o q = none
      rw [upd_ne (fun z => hb (by rw [← z]; exact e))]
      exact (E.ok.bag q e).2
  same := E.same
  tbl := E.tbl
  tt := E.tt
  pb := E.pb
  pnew := E.pnew
  frz := fun b u h => upd_mono hF b u (E.frz b u h)
  new := fun b u h => by
    by_cases z : b = a
    · subst z; exact .inr hs
    · have h : upd G.F a o b = some u := h
      rw [upd_ne z] at h
      exact E.new b u h
theorem kq_lst (k : KQ H0 G H Qs Q) (ok : OkG G H) (hp : H p = none) (r : reps G.F ds vs) (q : Qs (.own (.lst ds))) : Q (.ref p) (upd H p (.lst vs)) :=
  k _ _ G (.own (.lst ds)) (ext_new ok hp _) ⟨p, rfl, hp, ok.nF hp, ok.npb hp, vs, upd_same, r⟩ q
theorem kq_tup (k : KQ H0 G H Qs Q) (ok : OkG G H) (hp : H p = none) (r : reps G.F ds vs) (q : Qs (.tr (.tup ds))) : Q (.ref p) (upd H p (.tup vs)) :=
  k _ _ ⟨upd G.F p (.tup vs), G.pb, G.T⟩ (.tr (.tup ds)) (ext_frz ok hp _) ⟨p, vs, rfl, .inl upd_same, reps.mono (upd_mono (ok.nF hp)) _ _ r⟩ q
theorem kq_dic {ds : List (Key × D)} {vs : List (Key × V)} (k : KQ H0 G H Qs Q) (ok : OkG G H) (hp : H p = none) (r : repk G.F ds vs) (q : Qs (.own (.dic ds))) : Q (.ref p) (upd H p (.dK vs)) :=
  k _ _ G (.own (.dic ds)) (ext_new ok hp _) ⟨p, rfl, hp, ok.nF hp, ok.npb hp, vs, upd_same, r⟩ q
theorem kq_tr (k : KQ H0 G H Qs Q) (ok : OkG G H) (r : rep G.F d v) (q : Qs (.tr d)) : Q v H := k _ _ G (.tr d) (.refl ok) r q
end

/-! ### what stands behind a held value -/
section
variable {H0 Hs H : Hp} {G : Gh} {v : V} {sv : SV} {ds : List D}
theorem RepV.lst (r : RepV H0 Hs G H v sv) (ok : OkG G H) (e : sv.d = .lst ds) : ∃ a vs, v = .ref a ∧ H a = some (.lst vs) ∧ reps G.F ds vs := by
  cases sv with
  | tr d => cases e; obtain ⟨a, vs, e1, e2, r⟩ := r; exact ⟨a, vs, e1, ok.sub _ _ e2, r⟩
  | own d => cases e; obtain ⟨a, e1, _, _, _, vs, e2, r⟩ := r; exact ⟨a, vs, e1, e2, r⟩
  | brw d => cases e; obtain ⟨a, e1, _, _, vs, e2, r⟩ := r; exact ⟨a, vs, e1, e2, r⟩
  | pk d => cases e; obtain ⟨a, e1, _, vs, e2, r⟩ := r; exact ⟨a, vs, e1, e2, r⟩
  | bag | obj _ _ _ | pob _ _ | bob _ _ | exc _ _ _ _ | tz _ => cases e
theorem RepV.dic {ds : List (Key × D)} (r : RepV H0 Hs G H v sv) (ok : OkG G H) (e : sv.d = .dic ds) : ∃ a vs, v = .ref a ∧ H a = some (.dK vs) ∧ repk G.F ds vs := by
  cases sv with
  | tr d => cases e; obtain ⟨a, vs, e1, e2, r⟩ := r; exact ⟨a, vs, e1, ok.sub _ _ e2, r⟩
  | own d => cases e; obtain ⟨a, e1, _, _, _, vs, e2, r⟩ := r; exact ⟨a, vs, e1, e2, r⟩
  | brw d => cases e; obtain ⟨a, e1, _, _, vs, e2, r⟩ := r; exact ⟨a, vs, e1, e2, r⟩
  | pk d => cases e; obtain ⟨a, e1, _, vs, e2, r⟩ := r; exact ⟨a, vs, e1, e2, r⟩
  | bag | obj _ _ _ | pob _ _ | bob _ _ | exc _ _ _ _ | tz _ => cases e
theorem RepV.dit {ds : List (List Key × D)} (r : RepV H0 Hs G H v sv) (ok : OkG G H) (e : sv.d = .dit ds) : ∃ a vs, v = .ref a ∧ H a = some (.dT vs) ∧ rept G.F ds vs := by
  cases sv with
  | tr d => cases e; obtain ⟨a, vs, e1, e2, r⟩ := r; exact ⟨a, vs, e1, ok.sub _ _ e2, r⟩
  | own d => cases e; obtain ⟨a, e1, _, _, _, vs, e2, r⟩ := r; exact ⟨a, vs, e1, e2, r⟩
  | brw d => cases e; obtain ⟨a, e1, _, _, vs, e2, r⟩ := r; exact ⟨a, vs, e1, e2, r⟩
  | pk d => cases e; obtain ⟨a, e1, _, vs, e2, r⟩ := r; exact ⟨a, vs, e1, e2, r⟩
  | bag | obj _ _ _ | pob _ _ | bob _ _ | exc _ _ _ _ | tz _ => cases e
/-- whatever is no list and no dict is a tree -/
theorem RepV.tree {d : D} (r : RepV H0 Hs G H v sv) (e : sv.d = d) (h : ∀ F K a, ¬ cont F K a d) (ho : d ≠ .opq) : rep G.F d v := by
  cases sv with
  | tr d => cases e; exact r
  | own d => cases e; obtain ⟨a, e1, _, _, _, c⟩ := r; exact (h _ _ _ c).elim
  | brw d => cases e; obtain ⟨a, e1, _, _, c⟩ := r; exact (h _ _ _ c).elim
  | pk d => cases e; obtain ⟨a, e1, _, c⟩ := r; exact (h _ _ _ c).elim
  | tz ds => cases e; obtain ⟨a, o, vs, e1, _, e2, r⟩ := r; exact ⟨a, vs, e1, .inr ⟨o, e2⟩, r⟩
  | bag | obj _ _ _ | pob _ _ | bob _ _ | exc _ _ _ _ => exact (ho e.symm).elim
theorem RepV.tup (r : RepV H0 Hs G H v sv) (ok : OkG G H) (e : sv.d = .tup ds) : ∃ a vs, v = .ref a ∧ Rd H a (.tup vs) ∧ reps G.F ds vs := by
  obtain ⟨a, vs, e1, e2, q⟩ := r.tree e (fun _ _ _ z => z) (fun z => nomatch z)
  exact ⟨a, vs, e1, e2.imp (ok.sub _ _) fun ⟨o, e⟩ => ⟨o, ok.sub _ _ e⟩, q⟩
theorem RepV.int {i : Int} (r : RepV H0 Hs G H v sv) (e : sv.d = .int i) : v = .int i := r.tree e (fun _ _ _ z => z) (fun z => nomatch z)
theorem RepV.bl {i : Bool} (r : RepV H0 Hs G H v sv) (e : sv.d = .bl i) : v = .bl i := r.tree e (fun _ _ _ z => z) (fun z => nomatch z)
theorem RepV.non (r : RepV H0 Hs G H v sv) (e : sv.d = .non) : v = .non := r.tree e (fun _ _ _ z => z) (fun z => nomatch z)
theorem RepV.str {x : Str} (r : RepV H0 Hs G H v sv) (e : sv.d = .str x) : v = .str x ∧ okS x := r.tree e (fun _ _ _ z => z) (fun z => nomatch z)
end

/-! ### texts are texts -/
theorem strOk_append {x y : Str} (h : PyData.strOk x = true) (k : PyData.strOk y = true) : PyData.strOk (x ++ y) = true := by
  obtain ⟨x⟩ := x
  obtain ⟨y⟩ := y
  show (x ++ y).all (· < 0x110000) = true
  have h : x.all (· < 0x110000) = true := h
  have k : y.all (· < 0x110000) = true := k
  rw [Array.all_append, h, k]
  rfl

theorem length_append (x y : Str) : (x ++ y).length = x.length + y.length := by
  obtain ⟨x⟩ := x
  obtain ⟨y⟩ := y
  exact Array.size_append

/-! ### + -/
def gAdd : D → D → (SV → Prop) → Prop
  | .int i, .int j, Q => Q (.tr (.int (i + j)))
  | .str x, .str y, Q => x.length + y.length ≤ sizeLine ∧ Q (.tr (.str (x ++ y)))
  | .lst xs, .lst ys, Q => xs.length + ys.length ≤ sizeLine ∧ Q (.own (.lst (xs ++ ys)))
  | .tup xs, .tup ys, Q => xs.length + ys.length ≤ sizeLine ∧ Q (.tr (.tup (xs ++ ys)))
  | _, _, _ => False
section
variable {X : Cx} {EX : EXT}
theorem ow_add : OpW X (binaryOp .Add) gAdd := by
  intro H0 Ha Hb G H x y sx sy Qs Q ok rx ry q k
  unfold gAdd at q
  split at q
  · rename_i i j hx hy
    cases rx.int hx
    cases ry.int hy
    exact ⟨_, op_add, i, j, rfl, rfl, kq_tr (d := .int (i + j)) k ok rfl q⟩
  · rename_i i j hx hy
    obtain ⟨rfl, o1⟩ := rx.str hx
    obtain ⟨rfl, o2⟩ := ry.str hy
    exact ⟨_, op_add_str, i, j, rfl, rfl, q.1, kq_tr (d := .str (i ++ j)) k ok ⟨rfl, strOk_append o1.1 o2.1, by rw [length_append]; exact q.1⟩ q.2⟩
  · rename_i xs ys hx hy
    obtain ⟨a, vs, rfl, ea, r1⟩ := rx.lst ok hx
    obtain ⟨b, ws, rfl, eb, r2⟩ := ry.lst ok hy
    exact ⟨_, op_cat, a, b, vs, ws, rfl, rfl, ea, eb, by rw [r1.length, r2.length]; exact q.1, fun p hp => kq_lst k ok hp (r1.append r2) q.2⟩
  · rename_i xs ys hx hy
    have t1 := rx.tree hx (fun _ _ _ z => z) (fun z => nomatch z)
    have t2 := ry.tree hy (fun _ _ _ z => z) (fun z => nomatch z)
    obtain ⟨a, vs, rfl, ea, r1⟩ := rx.tup ok hx
    obtain ⟨b, ws, rfl, eb, r2⟩ := ry.tup ok hy
    refine ⟨_, op_catA, a, b, vs, ws, rfl, rfl, .inl ea, .inl eb, by rw [r1.length, r2.length]; exact q.1, fun z => ?_, fun _ z => ?_, fun _ _ p hp => kq_tup k ok hp (r1.append r2) q.2⟩
    · have e : xs = [] := List.eq_nil_of_length_eq_zero (by rw [← r1.length, z]; rfl)
      subst e
      exact kq_tr k ok t2 q.2
    · have e : ys = [] := List.eq_nil_of_length_eq_zero (by rw [← r2.length, z]; rfl)
      subst e
      rw [List.append_nil] at q
      exact kq_tr k ok t1 q.2
  · exact q.elim
/-! ### numbers -/
def gI (C : Int → Int → Prop) (f : Int → Int → D) : D → D → (SV → Prop) → Prop
  | .int i, .int j, Q => C i j ∧ Q (.tr (f i j))
  | _, _, _ => False
theorem ow_I {f : Value → Value → Sem Value} {C C' : Int → Int → Prop} {g : Int → Int → V} {d : Int → Int → D} (h : OpR X f (rI C g)) (hc : ∀ i j, C' i j → C i j) (hd : ∀ F i j, C' i j → rep F (d i j) (g i j)) : OpW X f (gI C' d) := by
  intro H0 Ha Hb G H x y sx sy Qs Q ok rx ry q k
  unfold gI at q
  split at q
  · rename_i i j hx hy
    cases rx.int hx
    cases ry.int hy
    exact ⟨_, h, i, j, rfl, rfl, hc i j q.1, kq_tr k ok (hd _ i j q.1) q.2⟩
  · exact q.elim
theorem ow_I0 {f : Value → Value → Sem Value} {g : Int → Int → V} {d : Int → Int → D} (h : OpR X f (rI0 g)) (hd : ∀ F i j, rep F (d i j) (g i j)) : OpW X f (gI (fun _ _ => True) d) := by
  intro H0 Ha Hb G H x y sx sy Qs Q ok rx ry q k
  unfold gI at q
  split at q
  · rename_i i j hx hy
    cases rx.int hx
    cases ry.int hy
    exact ⟨_, h, i, j, rfl, rfl, kq_tr k ok (hd _ i j) q.2⟩
  · exact q.elim
abbrev gSub := gI (fun _ _ => True) fun i j => .int (i - j)
theorem ow_sub : OpW X (binaryOp .Sub) gSub := ow_I0 op_sub fun _ _ _ => rfl
abbrev gDiv := gI CDivW fun i j => .int (i / j)
theorem ow_div : OpW X (binaryOp .FloorDiv) gDiv := ow_I op_fdivW (fun _ _ h => h) fun _ _ _ _ => rfl
abbrev gMod := gI (fun _ j => 0 < j) fun i j => .int (i % j)
theorem ow_mod : OpW X (binaryOp .Mod) gMod := ow_I op_mod (fun _ _ h => h) fun _ _ _ _ => rfl
abbrev gPow := gI CPow fun i j => .int (i ^ j.toNat)
theorem ow_pow : OpW X (binaryOp .Pow) gPow := ow_I op_pow (fun _ _ h => h) fun _ _ _ _ => rfl
abbrev gLt := gI (fun _ _ => True) fun i j => .bl (decide (i < j))
abbrev gLe := gI (fun _ _ => True) fun i j => .bl (decide (i ≤ j))
abbrev gGt := gI (fun _ _ => True) fun i j => .bl (decide (j < i))
abbrev gGe := gI (fun _ _ => True) fun i j => .bl (decide (j ≤ i))
theorem ow_lt : OpW X (compareOp .Lt) gLt := ow_I0 op_lt fun _ _ _ => rfl
theorem ow_le : OpW X (compareOp .LtE) gLe := ow_I0 op_le fun _ _ _ => rfl
theorem ow_gt : OpW X (compareOp .Gt) gGt := ow_I0 op_gt fun _ _ _ => rfl
theorem ow_ge : OpW X (compareOp .GtE) gGe := ow_I0 op_ge fun _ _ _ => rfl
/-- a list as often -/
def repL {α : Type} (xs : List α) : Nat → List α
  | 0 => []
  | n + 1 => xs ++ repL xs n
end
end VT

namespace VT
open PySem PySem.Spec PyProof.Rows L2

/-! ### data as data: ==, in -/
mutual
/-- no dict, no object -/
def D.dat : D → Bool
  | .non | .bl _ | .int _ | .str _ => true
  | .lst xs | .tup xs => dats xs
  | _ => false
def dats : List D → Bool
  | [] => true
  | x :: xs => x.dat && dats xs
end
mutual
def D.dep : D → Nat
  | .lst xs | .tup xs => deps xs + 1
  | _ => 0
def deps : List D → Nat
  | [] => 0
  | x :: xs => max x.dep (deps xs)
end
mutual
def deq : D → D → Bool
  | .non, .non => true
  | .bl a, .bl b => a == b
  | .bl a, .int j => (if a then 1 else 0) == j
  | .int i, .bl b => i == (if b then 1 else 0)
  | .int i, .int j => i == j
  | .str x, .str y => x == y
  | .lst xs, .lst ys => deqs xs ys
  | .tup xs, .tup ys => deqs xs ys
  | _, _ => false
def deqs : List D → List D → Bool
  | [], [] => true
  | x :: xs, y :: ys => deq x y && deqs xs ys
  | _, _ => false
end
mutual
def toPy : D → PyData
  | .non => .none
  | .bl b => .bool b
  | .int i => .int i
  | .str x => .str x
  | .lst xs => .list (toPys xs)
  | .tup xs => .tuple (toPys xs)
  | _ => .none
def toPys : List D → List PyData
  | [] => []
  | x :: xs => toPy x :: toPys xs
end
mutual
theorem dep_py : ∀ d : D, (toPy d).depth = d.dep
  | .lst xs => by simp only [toPy, PyData.depth, D.dep, dep_pys xs]
  | .tup xs => by simp only [toPy, PyData.depth, D.dep, dep_pys xs]
  | .non | .bl _ | .int _ | .str _ => by simp only [toPy, PyData.depth, D.dep]
  | .dic _ | .dit _ | .ins _ _ | .exn _ _ | .opq => by simp only [toPy, PyData.depth, PyData.depthKv, D.dep]
theorem dep_pys : ∀ ds : List D, PyData.depthAll (toPys ds) = deps ds
  | [] => by simp only [toPys, PyData.depthAll, deps]
  | d :: ds => by simp only [toPys, PyData.depthAll, deps, dep_py d, dep_pys ds]
end
mutual
theorem eqv_py : ∀ d e : D, d.dat = true → e.dat = true → PyData.eqv (toPy d) (toPy e) = deq d e
  | .lst xs, .lst ys, h, k => by simp only [toPy, PyData.eqv, deq]; exact eqv_pys xs ys h k
  | .tup xs, .tup ys, h, k => by simp only [toPy, PyData.eqv, deq]; exact eqv_pys xs ys h k
  | .non, .non, _, _ | .non, .bl _, _, _ | .non, .int _, _, _ | .non, .str _, _, _ | .non, .lst _, _, _ | .non, .tup _, _, _ => by simp only [toPy, PyData.eqv, deq]
  | .bl _, .non, _, _ | .bl _, .bl _, _, _ | .bl _, .int _, _, _ | .bl _, .str _, _, _ | .bl _, .lst _, _, _ | .bl _, .tup _, _, _ => by simp only [toPy, PyData.eqv, deq]
  | .int _, .non, _, _ | .int _, .bl _, _, _ | .int _, .int _, _, _ | .int _, .str _, _, _ | .int _, .lst _, _, _ | .int _, .tup _, _, _ => by simp only [toPy, PyData.eqv, deq]
  | .str _, .non, _, _ | .str _, .bl _, _, _ | .str _, .int _, _, _ | .str _, .str _, _, _ | .str _, .lst _, _, _ | .str _, .tup _, _, _ => by simp only [toPy, PyData.eqv, deq]
  | .lst _, .non, _, _ | .lst _, .bl _, _, _ | .lst _, .int _, _, _ | .lst _, .str _, _, _ | .lst _, .tup _, _, _ => by simp only [toPy, PyData.eqv, deq]
  | .tup _, .non, _, _ | .tup _, .bl _, _, _ | .tup _, .int _, _, _ | .tup _, .str _, _, _ | .tup _, .lst _, _, _ => by simp only [toPy, PyData.eqv, deq]
  | .dic _, _, h, _ | .dit _, _, h, _ | .ins _ _, _, h, _ | .exn _ _, _, h, _ | .opq, _, h, _ => by simp [D.dat] at h
  | _, .dic _, _, h | _, .dit _, _, h | _, .ins _ _, _, h | _, .exn _ _, _, h | _, .opq, _, h => by simp [D.dat] at h
theorem eqv_pys : ∀ ds es : List D, dats ds = true → dats es = true → PyData.eqvAll (toPys ds) (toPys es) = deqs ds es
  | [], [], _, _ => by simp only [toPys, PyData.eqvAll, deqs]
  | [], _ :: _, _, _ => by simp only [toPys, PyData.eqvAll, deqs]
  | _ :: _, [], _, _ => by simp only [toPys, PyData.eqvAll, deqs]
  | d :: ds, e :: es, h, k => by
    rw [dats, Bool.and_eq_true] at h k
    simp only [toPys, PyData.eqvAll, deqs]
    rw [eqv_py d e h.1 k.1, eqv_pys ds es h.2 k.2]
end
section
variable {K : PySem.W.Frag} {F H : Hp}
mutual
theorem rep_dp (hF : ∀ b o, F b = some o → H b = some o) : ∀ (d : D) (v : V), d.dat = true → rep F d v → Dp K H v (toPy d) ∧ (toPy d).canLay0 = true
  | .non, _, _, r => by rw [show _ = _ from r]; exact ⟨.non, rfl⟩
  | .bl _, _, _, r => by rw [show _ = _ from r]; exact ⟨.bl _, rfl⟩
  | .int _, _, _, r => by rw [show _ = _ from r]; exact ⟨.int _, rfl⟩
  | .str _, _, _, r => by rw [show _ = _ from r.1]; exact ⟨.str _, r.2.1⟩
  | .lst ds, _, h, ⟨a, vs, e, q, r⟩ => by
    obtain ⟨h1, h2⟩ := reps_dp hF ds vs h r
    rw [e]
    exact ⟨.lst (SqL.of (hF _ _ q)) h1, h2⟩
  | .tup ds, _, h, ⟨a, vs, e, q, r⟩ => by
    obtain ⟨h1, h2⟩ := reps_dp hF ds vs h r
    rw [e]
    exact ⟨.tup (Or.inl (q.imp (hF _ _) fun ⟨o, e⟩ => ⟨o, hF _ _ e⟩)) h1, h2⟩
  | .dic _, _, h, _ | .dit _, _, h, _ | .ins _ _, _, h, _ | .exn _ _, _, h, _ | .opq, _, h, _ => by simp [D.dat] at h
theorem reps_dp (hF : ∀ b o, F b = some o → H b = some o) : ∀ (ds : List D) (vs : List V), dats ds = true → reps F ds vs → DpAll K H vs (toPys ds) ∧ PyData.canLayAll0 (toPys ds) = true
  | [], _, _, r => by rw [show _ = _ from r]; exact ⟨.nil, rfl⟩
  | d :: ds, _, h, ⟨v, r, e, q, z⟩ => by
    rw [dats, Bool.and_eq_true] at h
    obtain ⟨h1, h2⟩ := rep_dp hF d v h.1 q
    obtain ⟨h3, h4⟩ := reps_dp hF ds r h.2 z
    rw [e]
    refine ⟨.cons h1 h3, ?_⟩
    rw [toPys, PyData.canLayAll0, h2, h4]
    rfl
end
end
section
variable {X : Cx} {EX : EXT} {H0 Hs H : Hp} {G : Gh} {v : V} {sv : SV}
theorem RepV.dp {K : PySem.W.Frag} (r : RepV H0 Hs G H v sv) (ok : OkG G H) (h : sv.d.dat = true) : Dp K H v (toPy sv.d) ∧ (toPy sv.d).canLay0 = true := by
  have top : ∀ (d : D) (a : Addr), d.dat = true → cont G.F H a d → Dp K H (.ref a) (toPy d) ∧ (toPy d).canLay0 = true := fun d a h c => by
    cases d with
    | lst ds =>
      obtain ⟨vs, e, r⟩ := c
      obtain ⟨h1, h2⟩ := reps_dp ok.sub ds vs h r
      exact ⟨.lst (SqL.of e) h1, h2⟩
    | dic _ => simp [D.dat] at h
    | dit _ => simp [D.dat] at h
    | _ => exact c.elim
  cases sv with
  | tr d => exact rep_dp ok.sub d v h r
  | own d => obtain ⟨a, e, _, _, _, c⟩ := r; rw [e]; exact top d a h c
  | brw d => obtain ⟨a, e, _, _, c⟩ := r; rw [e]; exact top d a h c
  | pk d => obtain ⟨a, e, _, c⟩ := r; rw [e]; exact top d a h c
  | tz ds => exact rep_dp ok.sub (.tup ds) v h (let ⟨a, o, vs, e1, _, e2, r⟩ := r; ⟨a, vs, e1, .inr ⟨o, e2⟩, r⟩)
  | bag | obj _ _ _ | pob _ _ | bob _ _ | exc _ _ _ _ => simp [SV.d, D.dat] at h
@[simp] def gEq (neg : Bool) (x y : D) (Q : SV → Prop) : Prop := x.dat = true ∧ y.dat = true ∧ x.dep ≤ 64 ∧ y.dep ≤ 64 ∧ Q (.tr (.bl (if neg then !deq x y else deq x y)))
theorem shaped_of {d : D} (h : (toPy d).canLay0 = true) (k : d.dep ≤ 64) : SeqAt.shaped (toPy d) = true := by
  unfold SeqAt.shaped
  rw [h, dep_py]
  simpa using k
theorem ow_eq (hu : X.A.units + 64 < cLine) : OpW X (compareOp .Eq) (gEq false) := by
  intro H0 Ha Hb G H x y sx sy Qs Q ok rx ry ⟨d1, d2, h1, h2, q⟩ k
  obtain ⟨p1, l1⟩ := rx.dp (K := X.K) ok d1
  obtain ⟨p2, l2⟩ := ry.dp (K := X.K) ok d2
  refine ⟨_, op_eqD hu, _, _, p1, p2, shaped_of l1 h1, shaped_of l2 h2, ?_⟩
  rw [eqv_py _ _ d1 d2]
  exact kq_tr (d := .bl _) k ok rfl q
theorem ow_ne (hu : X.A.units + 64 < cLine) : OpW X (compareOp .NotEq) (gEq true) := by
  intro H0 Ha Hb G H x y sx sy Qs Q ok rx ry ⟨d1, d2, h1, h2, q⟩ k
  obtain ⟨p1, l1⟩ := rx.dp (K := X.K) ok d1
  obtain ⟨p2, l2⟩ := ry.dp (K := X.K) ok d2
  refine ⟨_, op_neD hu, _, _, p1, p2, shaped_of l1 h1, shaped_of l2 h2, ?_⟩
  rw [eqv_py _ _ d1 d2]
  exact kq_tr (d := .bl _) k ok rfl q
/-- x is None -/
def D.isNon : D → Bool
  | .non => true
  | _ => false
@[simp] def gIsN (neg : Bool) (x y : D) (Q : SV → Prop) : Prop := x ≠ .opq ∧ y = .non ∧ Q (.tr (.bl (if neg then !x.isNon else x.isNon)))
theorem RepV.isN (r : RepV H0 Hs G H v sv) (h : sv.d ≠ .opq) : decide (v = .non) = sv.d.isNon := by
  have top : ∀ (d : D) (a : Addr), cont G.F H a d → decide (V.ref a = .non) = d.isNon := fun d a c => by
    cases d <;> first | exact c.elim | rfl
  cases sv with
  | tr d =>
    show _ = d.isNon
    cases d with
    | non => rw [show v = .non from r]; rfl
    | bl _ => rw [show v = _ from r]; rfl
    | int _ => rw [show v = _ from r]; rfl
    | str _ => rw [show v = _ from r.1]; rfl
    | lst _ => obtain ⟨a, _, e, _⟩ := r; rw [e]; rfl
    | tup _ => obtain ⟨a, _, e, _⟩ := r; rw [e]; rfl
    | dic _ => obtain ⟨a, _, e, _⟩ := r; rw [e]; rfl
    | dit _ => obtain ⟨a, _, e, _⟩ := r; rw [e]; rfl
    | ins _ _ => obtain ⟨a, _, _, e, _⟩ := r; rw [e]; rfl
    | exn _ _ => obtain ⟨a, _, _, _, e, _⟩ := r; rw [e]; rfl
    | opq => exact (h rfl).elim
  | own d => obtain ⟨a, e, _, _, _, c⟩ := r; rw [e]; exact top d a c
  | brw d => obtain ⟨a, e, _, _, c⟩ := r; rw [e]; exact top d a c
  | pk d => obtain ⟨a, e, _, c⟩ := r; rw [e]; exact top d a c
  | tz ds => obtain ⟨a, o, vs, e, _⟩ := r; rw [e]; rfl
  | bag | obj _ _ _ | pob _ _ | bob _ _ | exc _ _ _ _ => exact (h rfl).elim
theorem ow_is : OpW X (compareOp .Is) (gIsN false) := by
  intro H0 Ha Hb G H x y sx sy Qs Q ok rx ry ⟨h1, h2, q⟩ k
  refine ⟨_, op_isN, ry.non h2, ?_⟩
  rw [rx.isN h1]
  exact kq_tr (d := .bl _) k ok rfl q
theorem ow_isnot : OpW X (compareOp .IsNot) (gIsN true) := by
  intro H0 Ha Hb G H x y sx sy Qs Q ok rx ry ⟨h1, h2, q⟩ k
  refine ⟨_, op_notN, ry.non h2, ?_⟩
  rw [rx.isN h1]
  exact kq_tr (d := .bl _) k ok rfl q
/-- is True, is False -/
def gIsB (neg : Bool) : D → D → (SV → Prop) → Prop
  | .bl a, .bl b, Q => Q (.tr (.bl (if neg then !decide (a = b) else decide (a = b))))
  | _, _, _ => False
theorem ow_isB : OpW X (compareOp .Is) (gIsB false) := by
  intro H0 Ha Hb G H x y sx sy Qs Q ok rx ry q k
  unfold gIsB at q
  split at q
  · rename_i a b hx hy
    exact ⟨_, op_isBl, a, b, rx.bl hx, ry.bl hy, kq_tr (d := .bl _) k ok rfl q⟩
  · exact q.elim
theorem ow_isnotB : OpW X (compareOp .IsNot) (gIsB true) := by
  intro H0 Ha Hb G H x y sx sy Qs Q ok rx ry q k
  unfold gIsB at q
  split at q
  · rename_i a b hx hy
    exact ⟨_, op_notBl, a, b, rx.bl hx, ry.bl hy, kq_tr (d := .bl _) k ok rfl q⟩
  · exact q.elim
/-! ### in -/
/-- a flat value -/
def D.flat : D → Bool
  | .non | .bl _ | .int _ | .str _ => true
  | _ => false
/-- one sign in a text: the sign's code -/
def sign? (x : Str) : Option Nat := match x.cps.toList with
  | [c] => some c
  | _ => none
/-- x in y -/
def gIn (neg : Bool) (x y : D) (Q : SV → Prop) : Prop := match y with
  | .lst ys => x.dat = true ∧ dats ys = true ∧ x.dep ≤ 60 ∧ deps ys ≤ 60 ∧ Q (.tr (.bl (if neg then !ys.any (fun z => deq z x) else ys.any fun z => deq z x)))
  | .tup ys => x.flat = true ∧ ys.all D.flat = true ∧ Q (.tr (.bl (if neg then !ys.any (fun z => deq z x) else ys.any fun z => deq z x)))
  | .str z => ∃ s, x = .str s ∧ match sign? s with
    | some c => Q (.tr (.bl (if neg then !decide (c ∈ z.cps.toList) else decide (c ∈ z.cps.toList))))
    | none => Q (.tr (.bl (if neg then !!(Builtin.Str.occurrences z s 0 z.length 1).isEmpty else !(Builtin.Str.occurrences z s 0 z.length 1).isEmpty)))
  | _ => False
theorem flat_V {F : Hp} : ∀ {d : D} {v : V}, d.flat = true → rep F d v → flatV v = true
  | .non, _, _, r => by rw [show _ = _ from r]; rfl
  | .bl _, _, _, r => by rw [show _ = _ from r]; rfl
  | .int _, _, _, r => by rw [show _ = _ from r]; rfl
  | .str _, _, _, r => by rw [show _ = _ from r.1]; rfl
  | .lst _, _, h, _ | .tup _, _, h, _ | .dic _, _, h, _ | .dit _, _, h, _ | .ins _ _, _, h, _ | .exn _ _, _, h, _ | .opq, _, h, _ => by simp [D.flat] at h
theorem flat_eq {F : Hp} {d e : D} {v w : V} (hd : d.flat = true) (he : e.flat = true) (r : rep F d v) (q : rep F e w) : eqV v w = deq d e := by
  cases d <;> first
    | (simp [D.flat] at hd; done)
    | (cases e <;> first
        | (simp [D.flat] at he; done)
        | (first | (have r := r.1; rw [r]) | (have r : _ = _ := r; rw [r])
           first | (have q := q.1; rw [q]) | (have q : _ = _ := q; rw [q])
           simp only [eqV, deq]))
theorem flats_any {F : Hp} {x : D} {v : V} (hx : x.flat = true) (r : rep F x v) : ∀ {ds : List D} {vs : List V}, ds.all D.flat = true → reps F ds vs → inV v vs = (ds.any fun z => deq z x) ∧ vs.all flatV = true
  | [], _, _, q => by rw [show _ = _ from q]; exact ⟨rfl, rfl⟩
  | d :: ds, _, h, ⟨w, t, e, q, z⟩ => by
    rw [List.all_cons, Bool.and_eq_true] at h
    obtain ⟨h1, h2⟩ := flats_any hx r h.2 z
    rw [e]
    constructor
    · show (eqV w v || inV v t) = _
      rw [h1, flat_eq h.1 hx q r, List.any_cons]
    · rw [List.all_cons, flat_V h.1 q, h2]
      rfl
theorem sign_eq {s : Str} {c : Nat} (h : sign? s = some c) : s = ⟨#[c]⟩ := by
  obtain ⟨⟨l⟩⟩ := s
  unfold sign? at h
  match l, h with
  | [c'], h => rw [show c' = c from Option.some.inj h]
theorem toPys_any (x : D) (hx : x.dat = true) : ∀ ds : List D, dats ds = true → ((toPys ds).any fun z => PyData.eqv z (toPy x)) = ds.any fun z => deq z x
  | [], _ => rfl
  | d :: ds, h => by
    rw [dats, Bool.and_eq_true] at h
    rw [toPys, List.any_cons, List.any_cons, eqv_py d x h.1 hx, toPys_any x hx ds h.2]
theorem ow_in (hu : X.A.units + 64 < cLine) (hu' : X.A.units + 65 < cLine) : OpW X (compareOp .In) (gIn false) := by
  intro H0 Ha Hb G H x y sx sy Qs Q ok rx ry q k
  unfold gIn at q
  split at q
  · rename_i ys hy
    obtain ⟨d1, d2, h1, h2, q⟩ := q
    obtain ⟨p1, l1⟩ := rx.dp (K := X.K) ok d1
    have hyd : sy.d.dat = true := by rw [hy]; exact d2
    obtain ⟨p2, l2⟩ := ry.dp (K := X.K) ok hyd
    rw [hy] at p2 l2
    refine ⟨_, op_inD hu', _, _, p1, p2, shaped_of l1 (by omega), shaped_of (d := .lst ys) l2 (by rw [D.dep]; omega), ?_⟩
    rw [toPys_any _ d1 _ d2]
    exact kq_tr (d := .bl _) k ok rfl q
  · rename_i ys hy
    obtain ⟨d1, d2, q⟩ := q
    have t1 := rx.tree rfl (fun F K a c => by cases hh : sx.d <;> first | (rw [hh] at c; exact c) | (rw [hh] at d1; simp [D.flat] at d1)) (fun z => by rw [z] at d1; simp [D.flat] at d1)
    obtain ⟨a, vs, rfl, ea, r⟩ := ry.tup ok hy
    obtain ⟨e1, e2⟩ := flats_any d1 t1 d2 r
    refine ⟨_, op_in_seq, a, vs, rfl, .inr (.inl ea), flat_V d1 t1, e2, ?_⟩
    rw [e1]
    exact kq_tr (d := .bl _) k ok rfl q
  · rename_i z hz
    obtain ⟨s, hs, q⟩ := q
    obtain ⟨rfl, _⟩ := rx.str hs
    obtain ⟨rfl, _⟩ := ry.str hz
    split at q
    · rename_i c hc
      have e := sign_eq hc
      subst e
      exact ⟨_, op_in_sign, c, z, rfl, rfl, kq_tr (d := .bl _) k ok rfl q⟩
    · exact ⟨_, op_in_str, s, z, rfl, rfl, kq_tr (d := .bl _) k ok rfl q⟩
  · exact q.elim
theorem ow_notin (hu : X.A.units + 64 < cLine) (hu' : X.A.units + 65 < cLine) : OpW X (compareOp .NotIn) (gIn true) := by
  intro H0 Ha Hb G H x y sx sy Qs Q ok rx ry q k
  unfold gIn at q
  split at q
  · rename_i ys hy
    obtain ⟨d1, d2, h1, h2, q⟩ := q
    obtain ⟨p1, l1⟩ := rx.dp (K := X.K) ok d1
    have hyd : sy.d.dat = true := by rw [hy]; exact d2
    obtain ⟨p2, l2⟩ := ry.dp (K := X.K) ok hyd
    rw [hy] at p2 l2
    refine ⟨_, op_notInD hu', _, _, p1, p2, shaped_of l1 (by omega), shaped_of (d := .lst ys) l2 (by rw [D.dep]; omega), ?_⟩
    rw [toPys_any _ d1 _ d2]
    exact kq_tr (d := .bl _) k ok rfl q
  · rename_i ys hy
    obtain ⟨d1, d2, q⟩ := q
    have t1 := rx.tree rfl (fun F K a c => by cases hh : sx.d <;> first | (rw [hh] at c; exact c) | (rw [hh] at d1; simp [D.flat] at d1)) (fun z => by rw [z] at d1; simp [D.flat] at d1)
    obtain ⟨a, vs, rfl, ea, r⟩ := ry.tup ok hy
    obtain ⟨e1, e2⟩ := flats_any d1 t1 d2 r
    refine ⟨_, op_notIn_seq, a, vs, rfl, .inr (.inl ea), flat_V d1 t1, e2, ?_⟩
    rw [e1]
    exact kq_tr (d := .bl _) k ok rfl q
  · rename_i z hz
    obtain ⟨s, hs, q⟩ := q
    obtain ⟨rfl, _⟩ := rx.str hs
    obtain ⟨rfl, _⟩ := ry.str hz
    split at q
    · rename_i c hc
      have e := sign_eq hc
      subst e
      exact ⟨_, op_notIn_sign, c, z, rfl, rfl, kq_tr (d := .bl _) k ok rfl q⟩
    · exact ⟨_, op_notIn_str, s, z, rfl, rfl, kq_tr (d := .bl _) k ok rfl q⟩
  · exact q.elim
end
end VT

namespace VT
open PySem PySem.Spec PyProof.Rows L2

/-! ### a new object is let go of: it is a tree from now on -/
def SV.let_ : SV → SV
  | .own d => .tr d
  | .tz ds => .tr (.tup ds)
  | sv => sv
@[simp] def gFz (g : GE) : GE := fun S Q => g S fun sv => Q sv.let_
theorem own_freeze {Gs G : Gh} {H0 Hs H : Hp} {v : V} {d : D} (E : Ext Gs Hs G H) (r : RepV H0 Hs G H v (.own d)) : ∃ G', Ext Gs Hs G' H ∧ Ext G H G' H = Ext G H G' H ∧ RepV H0 Hs G' H v (.tr d) ∧ (∀ b o, G.F b = some o → G'.F b = some o) := by
  obtain ⟨a, rfl, h1, h2, h3, c⟩ := r
  cases d with
  | lst ds =>
    obtain ⟨vs, e, r⟩ := c
    exact ⟨_, ext_freeze E h1 e h2 h3, rfl, ⟨a, vs, rfl, upd_same, reps.mono (upd_mono h2) _ _ r⟩, upd_mono h2⟩
  | dic ds =>
    obtain ⟨vs, e, r⟩ := c
    exact ⟨_, ext_freeze E h1 e h2 h3, rfl, ⟨a, vs, rfl, upd_same, repk.mono (upd_mono h2) _ _ r⟩, upd_mono h2⟩
  | dit ds =>
    obtain ⟨vs, e, r⟩ := c
    exact ⟨_, ext_freeze E h1 e h2 h3, rfl, ⟨a, vs, rfl, upd_same, rept.mono (upd_mono h2) _ _ r⟩, upd_mono h2⟩
  | _ => exact c.elim
section
variable {X : Cx} {EX : EXT} {e : Expr} {g : GE}
theorem ve_fz (h : VE X EX e g) : VE X EX e (gFz g) := by
  refine ⟨fun G0 H0 tk => peMono (h.pe G0 H0 tk) fun σ H Q ⟨G, S, Qs, R, q, k⟩ => ?_⟩
  refine ⟨G, S, _, R, q, fun v H1 G1 sv E1 r1 q1 => ?_⟩
  cases sv with
  | own d =>
    obtain ⟨G', E', _, r', _⟩ := own_freeze E1 r1
    exact k v H1 G' (.tr d) E' r' q1
  | tz ds =>
    obtain ⟨a, o, vs, e1, _, e2, r⟩ := r1
    exact k v H1 G1 (.tr (.tup ds)) E1 ⟨a, vs, e1, .inr ⟨o, e2⟩, r⟩ q1
  | _ => exact k v H1 G1 _ E1 r1 q1
end

/-! ### all trees -/
@[simp] def onTrs : List SV → (List D → Prop) → Prop
  | [], P => P []
  | .tr d :: r, P => onTrs r fun ds => P (d :: ds)
  | _ :: _, _ => False
theorem onTrs_of {H0 Hs : Hp} {G : Gh} {H : Hp} : ∀ {svs : List SV} {vs : List V} {P : List D → Prop}, RepL H0 Hs G H vs svs → onTrs svs P → ∃ ds, reps G.F ds vs ∧ P ds
  | [], _, P, .nil, h => ⟨[], rfl, h⟩
  | .tr d :: r, _, P, .cons rv rr _, h => by
    obtain ⟨ds, h1, h2⟩ := onTrs_of rr h
    exact ⟨d :: ds, ⟨_, _, rfl, rv, h1⟩, h2⟩
  | .own _ :: _, _, _, _, h => h.elim
  | .brw _ :: _, _, _, _, h => h.elim
  | .pk _ :: _, _, _, _, h => h.elim
  | .bag :: _, _, _, _, h => h.elim
@[simp] def gTup (ga : GA) : GE := fun S Q => ga S fun svs => onTrs svs fun ds => ds.length ≤ sizeLine ∧ Q (.tr (.tup ds))
@[simp] def gLst (ga : GA) : GE := fun S Q => ga S fun svs => onTrs svs fun ds => ds.length ≤ sizeLine ∧ Q (.own (.lst ds))
section
variable {X : Cx} {EX : EXT} {es : List Expr} {ga : GA} {pos : Pos}
theorem ve_tup {x1} (h : VA X EX es ga) : VE X EX (.Tuple es x1 pos) (gTup ga) := by
  refine ⟨fun G0 H0 tk => peMono (pe_tup (h.pa G0 H0 tk)) fun σ H Q ⟨G, S, Qs, R, q, k⟩ => ?_⟩
  refine ⟨G, S, _, R, q, fun vs H1 G1 svs E1 r1 q1 => ?_⟩
  obtain ⟨ds, r2, hz, q2⟩ := onTrs_of r1 q1
  exact ⟨by rw [r2.length]; exact hz, fun p hp => kq_tup (kq_back E1 k) E1.ok hp r2 q2⟩
theorem ve_lst (h : VA X EX es ga) : VE X EX (.List es pos) (gLst ga) := by
  refine ⟨fun G0 H0 tk => peMono (pe_lst (h.pa G0 H0 tk)) fun σ H Q ⟨G, S, Qs, R, q, k⟩ => ?_⟩
  refine ⟨G, S, _, R, q, fun vs H1 G1 svs E1 r1 q1 => ?_⟩
  obtain ⟨ds, r2, hz, q2⟩ := onTrs_of r1 q1
  exact ⟨by rw [r2.length]; exact hz, fun p hp => kq_lst (kq_back E1 k) E1.ok hp r2 q2⟩
end

/-! ### built-in functions -/
def CallW (X : Cx) (f : Value) (g : List D → (SV → Prop) → Prop) : Prop :=
  ∀ (H0 Hs : Hp) (G : Gh) (H : Hp) (vs : List V) (svs : List SV) (Qs : SV → Prop) (Q : VK), OkG G H → RepL H0 Hs G H vs svs → g (svs.map SV.d) Qs → KQ H0 G H Qs Q → ∃ r, CallR X f r ∧ r vs H Q
@[simp] def gCB (g : List D → (SV → Prop) → Prop) (ga : GA) : GE := fun S Q => ga S fun svs => g (svs.map SV.d) Q
section
variable {X : Cx} {EX : EXT} {x : Str} {p pos : Pos} {e : Expr} {es : List Expr} {ga : GA} {id T : String} {g : List D → (SV → Prop) → Prop}
theorem callr_any {f : Value} : CallR X f (fun vs H Q => ∃ r, CallR X f r ∧ r vs H Q) := fun pins s σ H xs us Q I r ⟨_, h, q⟩ => h pins s σ H xs us Q I r q
theorem gCB_t {f : Value} (hc : CallW X f g) {G0 : Gh} {H0 : Hp} {σ : L2.St} {H : Hp} {Q : VK} (h : TV G0 H0 (gCB g ga) σ H Q) : tCB (fun vs H Q => ∃ r, CallR X f r ∧ r vs H Q) (TAV G0 H0 ga) σ H Q := by
  obtain ⟨G, S, Qs, R, q, k⟩ := h
  refine ⟨G, S, _, R, q, fun vs H1 G1 svs E1 r1 q1 => ?_⟩
  exact hc H0 _ G1 H1 vs svs Qs Q E1.ok r1 q1 (kq_back E1 k)
theorem ve_callB (hc : CallW X (.builtin id) g) (hg : Gl X x) (hm : X.mg x = none) (hv : bootBuiltins x = some (.builtin id)) (ha : VA X EX (e :: es) ga) (hn : x ≠ "__name__" := by decide) (hdb : (x == ("__debug__" : Str)) = false := by decide)
    (he : starEach (e :: es) X.env = (false, eval e X.env) :: starEach es X.env := by rfl) (hpl : (backTo pos (starEach es X.env)).any (·.1) = false := by rfl) : VE X EX (.Call (.Name x p) (e :: es) [] pos) (gCB g ga) :=
  ⟨fun G0 H0 tk => peMono (pe_callB callr_any hg hm hv (ha.pa G0 H0 tk) hn hdb he hpl) fun _ _ _ h => gCB_t hc h⟩
theorem ve_callT (hc : CallW X (.type T) g) (hg : Gl X x) (hm : X.mg x = none) (hv : bootBuiltins x = some (.type T)) (ha : VA X EX (e :: es) ga) (hn : x ≠ "__name__" := by decide) (hdb : (x == ("__debug__" : Str)) = false := by decide)
    (he : starEach (e :: es) X.env = (false, eval e X.env) :: starEach es X.env := by rfl) (hpl : (backTo pos (starEach es X.env)).any (·.1) = false := by rfl) : VE X EX (.Call (.Name x p) (e :: es) [] pos) (gCB g ga) :=
  ⟨fun G0 H0 tk => peMono (pe_callTy callr_any hg hm hv (ha.pa G0 H0 tk) hn hdb he hpl) fun _ _ _ h => gCB_t hc h⟩
end
section
variable {X : Cx} {EX : EXT} {H0 Hs H : Hp} {G : Gh}
theorem repl1 {vs : List V} {svs : List SV} {d : D} (r : RepL H0 Hs G H vs svs) (e : svs.map SV.d = [d]) : ∃ v sv, vs = [v] ∧ svs = [sv] ∧ sv.d = d ∧ RepV H0 Hs G H v sv := by
  cases r with
  | nil => cases e
  | cons rv rr _ =>
    cases rr with
    | nil =>
      simp only [List.map_cons, List.map_nil, List.cons.injEq, and_true] at e
      exact ⟨_, _, rfl, rfl, e, rv⟩
    | cons _ _ _ => simp at e
theorem repl2 {vs : List V} {svs : List SV} {d e : D} (r : RepL H0 Hs G H vs svs) (h : svs.map SV.d = [d, e]) : ∃ v sv w sw, vs = [v, w] ∧ svs = [sv, sw] ∧ sv.d = d ∧ sw.d = e ∧ RepV H0 Hs G H v sv ∧ RepV H0 Hs G H w sw := by
  cases r with
  | nil => cases h
  | cons rv rr _ =>
    cases rr with
    | nil => simp at h
    | cons rw_ rr _ =>
      cases rr with
      | nil =>
        simp only [List.map_cons, List.map_nil, List.cons.injEq, and_true] at h
        exact ⟨_, _, _, _, rfl, rfl, h.1, h.2, rv, rw_⟩
      | cons _ _ _ => simp at h
def gLen : List D → (SV → Prop) → Prop
  | [.lst xs], Q => Q (.tr (.int xs.length))
  | [.tup xs], Q => Q (.tr (.int xs.length))
  | [.str x], Q => Q (.tr (.int x.length))
  | _, _ => False
theorem cw_len : CallW X (.builtin "len") gLen := by
  intro H0 Hs G H vs svs Qs Q ok r q k
  unfold gLen at q
  split at q
  · rename_i xs h
    obtain ⟨v, sv, rfl, rfl, e, rv⟩ := repl1 r h
    obtain ⟨a, ws, rfl, ea, rw_⟩ := rv.lst ok e
    refine ⟨_, call_len_seq, a, ws, rfl, .inl (.of ea), ?_⟩
    rw [rw_.length]
    exact kq_tr (d := .int _) k ok rfl q
  · rename_i xs h
    obtain ⟨v, sv, rfl, rfl, e, rv⟩ := repl1 r h
    obtain ⟨a, ws, rfl, ea, rw_⟩ := rv.tup ok e
    refine ⟨_, call_len_seq, a, ws, rfl, .inr (.inl ea), ?_⟩
    rw [rw_.length]
    exact kq_tr (d := .int _) k ok rfl q
  · rename_i x h
    obtain ⟨v, sv, rfl, rfl, e, rv⟩ := repl1 r h
    obtain ⟨rfl, hx⟩ := rv.str e
    exact ⟨_, call_len_str, x, rfl, hx.2, kq_tr (d := .int _) k ok rfl q⟩
  · exact q.elim
def gAbs : List D → (SV → Prop) → Prop
  | [.int i], Q => Q (.tr (.int (if i < 0 then -i else i)))
  | _, _ => False
theorem cw_abs : CallW X (.builtin "abs") gAbs := by
  intro H0 Hs G H vs svs Qs Q ok r q k
  unfold gAbs at q
  split at q
  · rename_i i h
    obtain ⟨v, sv, rfl, rfl, e, rv⟩ := repl1 r h
    cases rv.int e
    exact ⟨_, call_abs, i, rfl, kq_tr (d := .int _) k ok rfl q⟩
  · exact q.elim
def gInt : List D → (SV → Prop) → Prop
  | [.int i], Q => Q (.tr (.int i))
  | [.bl b], Q => Q (.tr (.int (if b then 1 else 0)))
  | _, _ => False
theorem cw_int : CallW X (.type "int") gInt := by
  intro H0 Hs G H vs svs Qs Q ok r q k
  unfold gInt at q
  split at q
  · rename_i i h
    obtain ⟨v, sv, rfl, rfl, e, rv⟩ := repl1 r h
    cases rv.int e
    exact ⟨_, call_int1, .inl ⟨i, rfl, kq_tr (d := .int _) k ok rfl q⟩⟩
  · rename_i i h
    obtain ⟨v, sv, rfl, rfl, e, rv⟩ := repl1 r h
    cases rv.bl e
    exact ⟨_, call_int1, .inr ⟨i, rfl, kq_tr (d := .int _) k ok rfl q⟩⟩
  · exact q.elim
def gMax : List D → (SV → Prop) → Prop
  | [.int i, .int j], Q => Q (.tr (.int (if j > i then j else i)))
  | _, _ => False
def gMin : List D → (SV → Prop) → Prop
  | [.int i, .int j], Q => Q (.tr (.int (if j < i then j else i)))
  | _, _ => False
theorem cw_max (hc : X.calm = true) : CallW X (.builtin "max") gMax := by
  intro H0 Hs G H vs svs Qs Q ok r q k
  unfold gMax at q
  split at q
  · rename_i i j h
    obtain ⟨v, sv, w, sw, rfl, rfl, e, e2, rv, rw_⟩ := repl2 r h
    cases rv.int e
    cases rw_.int e2
    exact ⟨_, call_max2 hc, i, j, rfl, kq_tr (d := .int _) k ok rfl q⟩
  · exact q.elim
theorem cw_min (hc : X.calm = true) : CallW X (.builtin "min") gMin := by
  intro H0 Hs G H vs svs Qs Q ok r q k
  unfold gMin at q
  split at q
  · rename_i i j h
    obtain ⟨v, sv, w, sw, rfl, rfl, e, e2, rv, rw_⟩ := repl2 r h
    cases rv.int e
    cases rw_.int e2
    exact ⟨_, call_min2 hc, i, j, rfl, kq_tr (d := .int _) k ok rfl q⟩
  · exact q.elim
def gListOf : List D → (SV → Prop) → Prop
  | [.lst xs], Q => Q (.own (.lst xs))
  | [.tup xs], Q => Q (.own (.lst xs))
  | _, _ => False
theorem cw_list : CallW X (.type "list") gListOf := by
  intro H0 Hs G H vs svs Qs Q ok r q k
  unfold gListOf at q
  split at q
  · rename_i xs h
    obtain ⟨v, sv, rfl, rfl, e, rv⟩ := repl1 r h
    obtain ⟨a, ws, rfl, ea, rw_⟩ := rv.lst ok e
    exact ⟨_, call_list_of, a, ws, rfl, .inl (.of ea), fun p hp => kq_lst k ok hp rw_ q⟩
  · rename_i xs h
    obtain ⟨v, sv, rfl, rfl, e, rv⟩ := repl1 r h
    obtain ⟨a, ws, rfl, ea, rw_⟩ := rv.tup ok e
    exact ⟨_, call_list_of, a, ws, rfl, .inr (.inl ea), fun p hp => kq_lst k ok hp rw_ q⟩
  · exact q.elim
def gTupOf : List D → (SV → Prop) → Prop
  | [.lst xs], Q => Q (.tr (.tup xs))
  | [.tup xs], Q => Q (.tr (.tup xs))
  | _, _ => False
theorem cw_tuple : CallW X (.type "tuple") gTupOf := by
  intro H0 Hs G H vs svs Qs Q ok r q k
  unfold gTupOf at q
  split at q
  · rename_i xs h
    obtain ⟨v, sv, rfl, rfl, e, rv⟩ := repl1 r h
    obtain ⟨a, ws, rfl, ea, rw_⟩ := rv.lst ok e
    exact ⟨_, call_tuple_of, a, ws, rfl, .inl ⟨.of ea, fun p hp => kq_tup k ok hp rw_ q⟩⟩
  · rename_i xs h
    obtain ⟨v, sv, rfl, rfl, e, rv⟩ := repl1 r h
    have t := rv.tree e (fun _ _ _ z => z) (fun z => nomatch z)
    obtain ⟨a, ws, rfl, ea, rw_⟩ := rv.tup ok e
    exact ⟨_, call_tuple_of, a, ws, rfl, .inr ⟨.inl ea, kq_tr k ok t q⟩⟩
  · exact q.elim
/-- the bools, the intsD, the texts of a list -/
def blsD : List D → Option (List Bool)
  | [] => some []
  | .bl b :: r => (blsD r).map (b :: ·)
  | _ => none
def intsD : List D → Option (List Int)
  | [] => some []
  | .int b :: r => (intsD r).map (b :: ·)
  | _ => none
def strsD : List D → Option (List Str)
  | [] => some []
  | .str b :: r => (strsD r).map (b :: ·)
  | _ => none
theorem blsD_eq : ∀ {ds : List D} {bs : List Bool}, blsD ds = some bs → ds = bs.map D.bl
  | [], _, h => by cases h; rfl
  | .bl b :: r, bs, h => by
    rw [blsD] at h
    cases e : blsD r with
    | none => rw [e] at h; cases h
    | some t => rw [e] at h; cases h; rw [blsD_eq e]; rfl
theorem intsD_eq : ∀ {ds : List D} {bs : List Int}, intsD ds = some bs → ds = bs.map D.int
  | [], _, h => by cases h; rfl
  | .int b :: r, bs, h => by
    rw [intsD] at h
    cases e : intsD r with
    | none => rw [e] at h; cases h
    | some t => rw [e] at h; cases h; rw [intsD_eq e]; rfl
theorem strsD_eq : ∀ {ds : List D} {bs : List Str}, strsD ds = some bs → ds = bs.map D.str
  | [], _, h => by cases h; rfl
  | .str b :: r, bs, h => by
    rw [strsD] at h
    cases e : strsD r with
    | none => rw [e] at h; cases h
    | some t => rw [e] at h; cases h; rw [strsD_eq e]; rfl
@[simp] theorem blsD_map {α : Type} (f : α → Bool) : ∀ xs : List α, blsD (xs.map fun x => D.bl (f x)) = some (xs.map f)
  | [] => rfl
  | x :: xs => by rw [List.map_cons, blsD, blsD_map f xs]; rfl
@[simp] theorem intsD_map {α : Type} (f : α → Int) : ∀ xs : List α, intsD (xs.map fun x => D.int (f x)) = some (xs.map f)
  | [] => rfl
  | x :: xs => by rw [List.map_cons, intsD, intsD_map f xs]; rfl
@[simp] theorem strsD_map {α : Type} (f : α → Str) : ∀ xs : List α, strsD (xs.map fun x => D.str (f x)) = some (xs.map f)
  | [] => rfl
  | x :: xs => by rw [List.map_cons, strsD, strsD_map f xs]; rfl
def gAll : List D → (SV → Prop) → Prop
  | [.lst xs], Q => ∃ bs, blsD xs = some bs ∧ Q (.tr (.bl (bs.all id)))
  | _, _ => False
def gAny : List D → (SV → Prop) → Prop
  | [.lst xs], Q => ∃ bs, blsD xs = some bs ∧ Q (.tr (.bl (bs.any id)))
  | _, _ => False
def gSum : List D → (SV → Prop) → Prop
  | [.lst xs], Q => ∃ bs, intsD xs = some bs ∧ Q (.tr (.int bs.sum))
  | _, _ => False
theorem cw_all (hc : X.calm = true) : CallW X (.builtin "all") gAll := by
  intro H0 Hs G H vs svs Qs Q ok r q k
  unfold gAll at q
  split at q
  · rename_i xs h
    obtain ⟨bs, hb, q⟩ := q
    obtain ⟨v, sv, rfl, rfl, e, rv⟩ := repl1 r h
    obtain ⟨a, ws, rfl, ea, rw_⟩ := rv.lst ok e
    rw [blsD_eq hb] at rw_
    rw [rw_.map_bl] at ea
    exact ⟨_, cr_all hc, a, bs, rfl, .of ea, kq_tr (d := .bl _) k ok rfl q⟩
  · exact q.elim
theorem cw_any (hc : X.calm = true) : CallW X (.builtin "any") gAny := by
  intro H0 Hs G H vs svs Qs Q ok r q k
  unfold gAny at q
  split at q
  · rename_i xs h
    obtain ⟨bs, hb, q⟩ := q
    obtain ⟨v, sv, rfl, rfl, e, rv⟩ := repl1 r h
    obtain ⟨a, ws, rfl, ea, rw_⟩ := rv.lst ok e
    rw [blsD_eq hb] at rw_
    rw [rw_.map_bl] at ea
    exact ⟨_, cr_any hc, a, bs, rfl, .of ea, kq_tr (d := .bl _) k ok rfl q⟩
  · exact q.elim
theorem cw_sum (hc : X.calm = true) : CallW X (.builtin "sum") gSum := by
  intro H0 Hs G H vs svs Qs Q ok r q k
  unfold gSum at q
  split at q
  · rename_i xs h
    obtain ⟨bs, hb, q⟩ := q
    obtain ⟨v, sv, rfl, rfl, e, rv⟩ := repl1 r h
    obtain ⟨a, ws, rfl, ea, rw_⟩ := rv.lst ok e
    rw [intsD_eq hb] at rw_
    rw [rw_.map_int] at ea
    exact ⟨_, cr_sum hc, a, bs, rfl, .of ea, kq_tr (d := .int _) k ok rfl q⟩
  · exact q.elim
end
end VT

namespace VT
open PySem PySem.Spec PyProof.Rows L2

/-! ### kinds -/
inductive Ty where
  | int | str | bool | list | tuple | dict
@[simp] def Ty.nm : Ty → String
  | .int => "int" | .str => "str" | .bool => "bool" | .list => "list" | .tuple => "tuple" | .dict => "dict"
def D.isT : D → Ty → Bool
  | .bl _, .bool | .bl _, .int => true
  | .int _, .int => true
  | .str _, .str => true
  | .lst _, .list => true
  | .tup _, .tuple => true
  | .dic _, .dict | .dit _, .dict => true
  | _, _ => false
def D.kind : D → Option String
  | .non => some "NoneType"
  | .bl _ => some "bool"
  | .int _ => some "int"
  | .str _ => some "str"
  | .lst _ => some "list"
  | .tup _ => some "tuple"
  | .dic _ | .dit _ => some "dict"
  | _ => none
section
variable {X : Cx} {EX : EXT} {H0 Hs H : Hp} {G : Gh} {v : V} {sv : SV}
theorem RepV.ty {K : PySem.W.Frag} {n : String} (r : RepV H0 Hs G H v sv) (ok : OkG G H) (e : sv.d.kind = some n) : TyX K H v (.type n) := by
  cases hd : sv.d with
  | non => rw [hd] at e; cases e; rw [r.non hd]; exact .base .non
  | bl b => rw [hd] at e; cases e; rw [r.bl hd]; exact .base (.bl b)
  | int b => rw [hd] at e; cases e; rw [r.int hd]; exact .base (.int b)
  | str b => rw [hd] at e; cases e; rw [(r.str hd).1]; exact .base (.str b)
  | lst b => rw [hd] at e; cases e; obtain ⟨a, vs, rfl, ea, _⟩ := r.lst ok hd; exact .base (.lst ea)
  | tup b => rw [hd] at e; cases e; obtain ⟨a, vs, rfl, ea, _⟩ := r.tup ok hd; rcases ea with ea | ⟨o, ea⟩; exact .base (.tup ea); exact .fTuple ea
  | dic b => rw [hd] at e; cases e; obtain ⟨a, vs, rfl, ea, _⟩ := r.dic ok hd; exact .base (.dK ea)
  | dit b => rw [hd] at e; cases e; obtain ⟨a, vs, rfl, ea, _⟩ := r.dit ok hd; exact .base (.dT ea)
  | ins _ _ | exn _ _ => rw [hd] at e; cases e
  | opq => rw [hd] at e; cases e
theorem isT_kit (d : D) (T : Ty) (n : String) (e : d.kind = some n) : kitB n T.nm = some (d.isT T) := by
  cases d <;> first
    | (cases e; done)
    | (cases e; cases T <;> (simp only [D.isT, Ty.nm]; decide +kernel))
@[simp] def gIsi (T : Ty) (g : GE) : GE := fun S Q => g S fun sv => sv.d.kind.isSome = true ∧ Q (.tr (.bl (sv.d.isT T)))
theorem ve_isi (T : Ty) {e : Expr} {g : GE} {x : Str} {p p2 pos : Pos} (he : VE X EX e g) (gI : Gl X "isinstance") (mI : X.mg "isinstance" = none) (gT : Gl X x) (mT : X.mg x = none) (hT : bootBuiltins x = some (.type T.nm)) (hn : x ≠ "__name__" := by decide) (hd : (x == ("__debug__" : Str)) = false := by decide)
    (h1 : starEach [e, .Name x p2] X.env = (false, eval e X.env) :: starEach [.Name x p2] X.env := by rfl) (h2 : starEach [.Name x p2] X.env = (false, eval (.Name x p2) X.env) :: starEach [] X.env := by rfl)
    (hpl : (backTo pos (starEach [.Name x p2] X.env)).any (·.1) = false := by rfl) : VE X EX (.Call (.Name "isinstance" p) [e, .Name x p2] [] pos) (gIsi T g) := by
  refine ⟨fun G0 H0 tk => peMono (pe_callB call_isi gI mI (by decide +kernel) (pa_cons (he.pe G0 H0 tk) (pa_cons (pe_bltn (v := .ty T.nm) gT mT hT rfl hn hd) pa_nil h2) h1) (by decide) (by decide) h1 hpl) fun σ H Q ⟨G, S, Qs, R, q, k⟩ => ?_⟩
  refine ⟨G, S, _, R, q, fun v H1 G1 sv E1 r1 q1 => ?_⟩
  obtain ⟨hk, q1⟩ := q1
  obtain ⟨n, hn⟩ := Option.isSome_iff_exists.mp hk
  exact ⟨v, .ty T.nm, .type n, .type T.nm, _, rfl, .ty _, r1.ty E1.ok hn, kit_ty (isT_kit _ T n hn), kq_tr (d := .bl _) (kq_back E1 k) E1.ok rfl q1⟩
/-! ### truth -/
def D.tru : D → Option Bool
  | .non => some false
  | .bl b => some b
  | .int i => some (i != 0)
  | .str x => some (x.length != 0)
  | .lst xs => some (!xs.isEmpty)
  | .tup xs => some (!xs.isEmpty)
  | .dic kvs => some (!kvs.isEmpty)
  | _ => none
@[simp] def gTru (g : GE) : GT := fun S Q => g S fun sv => ∃ k, sv.d.tru = some k ∧ Q k
theorem isEmpty_len {α β : Type} {xs : List α} {ys : List β} (h : xs.length = ys.length) : xs.isEmpty = ys.isEmpty := by
  cases xs <;> cases ys <;> simp_all
theorem repk_len {F : Hp} : ∀ {ds : List (Key × D)} {vs : List (Key × V)}, repk F ds vs → vs.length = ds.length
  | [], _, r => by rw [show _ = [] from r]; rfl
  | (_, _) :: _, _, ⟨v, r, e, _, z⟩ => by rw [e, List.length_cons, List.length_cons, repk_len z]
theorem vc_tru {e : Expr} {g : GE} (h : VE X EX e g) (he : ∀ whole, isTrue e X.env whole = (do let v ← whole; standAt e.pos; holding [v] (truthy v)) := by intro _; rfl) : VC X EX e (gTru g) := by
  refine ⟨fun G0 H0 tk => ptMono (pt_truth (h.pe G0 H0 tk) he) fun σ H Q ⟨G, S, Qs, R, q, k⟩ => ?_⟩
  refine ⟨G, S, _, R, q, fun v H1 G1 sv E1 r1 q1 => ?_⟩
  obtain ⟨b, hb, q1⟩ := q1
  refine ⟨b, ?_, k b H1 G1 E1 q1⟩
  cases hd : sv.d with
  | non => rw [hd] at hb; cases hb; rw [r1.non hd]; rfl
  | bl b => rw [hd] at hb; cases hb; rw [r1.bl hd]; rfl
  | int b => rw [hd] at hb; cases hb; rw [r1.int hd]; rfl
  | str x =>
    rw [hd] at hb
    cases hb
    rw [(r1.str hd).1]
    refine ⟨(r1.str hd).2.2, ?_⟩
    show (x.length != 0) = ((x.length : Int) != 0)
    cases x.length <;> rfl
  | lst xs =>
    rw [hd] at hb
    cases hb
    obtain ⟨a, vs, rfl, ea, r⟩ := r1.lst E1.ok hd
    exact .inl ⟨vs, .of ea, by rw [isEmpty_len r.length]⟩
  | tup xs =>
    rw [hd] at hb
    cases hb
    obtain ⟨a, vs, rfl, ea, r⟩ := r1.tup E1.ok hd
    exact .inr (.inl ⟨vs, .inl ea, by rw [isEmpty_len r.length]⟩)
  | dic xs =>
    rw [hd] at hb
    cases hb
    obtain ⟨a, vs, rfl, ea, r⟩ := r1.dic E1.ok hd
    exact .inr (.inr ⟨vs, ea, by rw [isEmpty_len (repk_len r)]⟩)
  | dit _ => rw [hd] at hb; cases hb
  | ins _ _ | exn _ _ => rw [hd] at hb; cases hb
  | opq => rw [hd] at hb; cases hb
/-! ### subscripts -/
def gIxD (x y : D) (Q : SV → Prop) : Prop := match x, y with
  | .lst xs, .int i => ∃ d, atI xs i = some d ∧ Q (.tr d)
  | .tup xs, .int i => ∃ d, atI xs i = some d ∧ Q (.tr d)
  | .str z, .int i => ∃ c, atI z.cps.toList i = some c ∧ Q (.tr (.str ⟨#[c]⟩))
  | _, _ => False
theorem reps_at {F : Hp} {ds : List D} {vs : List V} {i : Int} {d : D} (r : reps F ds vs) (h : atI ds i = some d) : ∃ v, atI vs i = some v ∧ rep F d v := by
  unfold atI at h ⊢
  rw [r.length]
  cases e : ixN ds.length i with
  | none => rw [e] at h; cases h
  | some j =>
    rw [e] at h
    exact r.get h
theorem okS_one {z : Str} {c : Nat} {i : Int} (h : okS z) (k : atI z.cps.toList i = some c) : okS ⟨#[c]⟩ := by
  obtain ⟨h1, h2⟩ := h
  refine ⟨?_, by show 1 ≤ sizeLine; decide⟩
  have hm : c ∈ z.cps.toList := by
    unfold atI at k
    cases e : ixN z.cps.toList.length i with
    | none => rw [e] at k; cases k
    | some j => rw [e] at k; exact List.mem_of_getElem? k
  have hc : c < 0x110000 := by
    have h1 : z.cps.all (· < 0x110000) = true := h1
    rw [Array.all_eq_true_iff_forall_mem] at h1
    have := h1 c (by simpa using hm)
    simpa using this
  show (#[c] : Array Nat).all (· < 0x110000) = true
  simp [hc]
theorem ixr_any : IxR X (fun x y H Q => ∃ r, IxR X r ∧ r x y H Q) := fun a b pins s σ H x y v u Q I rx ry ⟨_, h, q⟩ hs => h a b pins s σ H x y v u Q I rx ry q hs
/-- g tells what x[y] is -/
def IxW (X : Cx) (g : D → D → (SV → Prop) → Prop) : Prop :=
  ∀ (H0 Ha Hb : Hp) (G : Gh) (H : Hp) (x y : V) (sx sy : SV) (Qs : SV → Prop) (Q : VK), OkG G H → RepV H0 Ha G H x sx → RepV H0 Hb G H y sy → g sx.d sy.d Qs → KQ H0 G H Qs Q → ∃ r, IxR X r ∧ r x y H Q
theorem iw_seq : IxW X gIxD := by
  intro H0 Ha Hb G H x y sx sy Qs Q ok r1 r2 q2 kk
  unfold gIxD at q2
  split at q2
  · rename_i xs i hx hy
    obtain ⟨d, hd, q2⟩ := q2
    obtain ⟨a, vs, rfl, ea, r⟩ := r1.lst ok hx
    obtain ⟨w, hw, rw_⟩ := reps_at r hd
    exact ⟨_, ix_list, a, vs, i, w, rfl, r2.int hy, .of ea, hw, kq_tr kk ok rw_ q2⟩
  · rename_i xs i hx hy
    obtain ⟨d, hd, q2⟩ := q2
    obtain ⟨a, vs, rfl, ea, r⟩ := r1.tup ok hx
    obtain ⟨w, hw, rw_⟩ := reps_at r hd
    exact ⟨_, ix_tup, a, vs, i, w, rfl, r2.int hy, .inl ea, hw, kq_tr kk ok rw_ q2⟩
  · rename_i z i hx hy
    obtain ⟨c, hc, q2⟩ := q2
    obtain ⟨rfl, hz⟩ := r1.str hx
    exact ⟨_, ix_str, z, i, c, rfl, r2.int hy, hz.2, hc, kq_tr (d := .str _) kk ok ⟨rfl, okS_one hz hc⟩ q2⟩
  · exact q2.elim
theorem ve_ixW {g : D → D → (SV → Prop) → Prop} (hw : IxW X g) {a b : Expr} {ga gb : GE} {pos : Pos} (ha : VE X EX a ga) (hb : VE X EX b gb) (hs : PlainIx b := by exact fun _ _ => rfl) : VE X EX (.Subscript a b pos) (gOp g ga gb) := by
  refine ⟨fun G0 H0 tk => peMono (pe_ix ixr_any (ha.pe G0 H0 tk) (hb.pe G0 H0 tk) hs) fun σ H Q ⟨G, S, Qs, R, q, k⟩ => ?_⟩
  refine ⟨G, S, _, R, q, fun x H1 G1 sx E1 r1 q1 => ?_⟩
  refine ⟨G1, S, _, R.go E1, q1, fun y H2 G2 sy E2 r2 q2 => ?_⟩
  exact hw H0 _ _ G2 H2 x y sx sy Qs Q E2.ok (r1.ext E2) r2 q2 (kq_back (E1.trans E2) k)
theorem ve_ix {a b : Expr} {ga gb : GE} {pos : Pos} (ha : VE X EX a ga) (hb : VE X EX b gb) (hs : PlainIx b := by exact fun _ _ => rfl) : VE X EX (.Subscript a b pos) (gOp gIxD ga gb) := ve_ixW iw_seq ha hb hs
/-! ### slices -/
abbrev GO := S → (Option Int → Prop) → Prop
def TOV (G0 : Gh) (H0 : Hp) (g : GO) : TO := fun σ H Q => ∃ G S Qs, Rel G0 H0 G H σ S ∧ g S Qs ∧ ∀ b H' G', Ext G H G' H' → Qs b → Q b H'
structure VO (X : Cx) (EX : EXT) (e : Option Expr) (g : GO) : Prop where
  po : ∀ G0 H0, Lk X EX G0 H0 → PO X e (TOV G0 H0 g)
@[simp] def goNone : GO := fun _ Q => Q none
@[simp] def goSome (g : GE) : GO := fun S Q => g S fun sv => ∃ i, sv.d = .int i ∧ Q (some i)
theorem vo_none : VO X EX none goNone := ⟨fun G0 H0 tk => ⟨fun pins s σ H Q I ⟨G, S, Qs, R, q, k⟩ => po_none.run pins s σ H Q I (k none H G (.refl R.ok) q)⟩⟩
theorem vo_some {e : Expr} {g : GE} (h : VE X EX e g) : VO X EX (some e) (goSome g) := ⟨fun G0 H0 tk => ⟨fun pins s σ H Q I ⟨G, S, Qs, R, q, k⟩ => (po_some (h.pe G0 H0 tk)).run pins s σ H Q I
  ⟨G, S, _, R, q, fun v H1 G1 sv E1 r1 ⟨i, hi, q1⟩ => ⟨i, r1.int hi, k _ _ _ E1 q1⟩⟩⟩⟩
/-- the items of xs[lo:hi] -/
def cutD {α : Type} (xs : List α) (lo hi : Option Int) : List α := (xs.drop (HT.sIx xs.length 0 lo)).take (HT.sIx xs.length xs.length hi - HT.sIx xs.length 0 lo)
theorem reps_cut {F : Hp} {ds : List D} {vs : List V} (r : reps F ds vs) (lo hi : Option Int) : reps F (cutD ds lo hi) (cutV vs lo hi) := by
  unfold cutD cutV
  rw [r.length]
  exact (r.drop _).take _
def gSlD (x : D) (lo hi : Option Int) (Q : SV → Prop) : Prop := match x with
  | .lst xs => Q (.own (.lst (cutD xs lo hi)))
  | .tup xs => Q (.tr (.tup (cutD xs lo hi)))
  | .str z => Q (.tr (.str (cutS z lo hi)))
  | _ => False
@[simp] def gSl (g : GE) (gl gh : GO) : GE := fun S Q => g S fun x => gl S fun lo => gh S fun hi => gSlD x.d lo hi Q
theorem okS_cut {z : Str} (h : okS z) (lo hi : Option Int) : okS (cutS z lo hi) := by
  obtain ⟨h1, h2⟩ := h
  refine ⟨?_, Nat.le_trans (cutS_length z lo hi) h2⟩
  have h1 : z.cps.all (· < 0x110000) = true := h1
  show (cutS z lo hi).cps.all (· < 0x110000) = true
  rw [Array.all_eq_true_iff_forall_mem] at h1 ⊢
  intro c hc
  refine h1 c ?_
  have hc : c ∈ ((z.cps.toList.drop (HT.sIx z.length 0 lo)).take (HT.sIx z.length z.length hi - HT.sIx z.length 0 lo)).toArray := hc
  rw [List.mem_toArray] at hc
  simpa using List.mem_of_mem_drop (List.mem_of_mem_take hc)
theorem slr_any : SlR X (fun x lo hi H Q => ∃ r, SlR X r ∧ r x lo hi H Q) := fun pins s σ H x v vl vu lo hi sl Q I rx hs pl pu ⟨_, h, q⟩ => h pins s σ H x v vl vu lo hi sl Q I rx hs pl pu q
theorem map_cut {α β : Type} (f : α → β) (xs : List α) (lo hi : Option Int) : (cutD xs lo hi).map f = cutD (xs.map f) lo hi := by
  unfold cutD
  rw [List.map_take, List.map_drop, List.length_map]
theorem cut_eq (xs : List V) (lo hi : Option Int) : cutV xs lo hi = cutD xs lo hi := rfl
theorem sIx_whole {n : Nat} {lo hi : Option Int} {α : Type} {xs : List α} (hn : xs.length = n) (h : HT.sIx n 0 lo = 0 ∧ HT.sIx n n hi = n) : cutD xs lo hi = xs := by
  unfold cutD
  rw [hn, h.1, h.2, List.drop_zero, Nat.sub_zero, List.take_of_length_le (by omega)]
theorem ve_slice {e : Expr} {g : GE} {lo hi : Option Expr} {gl gh : GO} {pos p2 : Pos} (he : VE X EX e g) (hl : VO X EX lo gl) (hh : VO X EX hi gh) : VE X EX (.Subscript e (.Slice lo hi none p2) pos) (gSl g gl gh) := by
  refine ⟨fun G0 H0 tk => peMono (pe_slice slr_any (he.pe G0 H0 tk) (hl.po G0 H0 tk) (hh.po G0 H0 tk)) fun σ H Q ⟨G, S, Qs, R, q, k⟩ => ?_⟩
  refine ⟨G, S, _, R, q, fun v H1 G1 sx E1 r1 q1 => ?_⟩
  refine ⟨G1, S, _, R.go E1, q1, fun l H2 G2 E2 q2 => ?_⟩
  refine ⟨G2, S, _, (R.go E1).go E2, q2, fun u H3 G3 E3 q3 => ?_⟩
  have kk := kq_back ((E1.trans E2).trans E3) k
  have r1 := (r1.ext E2).ext E3
  have ok := E3.ok
  unfold gSlD at q3
  split at q3
  · rename_i xs hx
    obtain ⟨a, vs, rfl, ea, r⟩ := r1.lst ok hx
    exact ⟨_, sl_list, a, vs, rfl, .of ea, fun p hp => kq_lst kk ok hp (reps_cut r l u) q3⟩
  · rename_i xs hx
    have t := r1.tree hx (fun _ _ _ z => z) (fun z => nomatch z)
    obtain ⟨a, vs, rfl, ea, r⟩ := r1.tup ok hx
    refine ⟨_, sl_tupA, a, vs, rfl, .inl ea, fun w => ?_, fun _ p hp => kq_tup kk ok hp (reps_cut r l u) q3⟩
    rw [r.length] at w
    rw [sIx_whole rfl w] at q3
    exact kq_tr kk ok t q3
  · rename_i z hx
    obtain ⟨rfl, hz⟩ := r1.str hx
    exact ⟨_, sl_str, z, rfl, hz.2, kq_tr (d := .str _) kk ok ⟨rfl, okS_cut hz l u⟩ q3⟩
  · exact q3.elim
end
end VT

namespace VT
open PySem PySem.Spec PyProof.Rows L2

/-! ### times -/
/-- a text as often -/
def gMul : D → D → (SV → Prop) → Prop
  | .int i, .int j, Q => CMulW i j ∧ Q (.tr (.int (i * j)))
  | .lst xs, .int k, Q => (0 ≤ k ∧ k < 2 ^ 40 ∧ xs.length * k.toNat ≤ sizeLine) ∧ Q (.own (.lst (List.replicate k.toNat xs).flatten))
  | .str x, .int k, Q => (0 ≤ k ∧ k ≤ 1000 ∧ x.length ≤ 1000) ∧ Q (.tr (.str (Txt.mul x k)))
  | _, _, _ => False
theorem reps_rep {F : Hp} {ds : List D} {vs : List V} (r : reps F ds vs) : ∀ n : Nat, reps F (List.replicate n ds).flatten (List.replicate n vs).flatten
  | 0 => rfl
  | n + 1 => by
    rw [List.replicate_succ, List.replicate_succ, List.flatten_cons, List.flatten_cons]
    exact r.append (reps_rep r n)
theorem arr_rep_all (p : Nat → Bool) (a : Array Nat) (h : a.all p = true) : ∀ (n : Nat) (b : Array Nat), b.all p = true → ((List.replicate n a).foldl (· ++ ·) b).all p = true
  | 0, b, k => k
  | n + 1, b, k => by
    rw [List.replicate_succ, List.foldl_cons]
    exact arr_rep_all p a h n (b ++ a) (by rw [Array.all_append, k, h]; rfl)
theorem arr_rep_size (a : Array Nat) : ∀ (n : Nat) (b : Array Nat), ((List.replicate n a).foldl (· ++ ·) b).size = b.size + n * a.size
  | 0, b => by simp
  | n + 1, b => by
    rw [List.replicate_succ, List.foldl_cons, arr_rep_size a n, Array.size_append, Nat.succ_mul]
    omega
theorem okS_mul {x : Str} {k : Int} (h : okS x) (h0 : 0 ≤ k) (h1 : k ≤ 1000) (h2 : x.length ≤ 1000) : okS (Txt.mul x k) := by
  unfold Txt.mul
  split
  · exact ⟨by decide +kernel, by decide +kernel⟩
  · split
    · exact h
    · refine ⟨arr_rep_all _ _ h.1 _ _ (by simp), ?_⟩
      show ((List.replicate k.toNat x.cps).foldl (· ++ ·) #[]).size ≤ sizeLine
      rw [arr_rep_size]
      have h2 : x.cps.size ≤ 1000 := h2
      have h3 : k.toNat ≤ 1000 := by omega
      have h4 := Nat.mul_le_mul h3 h2
      have h5 := sizeLine_eq
      show (#[] : Array Nat).size + _ ≤ _
      simp only [List.size_toArray, List.length_nil]
      omega
theorem mulOk {x : Str} {k : Int} (h0 : 0 ≤ k) (h1 : k ≤ 1000) (h2 : x.length ≤ 1000) : PySem.MulOk x k := by
  refine ⟨?_, fun hk _ => ?_, fun hk _ => ?_⟩
  · rw [decide_eq_false (by omega), decide_eq_false (by omega)]
    rfl
  · have e : (9223372036854775 : Int) ≤ (2 ^ 63 - 1) / k := by
      refine Int.le_ediv_of_mul_le (by omega) ?_
      omega
    omega
  · have h3 : k.toNat ≤ 1000 := by omega
    have h4 := Nat.mul_le_mul h2 h3
    have h5 := sizeLine_eq
    exact decide_eq_false (by omega)
section
variable {X : Cx} {EX : EXT}
theorem op_mulS : OpR X (binaryOp .Mult) (fun x y H Q => ∃ z k, x = .str z ∧ y = .int k ∧ PySem.MulOk z k ∧ Q (.str (Txt.mul z k)) H) := by
  intro pins s σ H x y v u Q I rx ry h
  obtain ⟨z, k, rfl, rfl, hk, q⟩ := h
  obtain ⟨t, rfl⟩ := rx
  obtain ⟨t', rfl⟩ := ry
  exact PySem.SB.mul hk fun t'' tk => ⟨.str _, H, I.tok tk, ⟨t'', rfl⟩, q⟩
theorem ow_mul : OpW X (binaryOp .Mult) gMul := by
  intro H0 Ha Hb G H x y sx sy Qs Q ok rx ry q k
  unfold gMul at q
  split at q
  · rename_i i j hx hy
    cases rx.int hx
    cases ry.int hy
    exact ⟨_, op_mulW, i, j, rfl, rfl, q.1, kq_tr (d := .int _) k ok rfl q.2⟩
  · rename_i xs j hx hy
    obtain ⟨a, vs, rfl, ea, r⟩ := rx.lst ok hx
    cases ry.int hy
    exact ⟨_, op_rep, a, j, vs, rfl, rfl, ea, by omega, by have := q.1.2.1; omega, by rw [r.length]; exact q.1.2.2, fun p hp => kq_lst k ok hp (reps_rep r _) q.2⟩
  · rename_i z j hx hy
    obtain ⟨rfl, hz⟩ := rx.str hx
    cases ry.int hy
    exact ⟨_, op_mulS, z, j, rfl, rfl, mulOk q.1.1 q.1.2.1 q.1.2.2, kq_tr (d := .str _) k ok ⟨rfl, okS_mul hz q.1.1 q.1.2.1 q.1.2.2⟩ q.2⟩
  · exact q.elim
/-! ### methods of texts -/
def MtW (X : Cx) (id : String) (g : D → List D → (SV → Prop) → Prop) : Prop :=
  ∀ (H0 Ha Hs : Hp) (G : Gh) (H : Hp) (x : V) (sx : SV) (vs : List V) (svs : List SV) (Qs : SV → Prop) (Q : VK), OkG G H → RepV H0 Ha G H x sx → RepL H0 Hs G H vs svs → g sx.d (svs.map SV.d) Qs → KQ H0 G H Qs Q → ∃ r, MtR X id r ∧ r x vs H Q
def tyD (T : String) : D → Prop
  | .str _ => T = "str"
  | .lst _ => T = "list"
  | _ => False
theorem RepV.tyV {H0 Hs H : Hp} {G : Gh} {v : V} {sv : SV} {K : PySem.W.Frag} {T : String} (r : RepV H0 Hs G H v sv) (ok : OkG G H) (e : tyD T sv.d) : L2.tyV K T v H := by
  cases hd : sv.d <;> rw [hd] at e <;> first | exact e.elim | skip
  · rw [(r.str hd).1]; exact e
  · obtain ⟨a, vs, rfl, ea, _⟩ := r.lst ok hd; exact .inl ⟨e, vs, .of ea⟩
theorem mtr_any {id : String} : MtR X id (fun x vs H Q => ∃ r, MtR X id r ∧ r x vs H Q) := fun pins s σ H x xs v us Q I rx rs ⟨_, h, q⟩ => h pins s σ H x xs v us Q I rx rs q
@[simp] def gBM (T : String) (g : D → List D → (SV → Prop) → Prop) (go : GE) (ga : GA) : GE := fun S Q => go S fun sx => tyD T sx.d ∧ ga S fun svs => g sx.d (svs.map SV.d) Q
variable {o e : Expr} {es : List Expr} {go : GE} {ga : GA} {name : Str} {apos cpos : Pos} {T id : String} {g : D → List D → (SV → Prop) → Prop}
theorem ve_bm (pa : PlainAttrs T) (slot : Slot T name id) (hty : typeOf (.builtin id) = pure (.type "method_descriptor")) (hm : MtW X id g) (ho : VE X EX o go) (ha : VA X EX (e :: es) ga)
    (hbase : attributeBase o name X.env (eval o X.env) = eval o X.env := by rfl)
    (hfew : ((backTo cpos (starEach (e :: es) X.env)).all (fun x => !x.1) && (backToKw cpos (keywordEach [] X.env)).all (fun x => x.1.isSome)
      && decide ((e :: es).length + ([] : List Keyword).length + (if ([] : List Keyword).isEmpty then 0 else 1) < 30)) = true := by rfl)
    (hline : (apos.endLine == cpos.line) = true := by rfl) (hs : starEach (e :: es) X.env = (false, eval e X.env) :: starEach es X.env := by rfl) (hplain : (backTo cpos (starEach es X.env)).any (·.1) = false := by rfl) :
    VE X EX (.Call (.Attribute o name apos) (e :: es) [] cpos) (gBM T g go ga) := by
  refine ⟨fun G0 H0 tk => peMono (pe_bm pa slot hty mtr_any (ho.pe G0 H0 tk) (ha.pa G0 H0 tk) hbase hfew hline hs hplain) fun σ H Q ⟨G, S, Qs, R, q, k⟩ => ?_⟩
  refine ⟨G, S, _, R, q, fun v H1 G1 sx E1 r1 q1 => ⟨r1.tyV E1.ok q1.1, ?_⟩⟩
  refine ⟨G1, S, _, R.go E1, q1.2, fun vs H2 G2 svs E2 r2 q2 => ?_⟩
  exact hm H0 _ _ G2 H2 v sx vs svs Qs Q E2.ok (r1.ext E2) r2 q2 (kq_back (E1.trans E2) k)
theorem ve_bm0 (pa : PlainAttrs T) (slot : Slot T name id) (hty : typeOf (.builtin id) = pure (.type "method_descriptor")) (hm : MtW X id g) (ho : VE X EX o go)
    (hbase : attributeBase o name X.env (eval o X.env) = eval o X.env := by rfl) (hline : (apos.endLine == cpos.line) = true := by rfl) : VE X EX (.Call (.Attribute o name apos) [] [] cpos) (gBM T g go gaNil) := by
  refine ⟨fun G0 H0 tk => peMono (pe_bm0 pa slot hty mtr_any (ho.pe G0 H0 tk) hbase hline) fun σ H Q ⟨G, S, Qs, R, q, k⟩ => ?_⟩
  refine ⟨G, S, _, R, q, fun v H1 G1 sx E1 r1 q1 => ⟨r1.tyV E1.ok q1.1, ?_⟩⟩
  exact hm H0 _ H _ _ v sx [] [] Qs Q E1.ok r1 .nil q1.2 (kq_back E1 k)
/-- sep.join(xs) -/
def gJoin : D → List D → (SV → Prop) → Prop
  | .str z, [.lst xs], Q => ∃ ys, strsD xs = some ys ∧ (ys.map (·.length)).sum + ys.length * z.length ≤ 16777216 ∧ okS (Txt.join z ys) ∧ Q (.tr (.str (Txt.join z ys)))
  | .str z, [.tup xs], Q => ∃ ys, strsD xs = some ys ∧ (ys.map (·.length)).sum + ys.length * z.length ≤ 16777216 ∧ okS (Txt.join z ys) ∧ Q (.tr (.str (Txt.join z ys)))
  | _, _, _ => False
theorem mw_join : MtW X "str.join" gJoin := by
  intro H0 Ha Hs G H x sx vs svs Qs Q ok rx r q k
  unfold gJoin at q
  split at q
  · rename_i z xs hx h
    obtain ⟨ys, e1, hz, ho, q⟩ := q
    obtain ⟨v, sv, rfl, rfl, e, rv⟩ := repl1 r h
    obtain ⟨rfl, _⟩ := rx.str hx
    obtain ⟨a, ws, rfl, ea, rw_⟩ := rv.lst ok e
    rw [strsD_eq e1] at rw_
    rw [rw_.map_str.1] at ea
    exact ⟨_, mt_join, z, a, ys, rfl, rfl, .inl (.of ea), hz, kq_tr (d := .str _) k ok ⟨rfl, ho⟩ q⟩
  · rename_i z xs hx h
    obtain ⟨ys, e1, hz, ho, q⟩ := q
    obtain ⟨v, sv, rfl, rfl, e, rv⟩ := repl1 r h
    obtain ⟨rfl, _⟩ := rx.str hx
    obtain ⟨a, ws, rfl, ea, rw_⟩ := rv.tup ok e
    rw [strsD_eq e1] at rw_
    rw [rw_.map_str.1] at ea
    exact ⟨_, mt_join, z, a, ys, rfl, rfl, .inr (.inl ea), hz, kq_tr (d := .str _) k ok ⟨rfl, ho⟩ q⟩
  · exact q.elim
end
end VT

namespace VT
open PySem PySem.Spec PyProof.Rows L2

/-! ### slots set -/
theorem set_slot {α : Type} {l : List α} {i j : Nat} {a b : α} (h : (l.set i a)[j]? = some b) : (i = j ∧ b = a ∧ i < l.length) ∨ (i ≠ j ∧ l[j]? = some b) := by
  by_cases e : i = j
  · subst e
    by_cases hl : i < l.length
    · rw [List.getElem?_set_self hl] at h
      exact .inl ⟨rfl, (Option.some.inj h).symm, hl⟩
    · rw [List.getElem?_eq_none (by simpa using hl)] at h
      cases h
  · rw [List.getElem?_set_ne e] at h
    exact .inr ⟨e, h⟩
/-- a value goes to a slot: it is new, or no object of the frame's own -/
theorem Rel.set {G0 G : Gh} {H0 H Hs : Hp} {σ : L2.St} {S : S} {v : V} {sv : SV} (R : Rel G0 H0 G H σ S) (i : Nat) (r : RepV H0 Hs G H v sv) (hok : sv.ok)
    (h0 : ∀ b, Hs b = none → H0 b = none) (hd : ∀ (j : Nat) (sw : SV) (w : V) (b : Addr), j ≠ i → S[j]? = some (some sw) → σ[j]? = some (some w) → Owns H v sv b → ¬ Owns H w sw b) :
    Rel G0 H0 G H (σ.set i (some v)) (S.set i (some sv)) where
  ext := R.ext
  len := by rw [List.length_set, List.length_set, R.len]
  slot := fun j w e => by
    rcases set_slot e with ⟨rfl, e, hl⟩ | ⟨hne, e⟩
    · cases e
      exact ⟨v, by rw [List.getElem?_set_self (by rw [← R.len]; exact hl)], r.back h0⟩
    · obtain ⟨u, e1, r1⟩ := R.slot j w e
      exact ⟨u, by rw [List.getElem?_set_ne hne]; exact e1, r1⟩
  sep := fun j l sj sl u w b hjl e1 e2 e3 e4 o1 o2 => by
    rcases set_slot e1 with ⟨rfl, e1, hl⟩ | ⟨hne, e1⟩
    · rcases set_slot e2 with ⟨rfl, e2, _⟩ | ⟨hne2, e2⟩
      · exact hjl rfl
      · rw [List.getElem?_set_self (by rw [← R.len]; exact hl)] at e3
        rw [List.getElem?_set_ne hne2] at e4
        cases e1
        cases e3
        exact hd l sl w b (Ne.symm hne2) e2 e4 o1 o2
    · rw [List.getElem?_set_ne hne] at e3
      rcases set_slot e2 with ⟨rfl, e2, hl⟩ | ⟨hne2, e2⟩
      · rw [List.getElem?_set_self (by rw [← R.len]; exact hl)] at e4
        cases e2
        cases e4
        exact hd j sj u b (Ne.symm hne) e1 e3 o2 o1
      · rw [List.getElem?_set_ne hne2] at e4
        exact R.sep j l sj sl u w b hjl e1 e2 e3 e4 o1 o2
  nopk := fun j w e => by
    rcases set_slot e with ⟨rfl, e, hl⟩ | ⟨hne, e⟩
    · cases e; exact hok
    · exact R.nopk j w e
/-- .. behind an expression that began at H -/
theorem Rel.setE {G0 G G' : Gh} {H0 H H' : Hp} {σ : L2.St} {S : S} {v : V} {sv : SV} (R : Rel G0 H0 G H σ S) (E : Ext G H G' H') (i : Nat) (r : RepV H0 H G' H' v sv) (hok : sv.ok) : Rel G0 H0 G' H' (σ.set i (some v)) (S.set i (some sv)) := by
  refine (R.go E).set i r hok (fun b z => R.ext.dom z) fun j sw w b _ e1 e2 o1 o2 => ?_
  obtain ⟨w', e3, r3⟩ := R.slot j sw e1
  rw [e2] at e3
  cases e3
  have o3 : Owns H w sw b := o2.at r3 fun b o => (E.mine (r3.owns o).1 (r3.owns o).2).2
  exact (r3.owns o3).2.ne (r.owns o1).1.1
/-- a slot is forgotten -/
theorem Rel.forget {G0 G : Gh} {H0 H : Hp} {σ : L2.St} {S : S} (R : Rel G0 H0 G H σ S) (i : Nat) : Rel G0 H0 G H (σ.set i none) (S.set i none) where
  ext := R.ext
  len := by rw [List.length_set, List.length_set, R.len]
  slot := fun j w e => by
    rcases set_slot e with ⟨rfl, e, hl⟩ | ⟨hne, e⟩
    · cases e
    · obtain ⟨u, e1, r1⟩ := R.slot j w e
      exact ⟨u, by rw [List.getElem?_set_ne hne]; exact e1, r1⟩
  sep := fun j l sj sl u w b hjl e1 e2 e3 e4 o1 o2 => by
    rcases set_slot e1 with ⟨rfl, e1, hl⟩ | ⟨hne, e1⟩
    · cases e1
    · rcases set_slot e2 with ⟨rfl, e2, hl⟩ | ⟨hne2, e2⟩
      · cases e2
      · rw [List.getElem?_set_ne hne] at e3
        rw [List.getElem?_set_ne hne2] at e4
        exact R.sep j l sj sl u w b hjl e1 e2 e3 e4 o1 o2
  nopk := fun j d e => by
    rcases set_slot e with ⟨rfl, e, hl⟩ | ⟨hne, e⟩
    · cases e
    · exact R.nopk j d e
@[simp] def wipeS (S : S) : List Nat → VT.S
  | [] => S
  | v :: vs => (wipeS S vs).set v none
theorem Rel.wipe {G0 G : Gh} {H0 H : Hp} {σ : L2.St} {S : S} (R : Rel G0 H0 G H σ S) : ∀ vs : List Nat, Rel G0 H0 G H (wipe σ vs) (wipeS S vs)
  | [] => R
  | v :: vs => (R.wipe vs).forget v

/-! ### targets of trees -/
/-- the slots at is alone were set -/
def Off (is : List Nat) (σ σ' : L2.St) : Prop := σ'.length = σ.length ∧ ∀ j, j ∉ is → σ'[j]? = σ[j]?
theorem Off.refl {is : List Nat} {σ : L2.St} : Off is σ σ := ⟨rfl, fun _ _ => rfl⟩
theorem Off.trans {is : List Nat} {σ σ1 σ2 : L2.St} (a : Off is σ σ1) (b : Off is σ1 σ2) : Off is σ σ2 := ⟨b.1.trans a.1, fun j h => (b.2 j h).trans (a.2 j h)⟩
theorem Off.mono {is js : List Nat} {σ σ1 : L2.St} (a : Off is σ σ1) (h : ∀ i ∈ is, i ∈ js) : Off js σ σ1 := ⟨a.1, fun j hj => a.2 j fun z => hj (h j z)⟩
theorem Off.set {i : Nat} {x : Option V} {σ : L2.St} : Off [i] σ (σ.set i x) := ⟨List.length_set, fun j h => List.getElem?_set_ne (fun e => h (by simp [e]))⟩
theorem wipe_get : ∀ (vs : List Nat) (σ : L2.St) (j : Nat), (wipe σ vs)[j]? = if j ∈ vs ∧ j < σ.length then some none else σ[j]?
  | [], σ, j => by simp [wipe]
  | v :: vs, σ, j => by
    rw [wipe]
    by_cases e : v = j
    · subst e
      by_cases hl : v < σ.length
      · rw [List.getElem?_set_self (by rw [wipe_length]; exact hl), if_pos ⟨by simp, hl⟩]
      · rw [List.getElem?_eq_none (by rw [List.length_set, wipe_length]; omega), if_neg (fun z => hl z.2), List.getElem?_eq_none (by omega)]
    · rw [List.getElem?_set_ne e, wipe_get vs σ j]
      have h1 : (j ∈ v :: vs ∧ j < σ.length) ↔ (j ∈ vs ∧ j < σ.length) := by
        rw [List.mem_cons]
        constructor
        · rintro ⟨z | z, k⟩
          · exact (e z.symm).elim
          · exact ⟨z, k⟩
        · exact fun z => ⟨.inr z.1, z.2⟩
      simp only [h1]
theorem Off.wiped {vs : List Nat} {σ σ' : L2.St} (o : Off vs (L2.wipe σ vs) σ') : L2.wipe σ' vs = L2.wipe σ vs := by
  refine List.ext_getElem? fun j => ?_
  have hl : σ'.length = σ.length := o.1.trans (wipe_length σ vs)
  rw [wipe_get, wipe_get, hl]
  by_cases h : j ∈ vs ∧ j < σ.length
  · rw [if_pos h, if_pos h]
  · rw [if_neg h, if_neg h]
    by_cases hj : j ∈ vs
    · have h2 : σ.length ≤ j := by
        have : ¬ j < σ.length := fun z => h ⟨hj, z⟩
        omega
      rw [List.getElem?_eq_none (by omega), List.getElem?_eq_none h2]
    · rw [o.2 j hj, wipe_get, if_neg (fun z => hj z.1)]
abbrev GG := D → S → (S → Prop) → Prop
def TGV (G0 : Gh) (H0 : Hp) (is : List Nat) (g : GG) : TG := fun v σ H Q => ∃ G S d Qs, Rel G0 H0 G H σ S ∧ rep G.F d v ∧ g d S Qs ∧ ∀ σ' S', Rel G0 H0 G H σ' S' → Off is σ σ' → Qs S' → Q σ' H
structure VG (X : Cx) (tg : Expr) (is : List Nat) (g : GG) : Prop where
  pg : ∀ G0 H0, PG X tg (TGV G0 H0 is g)
theorem pgMono {X : Cx} {tg : Expr} {t t' : TG} (h : PG X tg t) (k : ∀ v σ H Q, t' v σ H Q → t v σ H Q) : PG X tg t' := ⟨fun pins s σ H v u Q I r q => h.run pins s σ H v u Q I r (k v σ H Q q)⟩
@[simp] def ggName (i : Nat) : GG := fun d S Q => Q (S.set i (some (.tr d)))
/-- a row of names -/
@[simp] def ggAll : List Nat → List D → S → S
  | i :: is, d :: ds, S => ggAll is ds (S.set i (some (.tr d)))
  | _, _, S => S
@[simp] def ggTup (is : List Nat) : GG := fun d S Q => ∃ ds, d = .tup ds ∧ ds.length = is.length ∧ Q (ggAll is ds S)
section
variable {X : Cx} {EX : EXT} {pos : Pos}
theorem vg_name {i : Nat} {x : Str} (hN : X.N.Nodup) (hi : X.N[i]? = some x) (hx : Loc X.env.scope x) (hf : X.fn x = true ∨ X.env.scope.names.lookup x = some .local := by first | exact .inl rfl | exact .inr rfl | assumption) : VG X (.Name x pos) [i] (ggName i) :=
  ⟨fun G0 H0 => pgMono (pg_name hN hi hx hf) fun v σ H Q ⟨G, S, d, Qs, R, r, q, k⟩ => k _ _ (R.set (Hs := H0) i (sv := .tr d) r trivial (fun _ z => z) fun _ _ _ _ _ _ _ o => o.elim) Off.set q⟩
/-- several names -/
structure VGs (X : Cx) (ts : List Expr) (is : List Nat) : Prop where
  pgs : ∀ G0 H0, PGs X ts (fun vs σ H Q => ∃ G S ds, Rel G0 H0 G H σ S ∧ reps G.F ds vs ∧ ds.length = is.length ∧ ∀ σ' S', Rel G0 H0 G H σ' S' → Off is σ σ' → S' = ggAll is ds S → Q σ' H)
theorem pgsMono {ts : List Expr} {t t' : TGs} (h : PGs X ts t) (k : ∀ v σ H Q, t' v σ H Q → t v σ H Q) : PGs X ts t' := ⟨fun pins s σ H v u Q I r q => h.run pins s σ H v u Q I r (k v σ H Q q)⟩
theorem vgs_nil : VGs X [] [] := ⟨fun G0 H0 => pgsMono pgs_nil fun vs σ H Q ⟨G, S, ds, R, r, hl, k⟩ => by
  have e : ds = [] := List.eq_nil_of_length_eq_zero hl
  subst e
  exact ⟨r, k σ S R Off.refl rfl⟩⟩
theorem vgs_cons {i : Nat} {is : List Nat} {x : Str} {es : List Expr} {p : Pos} (hN : X.N.Nodup) (hi : X.N[i]? = some x) (hx : Loc X.env.scope x) (h2 : VGs X es is) (hf : X.fn x = true ∨ X.env.scope.names.lookup x = some .local := by first | exact .inl rfl | exact .inr rfl | assumption)
    (hs : (assignEach (.Name x p :: es) X.env).map (·.2) = assign (.Name x p) X.env :: (assignEach es X.env).map (·.2) := by rfl) : VGs X (.Name x p :: es) (i :: is) :=
  ⟨fun G0 H0 => pgsMono (pgs_cons (pg_name hN hi hx hf) (h2.pgs G0 H0) hs) fun vs σ H Q ⟨G, S, ds, R, r, hl, k⟩ => by
    cases ds with
    | nil => cases hl
    | cons d ds =>
      obtain ⟨v, t, rfl, rv, rt⟩ := r
      refine ⟨v, t, rfl, G, _, ds, R.set (Hs := H0) i (sv := .tr d) rv trivial (fun _ z => z) (fun _ _ _ _ _ _ _ o => o.elim), rt, by simpa using hl, fun σ' S' R' o e => k σ' S' R' ?_ e⟩
      exact (Off.set.mono (by simp)).trans (o.mono (by simp; exact fun _ h => .inr h))⟩
theorem vg_tup {es : List Expr} {kk : Nat} {is : List Nat} (hc : X.calm = true) (h : VGs X es is) (hn : (assignEach es X.env).length = is.length := by rfl) (hst : (assignEach es X.env).findIdx? (·.1) = none := by rfl) : VG X (.Tuple es kk pos) is (ggTup is) :=
  ⟨fun G0 H0 => pgMono (pg_tup hc (h.pgs G0 H0) hn hst) fun v σ H Q ⟨G, S, d, Qs, R, r, ⟨ds, e, hl, q⟩, k⟩ => by
    subst e
    obtain ⟨a, vs, rfl, ea, rs⟩ := r
    exact ⟨a, vs, rfl, .inl (rdUp R.ok.sub ea), by rw [rs.length, hl], G, S, ds, R, rs, hl, fun σ' S' R' o e => k σ' S' R' o (by rw [e]; exact q)⟩⟩
end

/-! ### what is walked -/
abbrev GI := S → (List D → Prop) → Prop
/-- all is as it was: by a comprehension; by a loop's body -/
def Later (c : Bool) (G0 : Gh) (H0 : Hp) (G : Gh) (H : Hp) (G2 : Gh) (H2 : Hp) : Prop := if c = true then Ext G H G2 H2 else Ext G0 H0 G2 H2 ∧ ∀ b o, G.F b = some o → G2.F b = some o
theorem Later.ok {c : Bool} {G0 G G2 : Gh} {H0 H H2 : Hp} (l : Later c G0 H0 G H G2 H2) : OkG G2 H2 := by
  cases c with
  | true => exact Ext.ok l
  | false => exact l.1.ok
theorem Later.frz {c : Bool} {G0 G G2 : Gh} {H0 H H2 : Hp} (l : Later c G0 H0 G H G2 H2) : ∀ b o, G.F b = some o → G2.F b = some o := by
  cases c with
  | true => exact Ext.frz l
  | false => exact l.2
/-- the iterator J yields ds -/
def Yields (c : Bool) (G0 : Gh) (H0 : Hp) (G : Gh) (H : Hp) (J : It) (ds : List D) : Prop := ∀ G2 H2, Later c G0 H0 G H G2 H2 → (∀ i, ds.length ≤ i → J.stop i H2) ∧
  ∀ i d, ds[i]? = some d → J.go i H2 ∧ ∀ x H3, J.yld i H2 x H3 → ∃ G3, Ext G2 H2 G3 H3 ∧ rep G3.F d x
def TIV (c : Bool) (G0 : Gh) (H0 : Hp) (gi : GI) : TI := fun σ H R => ∃ G S Qs, Rel G0 H0 G H σ S ∧ gi S Qs ∧ ∀ J H' G' ds, Ext G H G' H' → Yields c G0 H0 G' H' J ds → Qs ds → R J H'
structure VI (c : Bool) (X : Cx) (EX : EXT) (tg iter : Expr) (gi : GI) : Prop where
  pi : ∀ G0 H0, Lk X EX G0 H0 → PI X tg iter (TIV c G0 H0 gi)
theorem piMono {X : Cx} {tg it : Expr} {t t' : TI} (h : PI X tg it t) (k : ∀ σ H Q, t' σ H Q → t σ H Q) : PI X tg it t' := ⟨fun pins s σ H R I q => h.run pins s σ H R I (k σ H R q)⟩
theorem piOf {X : Cx} {tg it : Expr} {t : TI} (h : ∀ σ H Q, t σ H Q → ∃ t', PI X tg it t' ∧ t' σ H Q) : PI X tg it t := ⟨fun pins s σ H R I q => let ⟨_, p, z⟩ := h σ H R q; p.run pins s σ H R I z⟩
/-- a held list stays through what comes later -/
def SV.stays (c : Bool) : SV → Prop
  | .tr _ => True
  | .brw _ => True
  | .pk _ => c = true
  | .own _ => c = true
  | .tz _ => True
  | _ => False
theorem RepV.later {c : Bool} {G0 G G2 : Gh} {H0 Hs H H2 : Hp} {v : V} {sv : SV} {ds : List D} (E0 : Ext G0 H0 G H) (r : RepV H0 Hs G H v sv) (hs : sv.stays c) (e : sv.d = .lst ds) (l : Later c G0 H0 G H G2 H2) :
    ∃ a vs, v = .ref a ∧ H2 a = some (.lst vs) ∧ reps G2.F ds vs ∧ H a = some (.lst vs) := by
  cases sv with
  | tr d =>
    cases e
    obtain ⟨a, vs, rfl, ea, r⟩ := r
    exact ⟨a, vs, rfl, l.ok.sub _ _ (l.frz _ _ ea), reps.mono l.frz _ _ r, E0.ok.sub _ _ ea⟩
  | own d =>
    cases e
    have hc : c = true := hs
    subst hc
    obtain ⟨a, rfl, _, _, nb, vs, ea, r⟩ := r
    exact ⟨a, vs, rfl, Ext.same l _ _ ea nb nofun, reps.mono l.frz _ _ r, ea⟩
  | pk d =>
    cases e
    have hc : c = true := hs
    subst hc
    obtain ⟨a, rfl, nb, vs, ea, r⟩ := r
    exact ⟨a, vs, rfl, Ext.same l _ _ ea nb nofun, reps.mono l.frz _ _ r, ea⟩
  | brw d =>
    cases e
    obtain ⟨a, rfl, h0, nb, vs, ea, r⟩ := r
    cases c with
    | true => exact ⟨a, vs, rfl, Ext.same l _ _ ea nb nofun, reps.mono l.frz _ _ r, ea⟩
    | false =>
      have nb0 : G0.pb ≠ some a := fun z => nb (E0.pb a z)
      obtain ⟨o, ho⟩ := Option.ne_none_iff_exists'.mp h0
      have nt : ∀ ps, o ≠ .tbl ps := fun ps z => by
        obtain ⟨ps', q⟩ := E0.tbl a ps (by rw [← z]; exact ho)
        rw [ea] at q
        cases q
      have e1 := E0.same a o ho nb0 nt
      rw [ea] at e1
      cases e1
      exact ⟨a, vs, rfl, l.1.same _ _ ho nb0 nofun, reps.mono l.frz _ _ r, ea⟩
  | bag | obj _ _ _ | pob _ _ | bob _ _ | exc _ _ _ _ => exact hs.elim
  | tz _ => cases e
/-- the items of a list, a tuple, a text -/
def D.items : D → Option (List D)
  | .lst ds => some ds
  | .tup ds => some ds
  | .str z => some (z.cps.toList.map fun c => .str ⟨#[c]⟩)
  | _ => none
@[simp] def giSeq (c : Bool) (g : GE) : GI := fun S Q => g S fun sv => ((∃ ds, sv.d = .lst ds) → sv.stays c) ∧ ∃ ds, sv.d.items = some ds ∧ Q ds
/-- range(n), range(a, b) -/
def rngD (lo : Int) (n : Nat) : List D := (List.range n).map fun i => D.int (lo + (i : Nat))
@[simp] def giR1 (ga : GA) : GI := fun S Q => ga S fun svs => ∃ n : Int, svs.map SV.d = [.int n] ∧ (-(2 ^ 62) ≤ n ∧ n < 2 ^ 62) ∧ Q (rngD 0 n.toNat)
@[simp] def giR2 (ga : GA) : GI := fun S Q => ga S fun svs => ∃ m n : Int, svs.map SV.d = [.int m, .int n] ∧ (-(2 ^ 62) ≤ m ∧ m < 2 ^ 62 ∧ -(2 ^ 62) ≤ n ∧ n < 2 ^ 62) ∧ Q (rngD m (n - m).toNat)
/-- enumerate(xs), zip(xs, ys) -/
def enumD (ds : List D) : List D := (List.range ds.length).map fun i => .tup [.int (i : Nat), ds.getD i .non]
def zipD : List D → List D → List D
  | d :: ds, e :: es => .tup [d, e] :: zipD ds es
  | _, _ => []
def giEnum (c : Bool) (ga : GA) : GI := fun S Q => ga S fun svs => ∃ sv ds, svs = [sv] ∧ sv.stays c ∧ sv.d = .lst ds ∧ Q (enumD ds)
def giZip (c : Bool) (ga : GA) : GI := fun S Q => ga S fun svs => ∃ sx sy, svs = [sx, sy] ∧ ((∃ ds es, sx.stays c ∧ sy.stays c ∧ sx.d = .lst ds ∧ sy.d = .lst es ∧ Q (zipD ds es)) ∨ (∃ ds es, sx.d = .tup ds ∧ sy.d = .tup es ∧ Q (zipD ds es)))
theorem zipD_get : ∀ {ds es : List D} {i : Nat} {d : D}, (zipD ds es)[i]? = some d → ∃ x y, d = .tup [x, y] ∧ ds[i]? = some x ∧ es[i]? = some y
  | d :: ds, e :: es, 0, _, h => by cases h; exact ⟨d, e, rfl, rfl, rfl⟩
  | d :: ds, e :: es, i + 1, _, h => by
    rw [zipD, List.getElem?_cons_succ] at h
    exact zipD_get (i := i) h
  | [], _, _, _, h => by simp [zipD] at h
  | _ :: _, [], _, _, h => by simp [zipD] at h
theorem zipD_len : ∀ (ds es : List D), (zipD ds es).length = min ds.length es.length
  | d :: ds, e :: es => by rw [zipD, List.length_cons, List.length_cons, List.length_cons, zipD_len ds es]; omega
  | [], _ => by simp [zipD]
  | _ :: _, [] => by simp [zipD]
section
variable {c : Bool} {X : Cx} {EX : EXT} {tg e : Expr} {g : GE} {ga : GA} {p pos tpos : Pos} {elts : List Expr} {kk : Nat}
theorem yields_pair {c : Bool} {G2 : Gh} {H2 H3 : Hp} {T : Addr} {x y : D} {v w : V} (ok : OkG G2 H2) (hT : H2 T = none) (rv : rep G2.F x v) (rw_ : rep G2.F y w) (e : H3 = upd H2 T (.tup [v, w])) : ∃ G3, Ext G2 H2 G3 H3 ∧ rep G3.F (.tup [x, y]) (.ref T) := by
  subst e
  refine ⟨_, ext_frz ok hT _, T, [v, w], rfl, .inl upd_same, ?_⟩
  exact ⟨v, [w], rfl, rep.mono (upd_mono (ok.nF hT)) _ _ rv, w, [], rfl, rep.mono (upd_mono (ok.nF hT)) _ _ rw_, rfl⟩
theorem vi_seq (he : VE X EX e g) : VI c X EX tg e (giSeq c g) := by
  refine ⟨fun G0 H0 tk => piOf fun σ H Q ⟨G, S, Qs, R, q, k⟩ => ?_⟩
  -- which kind it is: the reading tells it
  refine ⟨fun σ H R' => TV G0 H0 g σ H fun v H1 => (∃ a, v = .ref a ∧ (∃ xs, SqL X.K H1 a xs) ∧ R' (Itl X.K a) H1) ∨ (∃ a, v = .ref a ∧ (∃ xs, SqT X.K H1 a xs) ∧ R' (Itt X.K a) H1) ∨ ∃ x, v = .str x ∧ R' (Its x) H1, ?_, ?_⟩
  · refine ⟨fun pins s σ H R I h => ?_⟩
    refine thn ((he.pe G0 H0 tk).run pins s σ H _ I h) fun v s1 ⟨x, H1, I1, r1, q1⟩ => ?_
    rcases q1 with ⟨a, rfl, hx, q1⟩ | ⟨a, rfl, hx, q1⟩ | ⟨z, rfl, q1⟩
    · obtain ⟨xs, hq⟩ := hx
      obtain ⟨its, rv, pl, hz⟩ := I1.list hq
      cases r1
      refine wpAny_pyIter_list pl.isList ?_
      refine ⟨s1.heap.objs.size, [s1.heap.objs.size], _, _, H1, rfl, I1.kept (t' := s1.toks) fun b o e => Heap.get?_push_of_some _ e, turn_list a _, ⟨_, Heap.get?_push_size _ rfl, rfl, rfl⟩, fun b hb => ?_, q1⟩
      have e : b = s1.heap.objs.size := by simpa using hb
      subst e
      exact I1.fpOk (Nat.le_refl _) (I1.hok.fresh (Nat.le_refl _))
    · obtain ⟨xs, hq⟩ := hx
      obtain ⟨its, rv, pl, hz⟩ := I1.tuple hq
      cases r1
      refine wpAny_pyIter_tuple (show s1.heap.IsTuple a its.toArray from pl) ?_
      refine ⟨s1.heap.objs.size, [s1.heap.objs.size], _, _, H1, rfl, I1.kept (t' := s1.toks) fun b o e => Heap.get?_push_of_some _ e, turn_tuple a _, ⟨_, Heap.get?_push_size _ rfl, rfl, rfl⟩, fun b hb => ?_, q1⟩
      have e : b = s1.heap.objs.size := by simpa using hb
      subst e
      exact I1.fpOk (Nat.le_refl _) (I1.hok.fresh (Nat.le_refl _))
    · obtain ⟨t, rfl⟩ := r1
      cases ha : z.cps.all (· < 128)
      · exact wpAny_pyIter_wide ha (pi_one (tk := s1.toks) I1 _ (turn_str _ z t "str_iterator" (.inr rfl)) ⟨_, Heap.get?_push_size _ rfl, rfl, rfl⟩ q1)
      · exact wpAny_pyIter_ascii ha (pi_one (tk := s1.toks) I1 _ (turn_str _ z t "str_ascii_iterator" (.inl rfl)) ⟨_, Heap.get?_push_size _ rfl, rfl, rfl⟩ q1)
  · refine ⟨G, S, _, R, q, fun v H1 G1 sv E1 r1 q1 => ?_⟩
    obtain ⟨hst, ds, hds, q1⟩ := q1
    have E0 := R.ext.trans E1
    cases hd : sv.d with
    | lst xs =>
      rw [hd] at hds
      cases hds
      have st := hst ⟨_, hd⟩
      obtain ⟨a, vs, rfl, ea, ra⟩ := r1.lst E1.ok hd
      refine .inl ⟨a, rfl, ⟨vs, .of ea⟩, k _ _ _ _ E1 (fun G2 H2 l => ?_) q1⟩
      obtain ⟨a', ws, e', e2, r2, _⟩ := r1.later E0 st hd l
      cases e'
      refine ⟨fun i hi => ⟨ws, .of e2, by rw [r2.length]; exact hi⟩, fun i d hi => ?_⟩
      obtain ⟨w, hw, rw_⟩ := r2.get hi
      refine ⟨⟨ws, w, .of e2, hw⟩, fun x H3 y => ?_⟩
      obtain ⟨rfl, y⟩ := y
      have hx : x = w := Option.some.inj ((y ws (.of e2)).symm.trans hw)
      subst hx
      exact ⟨G2, .refl l.ok, rw_⟩
    | tup xs =>
      rw [hd] at hds
      cases hds
      have t := r1.tree hd (fun _ _ _ z => z) (fun z => nomatch z)
      obtain ⟨a, vs, rfl, ea, ra⟩ := t
      refine .inr (.inl ⟨a, rfl, ⟨vs, .inl (rdUp E1.ok.sub ea)⟩, k _ _ _ _ E1 (fun G2 H2 l => ?_) q1⟩)
      have e2 := rdUp l.ok.sub (rdUp l.frz ea)
      have r2 := reps.mono l.frz _ _ ra
      refine ⟨fun i hi => ⟨vs, .inl e2, by rw [r2.length]; exact hi⟩, fun i d hi => ?_⟩
      obtain ⟨w, hw, rw_⟩ := r2.get hi
      refine ⟨⟨vs, w, .inl e2, hw⟩, fun x H3 y => ?_⟩
      obtain ⟨rfl, y⟩ := y
      have hx : x = w := Option.some.inj ((y vs (.inl e2)).symm.trans hw)
      subst hx
      exact ⟨G2, .refl l.ok, rw_⟩
    | str z =>
      rw [hd] at hds
      cases hds
      obtain ⟨rfl, hz⟩ := r1.str hd
      refine .inr (.inr ⟨z, rfl, k _ _ _ _ E1 (fun G2 H2 l => ?_) q1⟩)
      refine ⟨fun i hi => ?_, fun i d hi => ?_⟩
      · rw [List.length_map, Array.length_toList] at hi
        exact hi
      · rw [List.getElem?_map] at hi
        cases hc : z.cps.toList[i]? with
        | none => rw [hc] at hi; cases hi
        | some cc =>
          rw [hc] at hi
          cases hi
          have hc' : z.cps[i]? = some cc := by rw [← Array.getElem?_toList]; exact hc
          have hlt : i < z.cps.size := (Array.getElem?_eq_some_iff.mp hc').1
          refine ⟨hlt, fun x H3 y => ?_⟩
          obtain ⟨rfl, c2, h2, rfl⟩ := y
          have hcc : c2 = cc := Option.some.inj (h2.symm.trans hc')
          subst hcc
          refine ⟨G2, .refl l.ok, rfl, ?_⟩
          refine okS_one (z := z) (i := (i : Nat)) hz ?_
          unfold atI ixN
          rw [if_pos (by omega), if_pos (by rw [Array.length_toList]; omega)]
          simpa using hc
    | non => rw [hd] at hds; cases hds
    | bl _ => rw [hd] at hds; cases hds
    | int _ => rw [hd] at hds; cases hds
    | dic _ => rw [hd] at hds; cases hds
    | dit _ => rw [hd] at hds; cases hds
    | ins _ _ | exn _ _ => rw [hd] at hds; cases hds
    | opq => rw [hd] at hds; cases hds
theorem yields_rng {G0 G : Gh} {H0 H : Hp} (lo : Int) (n : Nat) : Yields c G0 H0 G H (Itr lo n) (rngD lo n) := fun G2 H2 l => by
  refine ⟨fun i hi => ?_, fun i d hi => ?_⟩
  · rw [rngD, List.length_map, List.length_range] at hi
    exact hi
  · rw [rngD, List.getElem?_map] at hi
    by_cases h : i < n
    · rw [List.getElem?_range h] at hi
      cases hi
      refine ⟨h, fun x H3 y => ?_⟩
      obtain ⟨rfl, rfl⟩ := y
      exact ⟨G2, .refl l.ok, rfl⟩
    · rw [List.getElem?_eq_none (by simpa using h)] at hi
      cases hi
theorem vi_r1 {a : Expr} (hg : Gl X "range") (hm : X.mg "range" = none) (ha : VA X EX [a] ga) (hs : starEach [a] X.env = [(false, eval a X.env)] := by rfl) : VI c X EX tg (.Call (.Name "range" p) [a] [] pos) (giR1 ga) := by
  refine ⟨fun G0 H0 tk => piMono (pi_range1 hg hm (ha.pa G0 H0 tk) hs) fun σ H Q ⟨G, S, Qs, R, q, k⟩ => ?_⟩
  refine ⟨G, S, _, R, q, fun vs H1 G1 svs E1 r1 q1 => ?_⟩
  obtain ⟨n, hn, hb, q1⟩ := q1
  obtain ⟨v, sv, rfl, rfl, e, rv⟩ := repl1 r1 hn
  exact ⟨n, by rw [rv.int e], hb.1, hb.2, k _ _ _ _ E1 (yields_rng 0 _) q1⟩
theorem vi_r2 {a b : Expr} (hg : Gl X "range") (hm : X.mg "range" = none) (ha : VA X EX [a, b] ga) (hs : starEach [a, b] X.env = [(false, eval a X.env), (false, eval b X.env)] := by rfl) (hs2 : starEach [b] X.env = [(false, eval b X.env)] := by rfl) : VI c X EX tg (.Call (.Name "range" p) [a, b] [] pos) (giR2 ga) := by
  refine ⟨fun G0 H0 tk => piMono (pi_range2 hg hm (ha.pa G0 H0 tk) hs hs2) fun σ H Q ⟨G, S, Qs, R, q, k⟩ => ?_⟩
  refine ⟨G, S, _, R, q, fun vs H1 G1 svs E1 r1 q1 => ?_⟩
  obtain ⟨m, n, hn, hb, q1⟩ := q1
  obtain ⟨v, sv, w, sw, rfl, rfl, e, e2, rv, rw_⟩ := repl2 r1 hn
  exact ⟨m, n, by rw [rv.int e, rw_.int e2], hb, k _ _ _ _ E1 (yields_rng m _) q1⟩
theorem vi_enum (hg : Gl X "enumerate") (hm : X.mg "enumerate" = none) (ha : VA X EX [e] ga) (hs : starEach [e] X.env = [(false, eval e X.env)] := by rfl) : VI c X EX (.Tuple elts kk tpos) (.Call (.Name "enumerate" p) [e] [] pos) (giEnum c ga) := by
  refine ⟨fun G0 H0 tk => piMono (pi_enum hg hm (ha.pa G0 H0 tk) hs) fun σ H Q ⟨G, S, Qs, R, q, k⟩ => ?_⟩
  refine ⟨G, S, _, R, q, fun vs H1 G1 svs E1 r1 q1 => ?_⟩
  obtain ⟨sv, ds, rfl, st, hd, q1⟩ := q1
  cases r1 with
  | cons rv rr _ =>
    cases rr
    obtain ⟨a, vs, rfl, ea, ra⟩ := rv.lst E1.ok hd
    refine ⟨a, vs, rfl, .of ea, k _ _ _ _ E1 (fun G2 H2 l => ?_) q1⟩
    obtain ⟨a', ws, e', e2, r2, _⟩ := rv.later (R.ext.trans E1) st hd l
    cases e'
    refine ⟨fun i hi => ⟨ws, .of e2, ?_⟩, fun i d hi => ?_⟩
    · rw [enumD, List.length_map, List.length_range] at hi
      rw [r2.length]; exact hi
    · rw [enumD, List.getElem?_map] at hi
      by_cases h : i < ds.length
      · rw [List.getElem?_range h] at hi
        cases hi
        obtain ⟨w, hw, rw_⟩ := r2.get (List.getElem?_eq_getElem h)
        refine ⟨⟨ws, w, .of e2, hw⟩, fun x H3 y => ?_⟩
        obtain ⟨T, x', rfl, hT, eT, y⟩ := y
        have hx : x' = w := Option.some.inj ((y ws (.of e2)).symm.trans hw)
        subst hx
        refine yields_pair (c := true) l.ok hT (x := .int (i : Nat)) (show V.int _ = V.int _ from rfl) ?_ eT
        rw [show ds.getD i D.non = ds[i] by simp [h]]
        exact rw_
      · rw [List.getElem?_eq_none (by simpa using h)] at hi
        cases hi
theorem vi_zip {e2 : Expr} (hg : Gl X "zip") (hm : X.mg "zip" = none) (ha : VA X EX [e, e2] ga)
    (hs : starEach [e, e2] X.env = (false, eval e X.env) :: starEach [e2] X.env := by rfl) (hpl : (backTo pos (starEach [e2] X.env)).any (·.1) = false := by rfl) :
    VI c X EX (.Tuple elts kk tpos) (.Call (.Name "zip" p) [e, e2] [] pos) (giZip c ga) := by
  refine ⟨fun G0 H0 tk => piMono (RZ.pi_zipA hg hm (ha.pa G0 H0 tk) hs hpl) fun σ H Q ⟨G, S, Qs, R, q, k⟩ => ?_⟩
  refine ⟨G, S, _, R, q, fun vs H1 G1 svs E1 r1 q1 => ?_⟩
  obtain ⟨sx, sy, rfl, q1⟩ := q1
  cases r1 with
  | cons rx rr _ =>
    cases rr with
    | cons ry rr _ =>
      cases rr
      rcases q1 with ⟨ds, es, s1, s2, hx, hy, q1⟩ | ⟨ds, es, hx, hy, q1⟩
      · obtain ⟨a, vs, rfl, ea, ra⟩ := rx.lst E1.ok hx
        obtain ⟨b, ws, rfl, eb, rb⟩ := ry.lst E1.ok hy
        refine ⟨a, b, vs, ws, rfl, .inl ⟨.of ea, .of eb, k _ _ _ _ E1 (fun G2 H2 l => ?_) q1⟩⟩
        obtain ⟨a', vs', e', ea2, ra2, _⟩ := rx.later (R.ext.trans E1) s1 hx l
        cases e'
        obtain ⟨b', ws', e', eb2, rb2, _⟩ := ry.later (R.ext.trans E1) s2 hy l
        cases e'
        refine ⟨fun i hi => ⟨vs', ws', .of ea2, .of eb2, ?_⟩, fun i d hi => ?_⟩
        · rw [zipD_len] at hi
          rw [ra2.length, rb2.length]
          omega
        · obtain ⟨x, y, rfl, hxi, hyi⟩ := zipD_get hi
          obtain ⟨v, hv, rv⟩ := ra2.get hxi
          obtain ⟨w, hw, rw_⟩ := rb2.get hyi
          refine ⟨⟨vs', ws', v, w, .of ea2, .of eb2, hv, hw⟩, fun z H3 yl => ?_⟩
          obtain ⟨T, x', y', rfl, hT, eT, y1, y2⟩ := yl
          have h1 : x' = v := Option.some.inj ((y1 vs' (.of ea2)).symm.trans hv)
          have h2 : y' = w := Option.some.inj ((y2 ws' (.of eb2)).symm.trans hw)
          subst h1 h2
          exact yields_pair (c := true) l.ok hT rv rw_ eT
      · obtain ⟨a, vs, rfl, ea, ra⟩ := rx.tree hx (fun _ _ _ z => z) (fun z => nomatch z)
        obtain ⟨b, ws, rfl, eb, rb⟩ := ry.tree hy (fun _ _ _ z => z) (fun z => nomatch z)
        refine ⟨a, b, vs, ws, rfl, .inr ⟨.inl (rdUp E1.ok.sub ea), .inl (rdUp E1.ok.sub eb), k _ _ _ _ E1 (fun G2 H2 l => ?_) q1⟩⟩
        have ea2 := rdUp l.ok.sub (rdUp l.frz ea)
        have eb2 := rdUp l.ok.sub (rdUp l.frz eb)
        have ra2 := reps.mono l.frz _ _ ra
        have rb2 := reps.mono l.frz _ _ rb
        refine ⟨fun i hi => ⟨vs, ws, .inl ea2, .inl eb2, ?_⟩, fun i d hi => ?_⟩
        · rw [zipD_len] at hi
          rw [ra2.length, rb2.length]
          omega
        · obtain ⟨x, y, rfl, hxi, hyi⟩ := zipD_get hi
          obtain ⟨v, hv, rv⟩ := ra2.get hxi
          obtain ⟨w, hw, rw_⟩ := rb2.get hyi
          refine ⟨⟨vs, ws, v, w, .inl ea2, .inl eb2, hv, hw⟩, fun z H3 yl => ?_⟩
          obtain ⟨T, x', y', rfl, hT, eT, y1, y2⟩ := yl
          have h1 : x' = v := Option.some.inj ((y1 vs (.inl ea2)).symm.trans hv)
          have h2 : y' = w := Option.some.inj ((y2 ws (.inl eb2)).symm.trans hw)
          subst h1 h2
          exact yields_pair (c := true) l.ok hT rv rw_ eT
end
end VT

namespace VT
open PySem PySem.Spec PyProof.Rows L2

/-! ### an object newer than the beginning is changed -/
/-- something plain stands there -/
def Plain (H : Hp) (a : Addr) : Prop := ∃ u, H a = some u ∧ (∀ ps, u ≠ .tbl ps) ∧ ∀ φ, u ≠ .ext φ
theorem Plain.lst {H : Hp} {a : Addr} {xs : List V} (h : H a = some (.lst xs)) : Plain H a := ⟨_, h, nofun, nofun⟩
theorem Plain.dK {H : Hp} {a : Addr} {xs : List (Key × V)} (h : H a = some (.dK xs)) : Plain H a := ⟨_, h, nofun, nofun⟩
theorem Plain.ins {H : Hp} {a C dx : Addr} {fs : List (Str × V)} (h : H a = some (.ins C dx fs)) : Plain H a := ⟨_, h, nofun, nofun⟩
theorem cont.plain {F H : Hp} {a : Addr} {d : D} (h : cont F H a d) : Plain H a := by
  cases d with
  | lst ds => obtain ⟨vs, e, r⟩ := h; exact ⟨_, e, nofun, nofun⟩
  | dic kvs => obtain ⟨vs, e, r⟩ := h; exact ⟨_, e, nofun, nofun⟩
  | dit kvs => obtain ⟨vs, e, r⟩ := h; exact ⟨_, e, nofun, nofun⟩
  | _ => exact h.elim
theorem Plain.tabs {T : List (Addr × Str)} {H : Hp} {a : Addr} (p : Plain H a) (o : HO) (h : LamX.Tabs T H) : LamX.Tabs T (upd H a o) := by
  obtain ⟨u, e, n1, n2⟩ := p
  exact tabs_put h e n1 n2
theorem ext_write {G G' : Gh} {H H' : Hp} {a : Addr} (E : Ext G H G' H') (hn : H a = none) (hF : G'.F a = none) (hb : G'.pb ≠ some a) (o : HO) (hp : Plain H' a) : Ext G H G' (upd H' a o) where
  ok := ⟨fun b u e => by
      rw [upd_ne (fun z => by rw [z, hF] at e; cases e)]
      exact E.ok.sub b u e, fun q e => ⟨(E.ok.bag q e).1.go (fun u h => by rw [upd_ne (fun z => hb (by rw [← z]; exact e))]; exact h) fun _ _ z => z, (E.ok.bag q e).2⟩, hp.tabs o E.ok.tabs⟩
  same := fun b u e q n => by rw [upd_ne (ne_of_none e hn)]; exact E.same b u e q n
  tbl := fun b ps e => by
    obtain ⟨ps', z⟩ := E.tbl b ps e
    exact ⟨ps', by rw [upd_ne (ne_of_none e hn)]; exact z⟩
  tt := E.tt
  pb := E.pb
  pnew := E.pnew
  frz := E.frz
  new := E.new

/-! ### comprehensions -/
/-- the tests of a clause -/
structure VCs (X : Cx) (EX : EXT) (ifs : List Expr) (g : GT) : Prop where
  pts : ∀ G0 H0, Lk X EX G0 H0 → PTs X ifs (TTV G0 H0 g)
@[simp] def gYes : GT := fun _ Q => Q true
section
variable {X : Cx} {EX : EXT}
theorem vcs_nil : VCs X EX [] gYes := ⟨fun G0 H0 tk => ⟨fun pins s σ H Q I ⟨G, S, Qs, R, q, k⟩ => pts_nil.run pins s σ H Q I (k true H G (.refl R.ok) q)⟩⟩
theorem vcs_one {c : Expr} {g : GT} (h : VC X EX c g) : VCs X EX [c] g := ⟨fun G0 H0 tk => pts_one (h.pt G0 H0 tk)⟩
/-- [e for tg in it if t]: W of what is left and what is made -/
def gLc (gi : GI) (gg : GG) (gt : GT) (ge : GE) (vs : List Nat) : GE := fun S Q => gi S fun ds => ∃ W : List D → List D → Prop, W ds [] ∧ (∀ acc, W [] acc → Q (.own (.lst acc))) ∧
  ∀ d r acc, W (d :: r) acc → gg d (wipeS S vs) fun S2 => gt S2 fun b => if b = true then ge S2 fun sv => ∃ y, sv = .tr y ∧ acc.length < sizeLine ∧ W r (acc ++ [y]) else W r acc
theorem gLc_t {c : Bool} {gi : GI} {gg : GG} {gt : GT} {ge : GE} {vs : List Nat} {K : PySem.W.Frag} {G0 : Gh} {H0 : Hp} {σ : L2.St} {H : Hp} {Q : VK} (hc : c = true) (h : TV G0 H0 (gLc gi gg gt ge vs) σ H Q) : tLc (TIV c G0 H0 gi) (TGV G0 H0 vs gg) (TTV G0 H0 gt) (TV G0 H0 ge) vs σ H Q := by
  subst hc
  obtain ⟨G, S, Qs, R, q, k⟩ := h
  refine ⟨G, S, _, R, q, fun J H1 G1 ds E1 Y q1 => ?_⟩
  obtain ⟨W, w0, wd, ws⟩ := q1
  intro D hD
  have R1 := R.go E1
  refine ⟨fun i m H2 => ∃ G2 acc vsD, Ext G1 H1 G2 H2 ∧ H2 D = some (.lst vsD) ∧ G2.F D = none ∧ G2.pb ≠ some D ∧ reps G2.F acc vsD ∧ W (ds.drop i) acc ∧ m = ds.length - i ∧ i ≤ ds.length, ⟨ds.length, G1, [], [], ext_new E1.ok hD _, upd_same, E1.ok.nF hD, E1.ok.npb hD, rfl, w0, by simp, Nat.zero_le _⟩, ?_⟩
  rintro i m H2 ⟨G2, acc, vsD, E2, e2, f2, b2, ra, w, rfl, hi⟩
  by_cases hlt : i < ds.length
  · obtain ⟨y1, y2⟩ := Y G2 H2 E2
    have hd : ds[i]? = some ds[i] := List.getElem?_eq_getElem hlt
    obtain ⟨go, yl⟩ := y2 i _ hd
    rw [List.drop_eq_getElem_cons hlt] at w
    refine .inr ⟨go, fun H' => ∃ m', m' < ds.length - i ∧ ∃ G2 acc vsD, Ext G1 H1 G2 H' ∧ H' D = some (.lst vsD) ∧ G2.F D = none ∧ G2.pb ≠ some D ∧ reps G2.F acc vsD ∧ W (ds.drop (i + 1)) acc ∧ m' = ds.length - (i + 1) ∧ i + 1 ≤ ds.length, fun H' z => z, fun x H3 yx => ?_⟩
    obtain ⟨G3, E3, rx⟩ := yl x H3 yx
    refine ⟨G3, wipeS S vs, ds[i], _, ((R1.go E2).go E3).wipe vs, rx, ws _ _ _ w, fun σ2 S2 R2 off q2 => ⟨off.wiped, ?_⟩⟩
    refine ⟨G3, S2, _, R2, q2, fun b H4 G4 E4 q4 => ?_⟩
    have ne2 : H2 D ≠ none := by rw [e2]; simp
    have E24 := E3.trans E4
    have e4 : H4 D = some (.lst vsD) := E24.same _ _ e2 b2 nofun
    cases b with
    | false =>
      rw [if_neg Bool.false_ne_true] at q4
      refine iteF ?_
      exact ⟨_, by omega, G4, acc, vsD, E2.trans E24, e4, E24.nF f2 ne2, E24.npb b2 ne2, reps.mono E24.frz _ _ ra, q4, rfl, by omega⟩
    | true =>
      rw [if_pos rfl] at q4
      refine iteT ?_
      refine ⟨G4, S2, _, R2.go E4, q4, fun v H5 G5 sv E5 r5 q5 => ?_⟩
      obtain ⟨y, rfl, hz, q5⟩ := q5
      have E25 := E24.trans E5
      have e5 : H5 D = some (.lst vsD) := E25.same _ _ e2 b2 nofun
      have rz := reps.mono E25.frz _ _ ra
      refine ⟨vsD, e5, by rw [rz.length]; exact hz, _, by omega, G5, acc ++ [y], vsD ++ [v], ext_write (E2.trans E25) hD (E25.nF f2 ne2) (E25.npb b2 ne2) _ (.lst e5), upd_same, E25.nF f2 ne2, E25.npb b2 ne2, rz.append ⟨v, [], rfl, r5, rfl⟩, q5, rfl, by omega⟩
  · have e : i = ds.length := by omega
    subst e
    rw [List.drop_length] at w
    obtain ⟨y1, _⟩ := Y G2 H2 E2
    exact .inl ⟨y1 _ (Nat.le_refl _), k _ _ G2 (.own (.lst acc)) (E1.trans E2) ⟨D, rfl, E1.dom hD, f2, b2, vsD, e2, ra⟩ (wd _ w)⟩
theorem ve_lc {elt tg iter : Expr} {ifs : List Expr} {scope : Scope} {own : List (Str × Nat)} {pos : Pos} {gi : GI} {gg : GG} {gt : GT} {ge : GE} (hc : X.calm = true) (hN : X.N.Nodup) (hi : VI true X EX tg iter gi) (ok : BlkOk X.N X.env.scope scope own)
    (hg : ∀ (s : Shared) (H : Hp) (C : Addr) (cl : List (Str × Addr)) (fp : List Addr), VG (X.blk s H scope (compEnvC scope cl C X.env) fp) tg (own.map (·.2)) gg) (ht : ∀ (s : Shared) (H : Hp) (C : Addr) (cl : List (Str × Addr)) (fp : List Addr), VCs (X.blk s H scope (compEnvC scope cl C X.env) fp) E0T ifs gt)
    (he : ∀ (s : Shared) (H : Hp) (C : Addr) (cl : List (Str × Addr)) (fp : List Addr), VE (X.blk s H scope (compEnvC scope cl C X.env) fp) E0T elt ge) (hs : ∀ x, foldedSetIterable iter X.env x = pure x := by intro _; rfl) :
    VE X EX (.ListComp elt [⟨tg, iter, ifs, 0⟩] scope pos) (gLc gi gg gt ge (own.map (·.2))) :=
  ⟨fun G0 H0 tk => peMono (pe_lc hc hN (hi.pi G0 H0 tk) ok (fun s H C cl fp => (hg s H C cl fp).pg G0 H0) (fun s H C cl fp => (ht s H C cl fp).pts G0 H0 (tk.blk rfl)) (fun s H C cl fp => (he s H C cl fp).pe G0 H0 (tk.blk rfl)) hs) fun σ H Q h => gLc_t (K := X.K) rfl h⟩
end

/-- a result is a tree, an object of the frame's own or the bag -/
def SV.isRet : SV → Prop
  | .tr _ => True
  | .own _ => True
  | .bag => True
  | _ => False
/-! ### statements -/
structure VEnds where
  nx : S → Prop
  rt : SV → Prop
  bk : S → Prop := fun _ => False
  ct : S → Prop := fun _ => False
abbrev GS := VEnds → S → Prop
/-- what was frozen is frozen -/
abbrev Mono (G G' : Gh) : Prop := ∀ b o, G.F b = some o → G'.F b = some o
/-- behind a statement that began at Gs -/
structure KD (G0 : Gh) (H0 : Hp) (Gs : Gh) (DV : VEnds) (D : Ends) : Prop where
  nx : ∀ σ H G S, Rel G0 H0 G H σ S → Mono Gs G → DV.nx S → D.nx σ H
  rt : ∀ v H G sv, Ext G0 H0 G H → RepV H0 H0 G H v sv → sv.isRet → DV.rt sv → D.rt v H
  bk : ∀ σ H G S, Rel G0 H0 G H σ S → Mono Gs G → DV.bk S → D.bk σ H
  ct : ∀ σ H G S, Rel G0 H0 G H σ S → Mono Gs G → DV.ct S → D.ct σ H
theorem KD.go {G0 Gs G : Gh} {H0 : Hp} {DV : VEnds} {D : Ends} (k : KD G0 H0 Gs DV D) (m : Mono Gs G) : KD G0 H0 G DV D :=
  ⟨fun σ H G' S R m' q => k.nx σ H G' S R (fun b o h => m' b o (m b o h)) q, k.rt, fun σ H G' S R m' q => k.bk σ H G' S R (fun b o h => m' b o (m b o h)) q, fun σ H G' S R m' q => k.ct σ H G' S R (fun b o h => m' b o (m b o h)) q⟩
def TSV (G0 : Gh) (H0 : Hp) (g : GS) : TS := fun D σ H => ∃ G S DV, Rel G0 H0 G H σ S ∧ g DV S ∧ KD G0 H0 G DV D
structure VS (X : Cx) (EX : EXT) (st : Stmt) (g : GS) : Prop where
  ps : ∀ G0 H0, Lk X EX G0 H0 → PS X st (TSV G0 H0 g)
structure VSs (X : Cx) (EX : EXT) (st : List Stmt) (g : GS) : Prop where
  pss : ∀ G0 H0, Lk X EX G0 H0 → PSs X st (TSV G0 H0 g)
section
variable {X : Cx} {EX : EXT} {st : Stmt} {sts : List Stmt} {e : Expr} {ge : GE} {g g' : GS} {pos : Pos}
theorem psMono {t t' : TS} (h : PS X st t) (k : ∀ D σ H, t' D σ H → t D σ H) : PS X st t' := ⟨fun pins s σ H D I q => h.run pins s σ H D I (k D σ H q)⟩
theorem pssMono {t t' : TS} (h : PSs X sts t) (k : ∀ D σ H, t' D σ H → t D σ H) : PSs X sts t' := ⟨fun pins s σ H D I q => h.run pins s σ H D I (k D σ H q)⟩
@[simp] def gNext : GS := fun D S => D.nx S
def gSeq (g g' : GS) : GS := fun D S => g { D with nx := g' D } S
theorem vss_nil : VSs X EX [] gNext := ⟨fun G0 H0 tk => pssMono pss_nil fun D σ H ⟨G, S, DV, R, q, k⟩ => k.nx σ H G S R (fun _ _ h => h) q⟩
theorem vss_cons (h1 : VS X EX st g) (h2 : VSs X EX sts g') : VSs X EX (st :: sts) (gSeq g g') :=
  ⟨fun G0 H0 tk => pssMono (pss_cons (h1.ps G0 H0 tk) (h2.pss G0 H0 tk)) fun D σ H ⟨G, S, DV, R, q, k⟩ => ⟨G, S, _, R, q, fun σ' H' G' S' R' m q' => ⟨G', S', DV, R', q', k.go m⟩, k.rt, k.bk, k.ct⟩⟩
theorem vss_one (h1 : VS X EX st g) : VSs X EX [st] g := ⟨fun G0 H0 tk => pss_one (h1.ps G0 H0 tk)⟩
@[simp] def gBreak : GS := fun D S => D.bk S
@[simp] def gCont : GS := fun D S => D.ct S
theorem vs_pass : VS X EX (.Pass pos) gNext := ⟨fun G0 H0 tk => psMono ps_pass fun D σ H ⟨G, S, DV, R, q, k⟩ => k.nx σ H G S R (fun _ _ h => h) q⟩
theorem vs_break : VS X EX (.Break pos) gBreak := ⟨fun G0 H0 tk => psMono ps_break fun D σ H ⟨G, S, DV, R, q, k⟩ => k.bk σ H G S R (fun _ _ h => h) q⟩
theorem vs_cont : VS X EX (.Continue pos) gCont := ⟨fun G0 H0 tk => psMono ps_continue fun D σ H ⟨G, S, DV, R, q, k⟩ => k.ct σ H G S R (fun _ _ h => h) q⟩
@[simp] def gDrop (ge : GE) : GS := fun D S => ge S fun _ => D.nx S
theorem vs_expr (he : VE X EX e ge) (hs : swapsWith e none pos.line X.env = pure false := by rfl) : VS X EX (.Expr e pos) (gDrop ge) :=
  ⟨fun G0 H0 tk => psMono (ps_expr (he.pe G0 H0 tk) hs) fun D σ H ⟨G, S, DV, R, q, k⟩ => ⟨G, S, _, R, q, fun v H1 G1 sv E1 r1 q1 => k.nx σ H1 G1 S (R.go E1) E1.frz q1⟩⟩
@[simp] def gRet (ge : GE) : GS := fun D S => ge S fun sv => sv.isRet ∧ D.rt sv
theorem vs_ret (he : VE X EX e ge) : VS X EX (.Return (some e) pos) (gRet ge) :=
  ⟨fun G0 H0 tk => psMono (ps_ret (he.pe G0 H0 tk)) fun D σ H ⟨G, S, DV, R, q, k⟩ => ⟨G, S, _, R, q, fun v H1 G1 sv E1 r1 q1 => k.rt v H1 G1 sv (R.ext.trans E1) (r1.back fun _ z => R.ext.dom z) q1.1 q1.2⟩⟩
/-- return x, x's own object goes out -/
@[simp] def gRetName (i : Nat) : GS := fun D S => ∃ sv, S[i]? = some (some sv) ∧ sv.isRet ∧ D.rt sv
theorem vs_retName (i : Nat) {x : Str} {p : Pos} (hN : X.N[i]? = some x := by rfl) (hv : Vis X.env.scope x := by first | exact Or.inl rfl | exact Or.inr (Or.inl rfl) | exact Or.inr (Or.inr rfl)) (hd : (x == ("__debug__" : Str)) = false := by decide)
    (hcd : (x == ("__classdict__" : Str)) = false := by decide) : VS X EX (.Return (some (.Name x p)) pos) (gRetName i) :=
  ⟨fun G0 H0 tk => psMono (ps_ret (pe_var hN hv hd hcd)) fun D σ H ⟨G, S, DV, R, q, k⟩ => by
    obtain ⟨sv, e, ir, q⟩ := q
    obtain ⟨v, e1, r⟩ := R.slot i sv e
    exact ⟨v, e1, k.rt v H G sv R.ext r ir q⟩⟩
@[simp] def gRetN : GS := fun D _ => D.rt (.tr .non)
theorem vs_retN : VS X EX (.Return none pos) gRetN := ⟨fun G0 H0 tk => psMono ps_retN fun D σ H ⟨G, S, DV, R, q, k⟩ => k.rt .non H G (.tr .non) R.ext rfl trivial q⟩
@[simp] def gIfS (gc : GT) (g g' : GS) : GS := fun D S => gc S fun b => if b = true then g D S else g' D S
theorem vs_if {c : Expr} {a b : List Stmt} {gc : GT} (hc : VC X EX c gc) (ha : VSs X EX a g) (hb : VSs X EX b g') : VS X EX (.If c a b pos) (gIfS gc g g') :=
  ⟨fun G0 H0 tk => psMono (ps_if (hc.pt G0 H0 tk) (ha.pss G0 H0 tk) (hb.pss G0 H0 tk)) fun D σ H ⟨G, S, DV, R, q, k⟩ => ⟨G, S, _, R, q, fun b H1 G1 E1 q1 => by
    cases b with
    | true =>
      rw [if_pos rfl] at q1 ⊢
      exact ⟨G1, S, DV, R.go E1, q1, k.go E1.frz⟩
    | false =>
      rw [if_neg Bool.false_ne_true] at q1 ⊢
      exact ⟨G1, S, DV, R.go E1, q1, k.go E1.frz⟩⟩⟩
/-- x = e -/
@[simp] def gSet (i : Nat) (ge : GE) : GS := fun D S => ge S fun sv => sv.ok ∧ D.nx (S.set i (some sv))
theorem vs_set {i : Nat} {x : Str} {pos' : Pos} (hN : X.N.Nodup) (hi : X.N[i]? = some x) (hx : Loc X.env.scope x) (he : VE X EX e ge) (hs : swapsWith e (some (.Name x pos')) pos.line X.env = pure false := by rfl) (hf : X.fn x = true ∨ X.env.scope.names.lookup x = some .local := by first | exact .inl rfl | exact .inr rfl | assumption) :
    VS X EX (.Assign [.Name x pos'] e pos) (gSet i ge) :=
  ⟨fun G0 H0 tk => psMono (ps_set hN hi hx (he.pe G0 H0 tk) hs hf) fun D σ H ⟨G, S, DV, R, q, k⟩ => ⟨G, S, _, R, q, fun v H1 G1 sv E1 r1 q1 => k.nx _ _ _ _ (R.setE E1 i r1 q1.1) E1.frz q1.2⟩⟩
/-- x = [e for ..], x a local -/
theorem vs_setLc {i : Nat} {y : Str} {py : Pos} {elt tg iter : Expr} {ifs : List Expr} {scope : Scope} {own : List (Str × Nat)} {cpos spos : Pos} {gi : GI} {gg : GG} {gt : GT} {ge : GE} (hc : X.calm = true) (hN : X.N.Nodup) (hy : X.N[i]? = some y) (hyl : X.env.scope.names.lookup y = some .local)
    (hsw : swapsWith (.ListComp elt [⟨tg, iter, ifs, 0⟩] scope cpos) (some (.Name y py)) spos.line X.env = pure true) (hi : VI true X EX tg iter gi) (ok : BlkOk X.N X.env.scope scope own)
    (hg : ∀ (s : Shared) (H : Hp) (C : Addr) (cl : List (Str × Addr)) (fp : List Addr), VG (X.blk s H scope (compEnvC scope cl C X.env) fp) tg (own.map (·.2)) gg) (ht : ∀ (s : Shared) (H : Hp) (C : Addr) (cl : List (Str × Addr)) (fp : List Addr), VCs (X.blk s H scope (compEnvC scope cl C X.env) fp) E0T ifs gt)
    (he : ∀ (s : Shared) (H : Hp) (C : Addr) (cl : List (Str × Addr)) (fp : List Addr), VE (X.blk s H scope (compEnvC scope cl C X.env) fp) E0T elt ge) (hs : ∀ x, foldedSetIterable iter X.env x = pure x := by intro _; rfl) :
    VS X EX (.Assign [.Name y py] (.ListComp elt [⟨tg, iter, ifs, 0⟩] scope cpos) spos) (gSet i (gLc gi gg gt ge (own.map (·.2)))) :=
  ⟨fun G0 H0 tk => psMono (ps_setLc hc hN hy hyl hsw (hi.pi G0 H0 tk) ok (fun s H C cl fp => (hg s H C cl fp).pg G0 H0) (fun s H C cl fp => (ht s H C cl fp).pts G0 H0 (tk.blk rfl)) (fun s H C cl fp => (he s H C cl fp).pe G0 H0 (tk.blk rfl)) hs) fun D σ H ⟨G, S, DV, R, q, k⟩ =>
    gLc_t (K := X.K) rfl ⟨G, S, fun sv => sv.ok ∧ DV.nx (S.set i (some sv)), R, q, fun v H1 G1 sv E1 r1 q1 => k.nx _ _ _ _ (R.setE E1 i r1 q1.1) E1.frz q1.2⟩⟩
/-- a target of a tree -/
@[simp] def gAsg (gg : GG) (ge : GE) : GS := fun D S => ge S fun sv => ∃ d, sv = .tr d ∧ gg d S D.nx
theorem vs_asg {tg : Expr} {is : List Nat} {gg : GG} (he : VE X EX e ge) (hg : VG X tg is gg) (hs : swapsWithSole [tg] e pos.line X.env = pure false := by rfl) (hw : swappedStores [tg] e X.env = pure none := by rfl)
    (h1 : (assignEach [tg] X.env).map (·.2) = [assign tg X.env] := by rfl) : VS X EX (.Assign [tg] e pos) (gAsg gg ge) :=
  ⟨fun G0 H0 tk => psMono (ps_asg (he.pe G0 H0 tk) (hg.pg G0 H0) hs hw h1) fun D σ H ⟨G, S, DV, R, q, k⟩ => ⟨G, S, _, R, q, fun v H1 G1 sv E1 r1 q1 => by
    obtain ⟨d, rfl, q1⟩ := q1
    exact ⟨G1, S, d, _, R.go E1, r1, q1, fun σ' S' R' _ q' => k.nx _ _ _ _ R' E1.frz q'⟩⟩⟩
/-- x += e -/
@[simp] def gAug (i : Nat) (gop : D → D → (SV → Prop) → Prop) (ge : GE) : GS := fun D S => ∃ dx, S[i]? = some (some (.tr dx)) ∧ ge S fun sv => gop dx sv.d fun z => z.ok ∧ D.nx (S.set i (some z))
@[simp] def gAugI (f : Int → Int → Int) (i : Nat) (ge : GE) : GS := fun D S => ∃ a, S[i]? = some (some (.tr (.int a))) ∧ ge S fun sv => ∃ b, sv.d = .int b ∧ D.nx (S.set i (some (.tr (.int (f a b)))))
theorem vs_augI {f : Int → Int → Int} {op : Operator} {i : Nat} {x : Str} {pos' : Pos} (ho : PIp X op (ipI f)) (hN : X.N.Nodup) (hi : X.N[i]? = some x) (hx : Loc X.env.scope x) (he : VE X EX e ge) (hf : X.fn x = true ∨ X.env.scope.names.lookup x = some .local := by first | exact .inl rfl | exact .inr rfl | assumption) :
    VS X EX (.AugAssign (.Name x pos') op e pos) (gAugI f i ge) :=
  ⟨fun G0 H0 tk => psMono (ps_aug hN hi hx (he.pe G0 H0 tk) ho hf) fun D σ H ⟨G, S, DV, R, q, k⟩ => by
    obtain ⟨a, ea, q⟩ := q
    obtain ⟨v, e1, r⟩ := R.slot i _ ea
    refine ⟨v, e1, G, S, _, R, q, fun w H1 G1 sv E1 r1 q1 => ?_⟩
    obtain ⟨b, hb, q1⟩ := q1
    have e2 : v = .int a := r
    have e3 : w = .int b := r1.int hb
    subst e2 e3
    exact ⟨a, b, rfl, rfl, k.nx _ H1 G1 _ ((R.go E1).set (Hs := H0) i (show RepV H0 H0 G1 H1 (V.int (f a b)) (.tr (.int (f a b))) from rfl) trivial (fun _ z => z) (fun _ _ _ _ _ _ _ o => o.elim)) E1.frz q1⟩⟩
end
end VT

namespace VT
open PySem PySem.Spec PyProof.Rows L2

/-! ### loops -/
/-- W of what is left -/
def gFor (gi : GI) (gg : GG) (gb : GS) : GS := fun D S => gi S fun ds => ∃ W : List VT.D → VT.S → Prop, W ds S ∧ (∀ S', W [] S' → D.nx S') ∧
  ∀ d r S1, W (d :: r) S1 → gg d S1 fun S2 => gb { nx := W r, rt := D.rt, bk := D.nx, ct := W r } S2
def gWhile (gc : GT) (gb : GS) : GS := fun D S => ∃ W : Nat → VT.S → Prop, (∃ m, W m S) ∧ ∀ m S, W m S → gc S fun b =>
  if b = true then gb { nx := fun S' => ∃ m', m' < m ∧ W m' S', rt := D.rt, bk := D.nx, ct := fun S' => ∃ m', m' < m ∧ W m' S' } S else D.nx S
section
variable {X : Cx} {EX : EXT} {pos : Pos} {gb : GS}
theorem vs_for {tg iter : Expr} {body : List Stmt} {gi : GI} {is : List Nat} {gg : GG} (hp : PassesOwn (model X.prog X.w) X.A X.env X.xe) (hc : X.calm = true) (hi : VI false X EX tg iter gi) (hg : VG X tg is gg) (hb : VSs X EX body gb)
    (hs : ∀ x, foldedSetIterable iter X.env x = pure x := by intro _; rfl) : VS X EX (.For tg iter body [] pos) (gFor gi gg gb) := by
  refine ⟨fun G0 H0 tk => psMono (ps_for hp hc (hi.pi G0 H0 tk) (hg.pg G0 H0) (hb.pss G0 H0 tk) hs) fun D σ H ⟨G, S, DV, R, q, k⟩ => ?_⟩
  refine ⟨G, S, _, R, q, fun J H1 G1 ds E1 Y q1 => ?_⟩
  obtain ⟨W, w0, wd, ws⟩ := q1
  refine ⟨fun i m σ H => ∃ G' S', Rel G0 H0 G' H σ S' ∧ Mono G1 G' ∧ W (ds.drop i) S' ∧ m = ds.length - i ∧ i ≤ ds.length, ⟨ds.length, G1, S, R.go E1, fun _ _ h => h, w0, by simp, Nat.zero_le _⟩, ?_⟩
  rintro i m σ2 H2 ⟨G2, S2, R2, M2, w, rfl, hi⟩
  obtain ⟨y1, y2⟩ := Y G2 H2 ⟨R2.ext, M2⟩
  have MG : Mono G G2 := fun b o h => M2 b o (E1.frz b o h)
  by_cases hlt : i < ds.length
  · have hd : ds[i]? = some ds[i] := List.getElem?_eq_getElem hlt
    obtain ⟨go, yl⟩ := y2 i _ hd
    rw [List.drop_eq_getElem_cons hlt] at w
    refine .inr ⟨go, fun σ' H' => ∃ m', m' < ds.length - i ∧ ∃ G' S', Rel G0 H0 G' H' σ' S' ∧ Mono G1 G' ∧ W (ds.drop (i + 1)) S' ∧ m' = ds.length - (i + 1) ∧ i + 1 ≤ ds.length, fun _ _ z => z, fun x H3 yx => ?_⟩
    obtain ⟨G3, E3, rx⟩ := yl x H3 yx
    have M3 : Mono G1 G3 := fun b o h => E3.frz b o (M2 b o h)
    refine ⟨G3, S2, ds[i], _, R2.go E3, rx, ws _ _ _ w, fun σ4 S4 R4 off q4 => ?_⟩
    refine ⟨G3, S4, _, R4, q4, fun σ' H' G' S' R' m' q' => ?_, k.rt, fun σ' H' G' S' R' m' q' => ?_, fun σ' H' G' S' R' m' q' => ?_⟩
    · exact ⟨_, by omega, G', S', R', fun b o h => m' b o (M3 b o h), q', rfl, by omega⟩
    · exact k.nx _ _ _ _ R' (fun b o h => m' b o (E3.frz b o (MG b o h))) q'
    · exact ⟨_, by omega, G', S', R', fun b o h => m' b o (M3 b o h), q', rfl, by omega⟩
  · have e : i = ds.length := by omega
    subst e
    rw [List.drop_length] at w
    exact .inl ⟨y1 _ (Nat.le_refl _), k.nx _ _ _ _ R2 MG (wd _ w)⟩
theorem vs_while {c : Expr} {body : List Stmt} {gc : GT} (hp : PassesOwn (model X.prog X.w) X.A X.env X.xe) (hc : VC X EX c gc) (hb : VSs X EX body gb) : VS X EX (.While c body [] pos) (gWhile gc gb) := by
  refine ⟨fun G0 H0 tk => psMono (ps_while hp (hc.pt G0 H0 tk) (hb.pss G0 H0 tk)) fun D σ H ⟨G, S, DV, R, q, k⟩ => ?_⟩
  obtain ⟨W, ⟨m0, w0⟩, ws⟩ := q
  refine ⟨fun m σ H => ∃ G' S', Rel G0 H0 G' H σ S' ∧ Mono G G' ∧ W m S', ⟨m0, G, S, R, fun _ _ h => h, w0⟩, ?_⟩
  rintro m σ2 H2 ⟨G2, S2, R2, M2, w⟩
  refine ⟨G2, S2, _, R2, ws m S2 w, fun b H3 G3 E3 q3 => ?_⟩
  have M3 : Mono G G3 := fun b o h => E3.frz b o (M2 b o h)
  cases b with
  | true =>
    rw [if_pos rfl] at q3
    refine iteT ⟨fun σ' H' => ∃ m', m' < m ∧ ∃ G' S', Rel G0 H0 G' H' σ' S' ∧ Mono G G' ∧ W m' S', fun _ _ z => z, ?_⟩
    refine ⟨G3, S2, _, R2.go E3, q3, fun σ' H' G' S' R' m' q' => ?_, k.rt, fun σ' H' G' S' R' m' q' => ?_, fun σ' H' G' S' R' m' q' => ?_⟩
    · obtain ⟨n, hn, wn⟩ := q'
      exact ⟨n, hn, G', S', R', fun b o h => m' b o (M3 b o h), wn⟩
    · exact k.nx _ _ _ _ R' (fun b o h => m' b o (M3 b o h)) q'
    · obtain ⟨n, hn, wn⟩ := q'
      exact ⟨n, hn, G', S', R', fun b o h => m' b o (M3 b o h), wn⟩
  | false =>
    rw [if_neg Bool.false_ne_true] at q3
    exact iteF (k.nx _ _ _ _ (R2.go E3) M3 q3)
end

/-! ### an object of the frame's own: let go, changed -/
theorem cont.mono {F F' H : Hp} {a : Addr} {d : D} (m : ∀ b o, F b = some o → F' b = some o) (h : cont F H a d) : cont F' H a d := by
  cases d with
  | lst ds => obtain ⟨vs, e, r⟩ := h; exact ⟨vs, e, reps.mono m _ _ r⟩
  | dic ds => obtain ⟨vs, e, r⟩ := h; exact ⟨vs, e, repk.mono m _ _ r⟩
  | dit ds => obtain ⟨vs, e, r⟩ := h; exact ⟨vs, e, rept.mono m _ _ r⟩
  | _ => exact h.elim
/-- what is told of a heap stays where nothing but a is written -/
theorem cont.off {F H H' : Hp} {a b : Addr} {d : D} (h : cont F H b d) (k : ∀ o, H b = some o → H' b = some o) : cont F H' b d := by
  cases d with
  | lst ds => obtain ⟨vs, e, r⟩ := h; exact ⟨vs, k _ e, r⟩
  | dic ds => obtain ⟨vs, e, r⟩ := h; exact ⟨vs, k _ e, r⟩
  | dit ds => obtain ⟨vs, e, r⟩ := h; exact ⟨vs, k _ e, r⟩
  | _ => exact h.elim
theorem cont.obj {F H : Hp} {a : Addr} {d : D} (hF : F a = none) (h : cont F H a d) : ∃ o, H a = some o ∧ rep (upd F a o) d (.ref a) := by
  cases d with
  | lst ds => obtain ⟨vs, e, r⟩ := h; exact ⟨_, e, a, vs, rfl, upd_same, reps.mono (upd_mono hF) _ _ r⟩
  | dic ds => obtain ⟨vs, e, r⟩ := h; exact ⟨_, e, a, vs, rfl, upd_same, repk.mono (upd_mono hF) _ _ r⟩
  | dit ds => obtain ⟨vs, e, r⟩ := h; exact ⟨_, e, a, vs, rfl, upd_same, rept.mono (upd_mono hF) _ _ r⟩
  | _ => exact h.elim
theorem Rel.freeze {G0 G : Gh} {H0 H : Hp} {σ : L2.St} {S : S} {i : Nat} {d : D} (R : Rel G0 H0 G H σ S) (e : S[i]? = some (some (.own d))) : ∃ G', Rel G0 H0 G' H σ (S.set i (some (.tr d))) ∧ Mono G G' := by
  obtain ⟨v, e1, r⟩ := R.slot i _ e
  obtain ⟨a, rfl, hn, hF, hb, c⟩ := r
  obtain ⟨o, ho, rd⟩ := c.obj hF
  have m : Mono G ⟨upd G.F a o, G.pb, G.T⟩ := upd_mono hF
  have hne : ∀ (j : Nat) (sv : SV) (u : V) (b : Addr), i ≠ j → S[j]? = some (some sv) → σ[j]? = some (some u) → Owns H u sv b → b ≠ a := fun j sv u b hij ej eu ob z => R.sep i j _ sv _ u b hij e ej e1 eu (show V.ref a = .ref b by rw [z]) ob
  refine ⟨⟨upd G.F a o, G.pb, G.T⟩, ⟨ext_freeze R.ext hn ho hF hb, by rw [List.length_set]; exact R.len, fun j sv ej => ?_, fun j l sj sl u w b hjl e2 e3 e4 e5 o1 o2 => ?_, fun j d ej => ?_⟩, m⟩
  · rcases set_slot ej with ⟨rfl, ej, _⟩ | ⟨hij, ej⟩
    · cases ej
      exact ⟨_, e1, rd⟩
    · obtain ⟨u, e6, r6⟩ := R.slot j sv ej
      refine ⟨u, e6, ?_⟩
      have keep : ∀ b, Owns H u sv b → Mine H0 ⟨upd G.F a o, G.pb, G.T⟩ b ∧ H b = H b := fun b ob => by
        obtain ⟨⟨q1, q2, q3⟩, _⟩ := r6.owns ob
        exact ⟨⟨q1, by show upd G.F a o b = none; rw [upd_ne (hne j sv u b hij ej e6 ob)]; exact q2, q3⟩, rfl⟩
      have okj := R.nopk j sv ej
      cases sv with
      | tr d' => exact rep.mono m _ _ r6
      | exc a' C d fs => obtain ⟨e, ws, h1, h2⟩ := r6; exact ⟨e, ws, m _ _ h1, repf.mono m _ _ h2⟩
      | tz ds => obtain ⟨b, o', vs, e, h0, h1, h2⟩ := r6; exact ⟨b, o', vs, e, h0, m _ _ h1, reps.mono m _ _ h2⟩
      | own d' => exact r6.at (fun _ => nofun) (fun _ => nofun) nofun (fun _ _ => nofun) (fun _ _ => nofun) m keep
      | obj q C fs => exact r6.at (fun _ => nofun) (fun _ => nofun) nofun (fun _ _ => nofun) (fun _ _ => nofun) m keep
      | brw d' => obtain ⟨b, rfl, q1, q2, q3⟩ := r6; exact ⟨b, rfl, q1, q2, q3.mono m⟩
      | pk d' => exact okj.elim
      | bag => exact r6
      | pob C fs => exact okj.elim
      | bob C fs =>
        obtain ⟨b, dx, ws, q1, q2, q3, q4, q5⟩ := r6
        exact ⟨b, dx, ws, q1, q2, q3, q4, q5.mono m⟩
  · rcases set_slot e2 with ⟨rfl, e2, _⟩ | ⟨hne, e2⟩
    · cases e2
      exact o1.elim
    · rcases set_slot e3 with ⟨rfl, e3, _⟩ | ⟨hne', e3⟩
      · cases e3
        exact o2.elim
      · exact R.sep j l sj sl u w b hjl e2 e3 e4 e5 o1 o2
  · rcases set_slot ej with ⟨rfl, ej, _⟩ | ⟨hne, ej⟩
    · cases ej
      exact trivial
    · exact R.nopk j d ej
/-- the object of slot i is changed -/
theorem Rel.write {G0 G : Gh} {H0 H : Hp} {σ : L2.St} {S : S} {i : Nat} {d d' : D} {a : Addr} {o : HO} (R : Rel G0 H0 G H σ S) (e : S[i]? = some (some (.own d))) (ea : σ[i]? = some (some (.ref a))) (hc : cont G.F (upd H a o) a d') :
    Rel G0 H0 G (upd H a o) σ (S.set i (some (.own d'))) := by
  obtain ⟨v, e1, r⟩ := R.slot i _ e
  rw [ea] at e1
  cases e1
  obtain ⟨a', e2, hn, hF, hb, c⟩ := r
  cases e2
  have hne : ∀ (j : Nat) (sv : SV) (u : V) (b : Addr), i ≠ j → S[j]? = some (some sv) → σ[j]? = some (some u) → Owns H u sv b → b ≠ a := fun j sv u b hij ej eu ob z => R.sep i j _ sv _ u b hij e ej ea eu (show V.ref a = .ref b by rw [z]) ob
  have off : ∀ b, b ≠ a → ∀ u, H b = some u → upd H a o b = some u := fun b hba u h => by rw [upd_ne hba]; exact h
  refine ⟨ext_write R.ext hn hF hb o c.plain, by rw [List.length_set]; exact R.len, fun j sv ej => ?_, fun j l sj sl u w b hjl e2 e3 e4 e5 o1 o2 => ?_, fun j d ej => ?_⟩
  · rcases set_slot ej with ⟨rfl, ej, _⟩ | ⟨hij, ej⟩
    · cases ej
      exact ⟨_, ea, a, rfl, hn, hF, hb, hc⟩
    · obtain ⟨u, e6, r6⟩ := R.slot j sv ej
      refine ⟨u, e6, ?_⟩
      have keep : ∀ b, Owns H u sv b → Mine H0 G b ∧ upd H a o b = H b := fun b ob => ⟨(r6.owns ob).1, upd_ne (hne j sv u b hij ej e6 ob)⟩
      have okj := R.nopk j sv ej
      cases sv with
      | tr d' => exact r6
      | exc a' C d fs => exact r6
      | tz ds => exact r6
      | own d' => exact r6.at (fun _ => nofun) (fun _ => nofun) nofun (fun _ _ => nofun) (fun _ _ => nofun) (fun _ _ z => z) keep
      | obj q C fs => exact r6.at (fun _ => nofun) (fun _ => nofun) nofun (fun _ _ => nofun) (fun _ _ => nofun) (fun _ _ z => z) keep
      | brw d' => obtain ⟨b, rfl, q1, q2, q3⟩ := r6; exact ⟨b, rfl, q1, q2, q3.off (a := a) (off b fun z => q1 (by rw [z]; exact hn))⟩
      | pk d' => exact okj.elim
      | bag => exact r6
      | pob C fs => exact okj.elim
      | bob C fs =>
        obtain ⟨b, dx, ws, q1, q2, q3, q4, q5⟩ := r6
        exact ⟨b, dx, ws, q1, q2, off b (fun z => q2 (by rw [z]; exact hn)) _ q3, q4, q5.off fun b h => off b fun z => h (by rw [z]; exact hn)⟩
  · have back : ∀ (j : Nat) (sj : SV) (u : V) (b : Addr), (S.set i (some (.own d')))[j]? = some (some sj) → σ[j]? = some (some u) → Owns (upd H a o) u sj b → ∃ sj', S[j]? = some (some sj') ∧ Owns H u sj' b := fun j sj u b ej eu ob => by
      rcases set_slot ej with ⟨rfl, ej, _⟩ | ⟨hij, ej⟩
      · cases ej
        exact ⟨_, e, ob⟩
      · obtain ⟨u', e6, r6⟩ := R.slot j sj ej
        rw [eu] at e6
        cases e6
        exact ⟨sj, ej, ob.at r6 fun b ob => upd_ne (hne j sj u b hij ej eu ob)⟩
    obtain ⟨s1, e2, o1⟩ := back j sj u b e2 e4 o1
    obtain ⟨s2, e3, o2⟩ := back l sl w b e3 e5 o2
    exact R.sep j l s1 s2 u w b hjl e2 e3 e4 e5 o1 o2
  · rcases set_slot ej with ⟨rfl, ej, _⟩ | ⟨hne, ej⟩
    · cases ej
      exact trivial
    · exact R.nopk j d ej
section
variable {X : Cx} {EX : EXT} {st : Stmt} {g : GS} {ge : GE} {pos : Pos}
/-- ahead of a statement slot i's object is let go of -/
@[simp] def gFzS (i : Nat) (g : GS) : GS := fun D S => ∃ d, S[i]? = some (some (.own d)) ∧ g D (S.set i (some (.tr d)))
theorem vs_fz (i : Nat) (h : VS X EX st g) : VS X EX st (gFzS i g) :=
  ⟨fun G0 H0 tk => psMono (h.ps G0 H0 tk) fun D σ H ⟨G, S, DV, R, ⟨d, e, q⟩, k⟩ => let ⟨G', R', m⟩ := R.freeze e; ⟨G', _, DV, R', q, k.go m⟩⟩
/-- x.append(e), x.insert(k, e), x.extend(e): slot i -/
@[simp] def gMutL (i : Nat) (ga : GA) (f : List VT.D → List SV → (List VT.D → Prop) → Prop) : GS := fun D S => ∃ ds0, S[i]? = some (some (.own (.lst ds0))) ∧ ga S fun svs => ∃ ds, S[i]? = some (some (.own (.lst ds))) ∧ f ds svs fun es => D.nx (S.set i (some (.own (.lst es))))
theorem mutL {name : Str} {id : String} {e : Expr} {es : List Expr} {ga : GA} {f : List VT.D → List SV → (List VT.D → Prop) → Prop} {apos cpos p : Pos} {x : Str} (i : Nat) (hN : X.N[i]? = some x) (hv : Vis X.env.scope x) (hd : (x == ("__debug__" : Str)) = false) (hcd : (x == ("__classdict__" : Str)) = false)
    (slot : Slot "list" name id) (hty : typeOf (.builtin id) = pure (.type "method_descriptor"))
    (hm : ∀ (G : Gh) (H H0 Hs : Hp) (a : Addr) (ds : List VT.D) (vs ws : List V) (svs : List SV) (Q : Hp → Prop) (F : List VT.D → Prop), OkG G H → H a = some (.lst vs) → reps G.F ds vs → RepL H0 Hs G H ws svs → f ds svs F → (∀ es us, F es → reps G.F es us → Q (upd H a (.lst us))) → ∃ r, MtR X id r ∧ r (.ref a) ws H (fun _ H' => Q H'))
    (ha : VA X EX (e :: es) ga) (hbase : attributeBase (.Name x p) name X.env (eval (.Name x p) X.env) = eval (.Name x p) X.env := by rfl)
    (hfew : ((backTo cpos (starEach (e :: es) X.env)).all (fun x => !x.1) && (backToKw cpos (keywordEach [] X.env)).all (fun x => x.1.isSome)
      && decide ((e :: es).length + ([] : List Keyword).length + (if ([] : List Keyword).isEmpty then 0 else 1) < 30)) = true := by rfl)
    (hline : (apos.endLine == cpos.line) = true := by rfl) (hs : starEach (e :: es) X.env = (false, eval e X.env) :: starEach es X.env := by rfl) (hplain : (backTo cpos (starEach es X.env)).any (·.1) = false := by rfl) (hsw : swapsWith (.Call (.Attribute (.Name x p) name apos) (e :: es) [] cpos) none pos.line X.env = pure false := by rfl) :
    VS X EX (.Expr (.Call (.Attribute (.Name x p) name apos) (e :: es) [] cpos) pos) (gMutL i ga f) := by
  refine ⟨fun G0 H0 tk => psMono (ps_expr (pe_bm PySem.F.plainAttrs_list slot hty mtr_any (pe_var hN hv hd hcd) (ha.pa G0 H0 tk) hbase hfew hline hs hplain) hsw) fun D σ H ⟨G, S, DV, R, ⟨ds0, e0, q⟩, k⟩ => ?_⟩
  obtain ⟨v, e1, r⟩ := R.slot i _ e0
  obtain ⟨a, rfl, hn, hF, hb, vs0, ea0, _⟩ := r
  refine ⟨.ref a, e1, .inl ⟨rfl, vs0, .of ea0⟩, G, S, _, R, q, fun ws H1 G1 svs E1 r1 q1 => ?_⟩
  obtain ⟨ds, e2, q1⟩ := q1
  have R1 := R.go E1
  obtain ⟨v', e3, r3⟩ := R1.slot i _ e2
  rw [e1] at e3
  cases e3
  obtain ⟨a', ea', hn1, hF1, hb1, vs, ea, rv⟩ := r3
  cases ea'
  refine hm G1 H1 H0 H a ds vs ws svs (fun H' => D.nx σ H') _ E1.ok ea rv r1 q1 fun es us q2 ru => ?_
  exact k.nx _ _ G1 _ (R1.write (a := a) (d' := .lst es) e2 e1 ⟨us, upd_same, ru⟩) E1.frz q2
@[simp] def fAppend (ds : List VT.D) (svs : List SV) (F : List VT.D → Prop) : Prop := ∃ y, svs = [.tr y] ∧ ds.length < sizeLine ∧ F (ds ++ [y])
@[simp] def fInsert (ds : List VT.D) (svs : List SV) (F : List VT.D → Prop) : Prop := ∃ i y, svs = [.tr (.int i), .tr y] ∧ (0 ≤ i ∧ i < 2 ^ 63 ∧ ds.length < sizeLine) ∧ F (ds.take i.toNat ++ [y] ++ ds.drop i.toNat)
@[simp] def fExtend (ds : List VT.D) (svs : List SV) (F : List VT.D → Prop) : Prop := ∃ sv ys, svs = [sv] ∧ sv.d = .lst ys ∧ ds.length + ys.length ≤ sizeLine ∧ F (ds ++ ys)
theorem vs_append {e : Expr} {ga : GA} {apos cpos p : Pos} {x : Str} (i : Nat) (ha : VA X EX [e] ga) (hN : X.N[i]? = some x := by rfl) (hv : Vis X.env.scope x := by first | exact Or.inl rfl | exact Or.inr (Or.inl rfl) | exact Or.inr (Or.inr rfl)) (hd : (x == ("__debug__" : Str)) = false := by decide) (hcd : (x == ("__classdict__" : Str)) = false := by decide)
    (hbase : attributeBase (.Name x p) "append" X.env (eval (.Name x p) X.env) = eval (.Name x p) X.env := by rfl)
    (hfew : ((backTo cpos (starEach [e] X.env)).all (fun x => !x.1) && (backToKw cpos (keywordEach [] X.env)).all (fun x => x.1.isSome)
      && decide (([e] : List Expr).length + ([] : List Keyword).length + (if ([] : List Keyword).isEmpty then 0 else 1) < 30)) = true := by rfl)
    (hline : (apos.endLine == cpos.line) = true := by rfl) (hs : starEach [e] X.env = (false, eval e X.env) :: starEach [] X.env := by rfl) (hsw : swapsWith (.Call (.Attribute (.Name x p) "append" apos) [e] [] cpos) none pos.line X.env = pure false := by rfl) :
    VS X EX (.Expr (.Call (.Attribute (.Name x p) "append" apos) [e] [] cpos) pos) (gMutL i ga fAppend) := by
  refine mutL i hN hv hd hcd PySem.F.slot_list_append PySem.F.type_list_append (fun G H H0 Hs a ds vs ws svs Q F ok ea rv r q k => ?_) ha hbase hfew hline hs rfl hsw
  obtain ⟨y, rfl, hz, q⟩ := q
  cases r with
  | cons ry rr _ =>
    cases rr
    exact ⟨_, mt_append, a, vs, _, rfl, rfl, ea, by rw [rv.length]; exact hz, k _ _ q (rv.append (es := [y]) ⟨_, [], rfl, ry, rfl⟩)⟩
theorem vs_insert {e e2 : Expr} {ga : GA} {apos cpos p : Pos} {x : Str} (i : Nat) (ha : VA X EX [e, e2] ga) (hN : X.N[i]? = some x := by rfl) (hv : Vis X.env.scope x := by first | exact Or.inl rfl | exact Or.inr (Or.inl rfl) | exact Or.inr (Or.inr rfl)) (hd : (x == ("__debug__" : Str)) = false := by decide) (hcd : (x == ("__classdict__" : Str)) = false := by decide)
    (hbase : attributeBase (.Name x p) "insert" X.env (eval (.Name x p) X.env) = eval (.Name x p) X.env := by rfl)
    (hfew : ((backTo cpos (starEach [e, e2] X.env)).all (fun x => !x.1) && (backToKw cpos (keywordEach [] X.env)).all (fun x => x.1.isSome)
      && decide (([e, e2] : List Expr).length + ([] : List Keyword).length + (if ([] : List Keyword).isEmpty then 0 else 1) < 30)) = true := by rfl)
    (hline : (apos.endLine == cpos.line) = true := by rfl) (hs : starEach [e, e2] X.env = (false, eval e X.env) :: starEach [e2] X.env := by rfl) (hplain : (backTo cpos (starEach [e2] X.env)).any (·.1) = false := by rfl) (hsw : swapsWith (.Call (.Attribute (.Name x p) "insert" apos) [e, e2] [] cpos) none pos.line X.env = pure false := by rfl) :
    VS X EX (.Expr (.Call (.Attribute (.Name x p) "insert" apos) [e, e2] [] cpos) pos) (gMutL i ga fInsert) := by
  refine mutL i hN hv hd hcd PySem.F.slot_list_insert PySem.F.type_list_insert (fun G H H0 Hs a ds vs ws svs Q F ok ea rv r q k => ?_) ha hbase hfew hline hs hplain hsw
  obtain ⟨j, y, rfl, ⟨h0, h1, hz⟩, q⟩ := q
  cases r with
  | cons rj rr _ =>
    cases rr with
    | cons ry rr _ =>
      cases rr
      have ej : _ = V.int j := rj
      subst ej
      exact ⟨_, mt_insert, a, vs, j, _, rfl, rfl, ea, by rw [rv.length]; exact hz, h0, h1, k _ _ q (((rv.take _).append (es := [y]) ⟨_, [], rfl, ry, rfl⟩).append (rv.drop _))⟩
theorem vs_extend {e : Expr} {ga : GA} {apos cpos p : Pos} {x : Str} (i : Nat) (ha : VA X EX [e] ga) (hN : X.N[i]? = some x := by rfl) (hv : Vis X.env.scope x := by first | exact Or.inl rfl | exact Or.inr (Or.inl rfl) | exact Or.inr (Or.inr rfl)) (hd : (x == ("__debug__" : Str)) = false := by decide) (hcd : (x == ("__classdict__" : Str)) = false := by decide)
    (hbase : attributeBase (.Name x p) "extend" X.env (eval (.Name x p) X.env) = eval (.Name x p) X.env := by rfl)
    (hfew : ((backTo cpos (starEach [e] X.env)).all (fun x => !x.1) && (backToKw cpos (keywordEach [] X.env)).all (fun x => x.1.isSome)
      && decide (([e] : List Expr).length + ([] : List Keyword).length + (if ([] : List Keyword).isEmpty then 0 else 1) < 30)) = true := by rfl)
    (hline : (apos.endLine == cpos.line) = true := by rfl) (hs : starEach [e] X.env = (false, eval e X.env) :: starEach [] X.env := by rfl) (hsw : swapsWith (.Call (.Attribute (.Name x p) "extend" apos) [e] [] cpos) none pos.line X.env = pure false := by rfl) :
    VS X EX (.Expr (.Call (.Attribute (.Name x p) "extend" apos) [e] [] cpos) pos) (gMutL i ga fExtend) := by
  refine mutL i hN hv hd hcd PySem.F.slot_list_extend PySem.F.type_list_extend (fun G H H0 Hs a ds vs ws svs Q F ok ea rv r q k => ?_) ha hbase hfew hline hs rfl hsw
  obtain ⟨sv, ys, rfl, hd, hz, q⟩ := q
  cases r with
  | cons ry rr _ =>
    cases rr
    obtain ⟨b, zs, rfl, eb, rz⟩ := ry.lst ok hd
    exact ⟨_, mt_extend, a, b, vs, zs, rfl, rfl, ea, eb, by rw [rv.length, rz.length]; exact hz, k _ _ q (rv.append rz)⟩
/-- x[k] = e: slot i -/
@[simp] def gPutL (i : Nat) (ge gk : GE) : GS := fun D S => ge S fun sv => ∃ y ds, sv = .tr y ∧ S[i]? = some (some (.own (.lst ds))) ∧ gk S fun sk => ∃ k j, sk.d = .int k ∧ ixN ds.length k = some j ∧ D.nx (S.set i (some (.own (.lst (ds.set j y)))))
theorem vs_putL {e ke : Expr} {gk : GE} {p spos : Pos} {x : Str} (i : Nat) (he : VE X EX e ge) (hk : VE X EX ke gk) (hN : X.N[i]? = some x := by rfl) (hv : Vis X.env.scope x := by first | exact Or.inl rfl | exact Or.inr (Or.inl rfl) | exact Or.inr (Or.inr rfl)) (hd : (x == ("__debug__" : Str)) = false := by decide) (hcd : (x == ("__classdict__" : Str)) = false := by decide)
    (ha : ∀ v, assign (.Subscript (.Name x p) ke spos) X.env v = (do
      let ov ← holding [v] (eval (.Name x p) X.env)
      let iv ← holding [v, ov] (eval ke X.env)
      standAt spos
      holding [v, ov, iv] (setItem ov iv v)
      release [v, ov, iv] []) := by intro _; rfl)
    (hs : swapsWithSole [.Subscript (.Name x p) ke spos] e pos.line X.env = pure false := by rfl) (hw : swappedStores [.Subscript (.Name x p) ke spos] e X.env = pure none := by rfl)
    (h1 : (assignEach [.Subscript (.Name x p) ke spos] X.env).map (·.2) = [assign (.Subscript (.Name x p) ke spos) X.env] := by rfl) :
    VS X EX (.Assign [.Subscript (.Name x p) ke spos] e pos) (gPutL i ge gk) := by
  refine ⟨fun G0 H0 tk => psMono (ps_asg (he.pe G0 H0 tk) (pg_sub (pe_var hN hv hd hcd) (hk.pe G0 H0 tk) set_list ha) hs hw h1) fun D σ H ⟨G, S, DV, R, q, k⟩ => ?_⟩
  refine ⟨G, S, _, R, q, fun v H1 G1 sv E1 r1 q1 => ?_⟩
  obtain ⟨y, ds, rfl, e0, q1⟩ := q1
  obtain ⟨u, e1, r⟩ := R.slot i _ e0
  refine ⟨u, e1, G1, S, _, R.go E1, q1, fun sk H2 G2 ssk E2 r2 q2 => ?_⟩
  obtain ⟨n, j, hn, hj, q2⟩ := q2
  have R2 := (R.go E1).go E2
  obtain ⟨u', e3, r3⟩ := R2.slot i _ e0
  rw [e1] at e3
  cases e3
  obtain ⟨a, rfl, _, _, _, vs, ea, rv⟩ := r3
  refine ⟨a, vs, n, j, rfl, r2.int hn, ea, by rw [rv.length]; exact hj, ?_⟩
  exact k.nx _ _ G2 _ (R2.write (a := a) (d' := .lst (ds.set j y)) e0 e1 ⟨_, upd_same, rv.set j (rep.mono E2.frz _ _ r1)⟩) (fun b o h => E2.frz b o (E1.frz b o h)) q2
end
end VT

namespace VT
open PySem PySem.Spec PyProof.Rows L2

/-! ### a, b, c = x, y, z -/
def setV : List Nat → List V → L2.St → L2.St
  | i :: is, v :: vs, σ => setV is vs (σ.set i (some v))
  | _, _, σ => σ
@[simp] def setS : List Nat → List SV → S → S
  | i :: is, v :: vs, S => setS is vs (S.set i (some v))
  | _, _, S => S
theorem Rel.setAll {G0 G : Gh} {H0 H Hs : Hp} (h0 : ∀ b, Hs b = none → H0 b = none) : ∀ (is : List Nat) {vs : List V} {svs : List SV} {σ : L2.St} {S : S}, RepL H0 Hs G H vs svs → Rel G0 H0 G H σ S → (∀ sv ∈ svs, sv.ok) → is.length = svs.length → is.Nodup →
    (∀ b, OwnsL H vs svs b → ∀ (j : Nat) (sw : SV) (w : V), S[j]? = some (some sw) → σ[j]? = some (some w) → ¬ Owns H w sw b) → Rel G0 H0 G H (setV is vs σ) (setS is svs S)
  | [], _, _, _, _, .nil, R, _, _, _, _ => R
  | i :: is, _, _, σ, S, .cons (v := v) (sv := sv) (vs := vs) (svs := svs) r t n, R, hok, hl, nd, ho => by
    rw [List.nodup_cons] at nd
    refine Rel.setAll h0 is t (R.set i r (hok _ (by simp)) h0 fun j sw w b hj e3 e4 o1 => ho b (.inl o1) j sw w e3 e4) (fun sv h => hok sv (by simp [h])) (by simpa using hl) nd.2 fun b ob j sw w e1 e2 => ?_
    rcases set_slot e1 with ⟨rfl, e1, hl'⟩ | ⟨hne, e1⟩
    · rw [List.getElem?_set_self (by rw [← R.len]; exact hl')] at e2
      cases e1
      cases e2
      exact fun o => n b o ob
    · rw [List.getElem?_set_ne hne] at e2
      exact ho b (.inr ob) j sw w e1 e2
  | _ :: _, _, _, _, _, .nil, _, _, hl, _, _ => by simp at hl
  | [], _, _, _, _, .cons _ _ _, _, _, hl, _, _ => by simp at hl
@[simp] def gPar (is : List Nat) (ga : GA) : GS := fun D S => ga S fun svs => (∀ sv ∈ svs, sv.ok) ∧ is.length = svs.length ∧ D.nx (setS is svs S)
section
variable {X : Cx} {EX : EXT} {pos : Pos} {ga : GA}
theorem parEnd {G0 G G1 : Gh} {H0 H H1 : Hp} {σ : L2.St} {S : S} {is : List Nat} {vs : List V} {svs : List SV} (R : Rel G0 H0 G H σ S) (E1 : Ext G H G1 H1) (r1 : RepL H0 H G1 H1 vs svs) (hok : ∀ sv ∈ svs, sv.ok) (hl : is.length = svs.length) (nd : is.Nodup) :
    Rel G0 H0 G1 H1 (setV is vs σ) (setS is svs S) := by
  refine Rel.setAll (fun b z => R.ext.dom z) is r1 (R.go E1) hok hl nd fun b ob j sw w e1 e2 o => ?_
  obtain ⟨w', e3, r3⟩ := R.slot j sw e1
  rw [e2] at e3
  cases e3
  exact (r3.owns (o.at r3 fun b o => (E1.mine (r3.owns o).1 (r3.owns o).2).2)).2.ne (r1.owns ob).1.1
theorem repl_pair {H0 Hs : Hp} {G : Gh} {H : Hp} {vs : List V} {x y : SV} (r : RepL H0 Hs G H vs [x, y]) : ∃ v w, vs = [v, w] := by
  cases r with
  | cons _ t _ => cases t with
    | cons _ t _ => cases t; exact ⟨_, _, rfl⟩
theorem repl_trip {H0 Hs : Hp} {G : Gh} {H : Hp} {vs : List V} {x y z : SV} (r : RepL H0 Hs G H vs [x, y, z]) : ∃ u v w, vs = [u, v, w] := by
  cases r with
  | cons _ t _ => cases t with
    | cons _ t _ => cases t with
      | cons _ t _ => cases t; exact ⟨_, _, _, rfl⟩
theorem vs_par2 {i j : Nat} {x y : Str} {a b : Expr} {px py pt : Pos} {kt k2 pt2} (hc : X.calm = true) (hN : X.N.Nodup) (hi : X.N[i]? = some x) (hj : X.N[j]? = some y) (hij : i ≠ j)
    (hx : X.env.scope.names.lookup x = some .local) (hy : X.env.scope.names.lookup y = some .local) (ha : VA X EX [a, b] ga)
    (hw : swappedStores [.Tuple [.Name x px, .Name y py] kt pt] (.Tuple [a, b] k2 pt2) X.env = pure (some [x, y]))
    (hs : swapsWithSole [.Tuple [.Name x px, .Name y py] kt pt] (.Tuple [a, b] k2 pt2) pos.line X.env = pure false := by rfl) :
    VS X EX (.Assign [.Tuple [.Name x px, .Name y py] kt pt] (.Tuple [a, b] k2 pt2) pos) (gPar [i, j] ga) := by
  refine ⟨fun G0 H0 tk => psMono (ps_par hc hN hi hj hij hx hy (ha.pa G0 H0 tk) hw hs) fun D σ H ⟨G, S, DV, R, q, k⟩ => ?_⟩
  refine ⟨G, S, _, R, q, fun vs H1 G1 svs E1 r1 q1 => ?_⟩
  obtain ⟨hok, hl, q1⟩ := q1
  match svs, hl with
  | [s1, s2], hl =>
    obtain ⟨v, w, rfl⟩ := repl_pair r1
    exact ⟨v, w, rfl, k.nx _ _ _ _ (parEnd (is := [i, j]) R E1 r1 hok hl (by simp [hij])) E1.frz q1⟩
theorem vs_par3 {i j l : Nat} {x y z : Str} {a b c : Expr} {px py pz pt : Pos} {kt k2 pt2} (hc : X.calm = true) (hN : X.N.Nodup) (hi : X.N[i]? = some x) (hj : X.N[j]? = some y) (hl : X.N[l]? = some z) (hij : i ≠ j) (hil : i ≠ l) (hjl : j ≠ l)
    (hx : X.env.scope.names.lookup x = some .local) (hy : X.env.scope.names.lookup y = some .local) (hz : X.env.scope.names.lookup z = some .local) (ha : VA X EX [a, b, c] ga)
    (hw : swappedStores [.Tuple [.Name x px, .Name y py, .Name z pz] kt pt] (.Tuple [a, b, c] k2 pt2) X.env = pure (some [x, y, z]))
    (hs : swapsWithSole [.Tuple [.Name x px, .Name y py, .Name z pz] kt pt] (.Tuple [a, b, c] k2 pt2) pos.line X.env = pure false := by rfl) :
    VS X EX (.Assign [.Tuple [.Name x px, .Name y py, .Name z pz] kt pt] (.Tuple [a, b, c] k2 pt2) pos) (gPar [i, j, l] ga) := by
  refine ⟨fun G0 H0 tk => psMono (ps_par3 hc hN hi hj hl hij hil hjl hx hy hz (ha.pa G0 H0 tk) hw hs) fun D σ H ⟨G, S, DV, R, q, k⟩ => ?_⟩
  refine ⟨G, S, _, R, q, fun vs H1 G1 svs E1 r1 q1 => ?_⟩
  obtain ⟨hok, hl, q1⟩ := q1
  match svs, hl with
  | [s1, s2, s3], hl =>
    obtain ⟨u, v, w, rfl⟩ := repl_trip r1
    exact ⟨u, v, w, rfl, k.nx _ _ _ _ (parEnd (is := [i, j, l]) R E1 r1 hok hl (by simp [hij, hil, hjl])) E1.frz q1⟩
/-- names, stored from the left out of a tuple -/
structure VNs (X : Cx) (ts : List Expr) (is : List Nat) : Prop where
  pgs : PGs X ts (fun vs σ H Q => vs.length = is.length ∧ Q (setV is vs σ) H)
theorem vns_nil : VNs X [] [] := ⟨⟨fun pins s σ H vs us Q I r ⟨hl, q⟩ => by
  have e : vs = [] := List.eq_nil_of_length_eq_zero hl
  subst e
  exact pgs_nil.run pins s σ H [] us Q I r ⟨rfl, q⟩⟩⟩
theorem vns_cons {i : Nat} {is : List Nat} {x : Str} {es : List Expr} {p : Pos} (hN : X.N.Nodup) (hi : X.N[i]? = some x) (hx : Loc X.env.scope x) (h2 : VNs X es is) (hf : X.fn x = true ∨ X.env.scope.names.lookup x = some .local := by first | exact .inl rfl | exact .inr rfl | assumption)
    (hs : (assignEach (.Name x p :: es) X.env).map (·.2) = assign (.Name x p) X.env :: (assignEach es X.env).map (·.2) := by rfl) : VNs X (.Name x p :: es) (i :: is) :=
  ⟨⟨fun pins s σ H vs us Q I r ⟨hl, q⟩ => by
    cases vs with
    | nil => cases hl
    | cons v vs => exact (pgs_cons (pg_name hN hi hx hf) h2.pgs hs).run pins s σ H (v :: vs) us Q I r ⟨v, vs, rfl, by simpa using hl, q⟩⟩⟩
theorem vs_parT {es ts : List Expr} {is : List Nat} {kt k2 : Nat} {pt pt2 : Pos} (hc : X.calm = true) (nd : is.Nodup) (ha : VA X EX es ga) (hn : VNs X ts is) (hz : is.length ≤ sizeLine := by decide) (h1 : (assignEach ts X.env).length = is.length := by rfl) (h2 : (assignEach ts X.env).findIdx? (·.1) = none := by rfl)
    (hw : swappedStores [.Tuple ts kt pt] (.Tuple es k2 pt2) X.env = pure none := by rfl)
    (hs : swapsWithSole [.Tuple ts kt pt] (.Tuple es k2 pt2) pos.line X.env = pure false := by rfl) (h3 : (assignEach [.Tuple ts kt pt] X.env).map (·.2) = [assign (.Tuple ts kt pt) X.env] := by rfl) :
    VS X EX (.Assign [.Tuple ts kt pt] (.Tuple es k2 pt2) pos) (gPar is ga) := by
  refine ⟨fun G0 H0 tk => psMono (ps_asg (pe_tup (ha.pa G0 H0 tk)) (pg_tup hc hn.pgs h1 h2) hs hw h3) fun D σ H ⟨G, S, DV, R, q, k⟩ => ?_⟩
  refine ⟨G, S, _, R, q, fun vs H1 G1 svs E1 r1 q1 => ?_⟩
  obtain ⟨hok, hl, q1⟩ := q1
  have hlen := r1.length
  refine ⟨by rw [hlen, ← hl]; exact hz, fun p hp => ⟨p, vs, rfl, .of upd_same, by rw [hlen, hl], by rw [hlen, hl], ?_⟩⟩
  have E2 := ext_new E1.ok hp (.tup vs)
  exact k.nx _ _ _ _ (parEnd R (E1.trans E2) (r1.ext E2) hok hl nd) (fun b o h => E2.frz b o (E1.frz b o h)) q1
end

/-! ### defs -/
/-- what a def answers: its arguments as they are held, and what is wanted of its result -/
abbrev FSp := List SV → (SV → Prop) → Prop
def SV.isArg : SV → Prop
  | .tr _ => True
  | .brw _ => True
  | .bag => True
  | .bob _ _ => True
  | .exc _ _ _ _ => True
  | _ => False
def SV.arg : SV → SV
  | .own d => .brw d
  | .pk d => .brw d
  | .obj _ C fs => .bob C fs
  | .pob C fs => .bob C fs
  | .tz ds => .tr (.tup ds)
  | sv => sv
theorem SV.isArg.none {sv : SV} (h : sv.isArg) {H : Hp} {v : V} {b : Addr} : ¬ Owns H v sv b := by
  cases sv <;> first | exact h.elim | exact fun o => o.elim
/-- what a call gave, held by the caller -/
theorem RepV.call {H0 H Hs G' H' v} {sv : SV} (h : ∀ b, H b = Option.none → Hs b = Option.none) (ir : sv.isRet) (r : RepV H H G' H' v sv) : RepV H0 Hs G' H' v sv := by
  have r2 := r.back h
  cases sv <;> first | exact ir.elim | exact r2
def spV (K : PySem.W.Frag) (F : FSp) : Sp := fun vs H Q _ => ∃ G svs Qs, (OkG G H ∧ G.T = TabsOf K) ∧ RepL H H G H vs svs ∧ (∀ sv ∈ svs, sv.isArg) ∧ F svs Qs ∧ ∀ v H' G' sv, Ext G H G' H' → RepV H H G' H' v sv → sv.isRet → Qs sv → Q v H'
theorem RepV.toArg {H0 Hs : Hp} {G : Gh} {H : Hp} {v : V} {sv : SV} (r : RepV H0 Hs G H v sv) : RepV H H G H v sv.arg ∧ sv.arg.isArg := by
  cases sv with
  | tr d => exact ⟨r, trivial⟩
  | own d => obtain ⟨a, e, _, _, nb, c⟩ := r; exact ⟨⟨a, e, c.there, nb, c⟩, trivial⟩
  | brw d => obtain ⟨a, e, _, nb, c⟩ := r; exact ⟨⟨a, e, c.there, nb, c⟩, trivial⟩
  | pk d => obtain ⟨a, e, nb, c⟩ := r; exact ⟨⟨a, e, c.there, nb, c⟩, trivial⟩
  | bag => exact ⟨r, trivial⟩
  | obj q C fs =>
    obtain ⟨a, dx, ws, e, ea, _, h1, _, _, rf, _⟩ := r
    exact ⟨⟨a, dx, ws, e, by rw [ea]; simp, ea, h1.2.2, rf.peek.imp fun b h _ => h⟩, trivial⟩
  | pob C fs =>
    obtain ⟨a, dx, ws, e, ea, nb, rf⟩ := r
    exact ⟨⟨a, dx, ws, e, by rw [ea]; simp, ea, nb, rf.imp fun b h _ => h⟩, trivial⟩
  | bob C fs =>
    obtain ⟨a, dx, ws, e, h0, ea, nb, rf⟩ := r
    exact ⟨⟨a, dx, ws, e, by rw [ea]; simp, ea, nb, rf.imp fun b h _ => h⟩, trivial⟩
  | exc a C d fs => exact ⟨r, trivial⟩
  | tz ds => exact ⟨(let ⟨a, o, vs, e1, _, e2, r⟩ := r; ⟨a, vs, e1, .inr ⟨o, e2⟩, r⟩), trivial⟩
theorem RepL.toArg {H0 Hs : Hp} {G : Gh} {H : Hp} : ∀ {vs : List V} {svs : List SV}, RepL H0 Hs G H vs svs → RepL H H G H vs (svs.map SV.arg) ∧ ∀ sv ∈ svs.map SV.arg, sv.isArg
  | _, _, .nil => ⟨.nil, fun _ h => nomatch h⟩
  | _, _, .cons (sv := sv) r t n => by
    obtain ⟨h1, h2⟩ := RepL.toArg t
    obtain ⟨h3, h4⟩ := r.toArg
    refine ⟨.cons h3 h1 fun b o => (h4.none o).elim, fun s h => ?_⟩
    · rcases List.mem_cons.mp h with rfl | h
      · exact h4
      · exact h2 s h
theorem RepL.append {H0 Hs : Hp} {G : Gh} {H : Hp} {vs ws : List V} {svs sws : List SV} (h : RepL H0 Hs G H vs svs) (k : RepL H0 Hs G H ws sws) (ha : ∀ sv ∈ svs, sv.isArg) : RepL H0 Hs G H (vs ++ ws) (svs ++ sws) := by
  induction h with
  | nil => exact k
  | @cons v sv vs svs r t n ih =>
    exact .cons r (ih fun s h => ha s (List.mem_cons_of_mem _ h)) fun b o => ((ha sv List.mem_cons_self).none o).elim
/-- values that are written: a def's defaults -/
def wrt : D → V → Prop
  | .non, v => v = .non
  | .bl b, v => v = .bl b
  | .int i, v => v = .int i
  | .str x, v => v = .str x ∧ okS x
  | _, _ => False
inductive Wrts : List D → List V → Prop
  | nil : Wrts [] []
  | cons {d : D} {v : V} {ds : List D} {vs : List V} : wrt d v → Wrts ds vs → Wrts (d :: ds) (v :: vs)
theorem wrt.rep {d : D} {v : V} {F : Hp} (h : wrt d v) : rep F d v := by
  cases d <;> first | exact h | exact h.elim
theorem Wrts.repl {G : Gh} {H0 H Hs : Hp} : ∀ {ds : List D} {vs : List V}, Wrts ds vs → RepL H0 Hs G H vs (ds.map SV.tr)
  | _, _, .nil => .nil
  | _, _, .cons h t => .cons h.rep t.repl fun _ o => o.elim
@[simp] def gCall (F : FSp) (dd : List D) (ga : GA) : GE := fun S Q => ga S fun svs => F (svs.map SV.arg ++ dd.map SV.tr) Q
/-- the tables are those of the start -/
theorem Lk.tt {X : Cx} {EX : EXT} {G0 G G1 : Gh} {H0 H H1 : Hp} {σ : L2.St} {S : S} (l : Lk X EX G0 H0) (R : Rel G0 H0 G H σ S) (E : Ext G H G1 H1) : G1.T = TabsOf X.K := E.tt.trans (R.ext.tt.trans l.tabs)
section
variable {X : Cx} {EX : EXT} {k : Nat} {f : Addr} {fd : FuncData} {ps : List Str} {F : FSp} {dd : List D} {dvs : List V} {ds : List Value} {x : Str} {p pos : Pos} {e : Expr} {es : List Expr} {ga : GA}
theorem call_end {G0 G G1 : Gh} {H0 H H1 : Hp} {Qs : SV → Prop} {Q : VK} {vs : List V} {svs : List SV} (hd : Wrts dd dvs) (hT : G1.T = TabsOf X.K) (E1 : Ext G H G1 H1) (r1 : RepL H0 H G1 H1 vs svs) (q1 : F (svs.map SV.arg ++ dd.map SV.tr) Qs) (kq : KQ H0 G H Qs Q) (E : XK) : spV X.K F (vs ++ dvs) H1 Q E := by
  obtain ⟨a1, a2⟩ := r1.toArg
  refine ⟨G1, _, _, ⟨E1.ok, hT⟩, a1.append hd.repl a2, fun sv h => ?_, q1, fun v H' G' sv E' r' ir q' => ?_⟩
  · rcases List.mem_append.mp h with h | h
    · exact a2 sv h
    · obtain ⟨d, _, rfl⟩ := List.mem_map.mp h
      trivial
  · refine kq v H' G' sv (E1.trans E') ?_ q'
    exact RepV.call (fun b z => E1.dom z) ir r'
theorem ve_call (Fn : FnOk X.prog X.w X.K X.mg X.base CX0 k f fd ps (spV X.K F)) (hr : Room k X.A) (hg : Gl X x) (hm : X.mg x = some (.ref f)) (hk : PySem.W.keepIn X.K (.ref f) = true) (hb : Binds X.K fd ps ds) (hd : Vals dvs ds) (hw : Wrts dd dvs)
    (ha : VA X EX (e :: es) ga) (hdb : (x == ("__debug__" : Str)) = false := by decide) (he : starEach (e :: es) X.env = (false, eval e X.env) :: starEach es X.env := by rfl) (hpl : (backTo pos (starEach es X.env)).any (·.1) = false := by rfl) :
    VE X EX (.Call (.Name x p) (e :: es) [] pos) (gCall F dd ga) :=
  ⟨fun G0 H0 tk => peMono (pe_call Fn hr hg hm hk hb hd pass0 (ha.pa G0 H0 tk) hdb he hpl) fun σ H Q ⟨G, S, Qs, R, q, kq⟩ => ⟨G, S, _, R, q, fun vs H1 G1 svs E1 r1 q1 => call_end (G0 := G0) hw (tk.tt R E1) E1 r1 q1 kq E0⟩⟩
theorem ve_call0 (Fn : FnOk X.prog X.w X.K X.mg X.base CX0 k f fd ps (spV X.K F)) (hr : Room k X.A) (hg : Gl X x) (hm : X.mg x = some (.ref f)) (hk : PySem.W.keepIn X.K (.ref f) = true) (hb : Binds X.K fd ps ds) (hd : Vals dvs ds) (hw : Wrts dd dvs)
    (hdb : (x == ("__debug__" : Str)) = false := by decide) : VE X EX (.Call (.Name x p) [] [] pos) (gCall F dd gaNil) :=
  ⟨fun G0 H0 tk => peMono (pe_call0 Fn hr hg hm hk hb hd pass0 hdb) fun σ H Q ⟨G, S, Qs, R, q, kq⟩ => call_end (vs := []) (G0 := G0) hw (tk.tt R (.refl R.ok)) (.refl R.ok) .nil q kq E0⟩
theorem RepL.get {H0 Hs : Hp} {G : Gh} {H : Hp} : ∀ {vs : List V} {svs : List SV} {i : Nat} {sv : SV}, RepL H0 Hs G H vs svs → svs[i]? = some sv → ∃ v, vs[i]? = some v ∧ RepV H0 Hs G H v sv
  | _, _, 0, _, .cons r t _, e => by cases e; exact ⟨_, rfl, r⟩
  | _, _, i + 1, _, .cons r t _, e => RepL.get (i := i) t e
  | _, _, _, _, .nil, e => by simp at e
/-! ### calls with keywords -/
/-- picked by places -/
@[simp] def arr {α : Type} (ix : List Nat) (l : List α) : List α := ix.filterMap fun i => l[i]?
theorem repl_of {H0 Hs : Hp} {G : Gh} {H : Hp} : ∀ {vs : List V} {svs : List SV}, vs.length = svs.length → (∀ sv ∈ svs, sv.isArg) → (∀ (i : Nat) (v : V) (sv : SV), vs[i]? = some v → svs[i]? = some sv → RepV H0 Hs G H v sv) → RepL H0 Hs G H vs svs
  | [], [], _, _, _ => .nil
  | v :: vs, sv :: svs, hl, ha, h => .cons (h 0 v sv rfl rfl) (repl_of (by simpa using hl) (fun s hs => ha s (List.mem_cons_of_mem _ hs)) fun i v sv e1 e2 => h (i + 1) v sv e1 e2) fun b o => ((ha sv List.mem_cons_self).none o).elim
  | [], _ :: _, hl, _, _ => by simp at hl
  | _ :: _, [], hl, _, _ => by simp at hl
theorem RepL.arr {H0 Hs : Hp} {G : Gh} {H : Hp} {vs : List V} {svs : List SV} (r : RepL H0 Hs G H vs svs) (ha : ∀ sv ∈ svs, sv.isArg) : ∀ ix : List Nat, RepL H0 Hs G H (arr ix vs) (arr ix svs) ∧ ∀ sv ∈ arr ix svs, sv.isArg
  | [] => ⟨.nil, fun _ h => nomatch h⟩
  | i :: ix => by
    obtain ⟨h1, h2⟩ := RepL.arr r ha ix
    unfold VT.arr at h1 h2 ⊢
    rw [List.filterMap_cons, List.filterMap_cons]
    by_cases hi : i < svs.length
    · have e2 : svs[i]? = some svs[i] := List.getElem?_eq_getElem hi
      obtain ⟨v, e1, rv⟩ := r.get e2
      rw [e1, e2]
      have hm : svs[i] ∈ svs := List.getElem_mem hi
      refine ⟨.cons rv h1 fun b o => ((ha _ hm).none o).elim, fun s hs => ?_⟩
      · rcases List.mem_cons.mp hs with rfl | hs
        · exact ha _ hm
        · exact h2 s hs
    · rw [List.getElem?_eq_none (by rw [r.length]; omega), List.getElem?_eq_none (by omega)]
      exact ⟨h1, h2⟩
structure VKw (X : Cx) (EX : EXT) (kws : List Keyword) (g : GA) : Prop where
  pk : ∀ G0 H0, Lk X EX G0 H0 → PK X kws (TAV G0 H0 g)
theorem pkMono {kws : List Keyword} {t t' : TA} (h : PK X kws t) (k : ∀ σ H Q, t' σ H Q → t σ H Q) : PK X kws t' := ⟨fun pos pins s σ H Q I q => h.run pos pins s σ H Q I (k σ H Q q)⟩
theorem vk_nil : VKw X EX [] gaNil := ⟨fun G0 H0 tk => pkMono pk_nil fun σ H Q ⟨G, S, Qs, R, q, k⟩ => k [] H G [] (.refl R.ok) .nil q⟩
theorem vk_cons {kws : List Keyword} {nm : Option Str} {kpos : Pos} {g : GE} {gr : GA} (ha : VE X EX e g) (hr : VKw X EX kws gr) : VKw X EX (⟨nm, e, kpos⟩ :: kws) (gaCons g gr) := by
  refine ⟨fun G0 H0 tk => pkMono (pk_cons (ha.pe G0 H0 tk) (hr.pk G0 H0 tk)) fun σ H Q ⟨G, S, Qs, R, q, k⟩ => ?_⟩
  refine ⟨G, S, _, R, q, fun v H1 G1 sv E1 r1 q1 => ?_⟩
  refine ⟨G1, S, _, R.go E1, q1, fun vs H2 G2 svs E2 r2 q2 => ?_⟩
  exact k _ _ _ _ (E1.trans E2) (RepL.cons' (fun _ z => E1.dom z) E2 r1 r2) q2
/-- how a call with keywords binds: n positional values, the keywords ks, the defaults dvs, picked by places -/
structure KBi (K : PySem.W.Frag) (fd : FuncData) (ps : List Str) (n : Nat) (ks : List Str) (ix : List Nat) (dvs : List V) : Prop where
  to : ∃ ds, Vals dvs ds ∧ ∀ (s : Shared) (us ws : List Value), K.In s.heap → us.length = n → ws.length = ks.length → BindsTo s fd ⟨us, ks.zip ws⟩ (ps.zip (arr ix (us ++ ws ++ ds)))
theorem vals_arr : ∀ {xs : List V} {us : List Value} (ix : List Nat), Vals xs us → Vals (arr ix xs) (arr ix us)
  | _, _, [], _ => .nil
  | xs, us, i :: ix, r => by
    have ih := vals_arr ix r
    unfold VT.arr at ih ⊢
    rw [List.filterMap_cons, List.filterMap_cons]
    by_cases hi : i < xs.length
    · have e1 : xs[i]? = some xs[i] := List.getElem?_eq_getElem hi
      obtain ⟨u, e2, ru⟩ := r.get e1
      rw [e1, e2]
      exact .cons ru ih
    · rw [List.getElem?_eq_none (by omega), List.getElem?_eq_none (by rw [← r.length]; omega)]
      exact ih
@[simp] def gCallK (F : FSp) (n m : Nat) (ix : List Nat) (dd : List D) (ga gk : GA) : GE := fun S Q => ga S fun svs => gk S fun kvs => svs.length = n ∧ kvs.length = m ∧ F (arr ix (svs.map SV.arg ++ kvs.map SV.arg ++ dd.map SV.tr)) Q
theorem callK_end {kws : List Keyword} {gk : GA} {n m : Nat} {ix : List Nat} {G0 : Gh} {H0 : Hp} {σ : L2.St} {H : Hp} {Q : VK} (hw : Wrts dd dvs) (tk : Lk X EX G0 H0) (E : XK) (h : TV G0 H0 (gCallK F n m ix dd ga gk) σ H Q) :
    tCallN n m (spV X.K F) (fun vs zs => arr ix (vs ++ zs ++ dvs)) E (TAV G0 H0 ga) (TAV G0 H0 gk) σ H Q := by
  obtain ⟨G, S, Qs, R, q, kq⟩ := h
  refine ⟨G, S, _, R, q, fun vs H1 G1 svs E1 r1 q1 => ?_⟩
  refine ⟨G1, S, _, R.go E1, q1, fun zs H2 G2 szs E2 r2 q2 => ?_⟩
  obtain ⟨l1, l2, q2⟩ := q2
  refine ⟨r1.length.trans l1, r2.length.trans l2, ?_⟩
  obtain ⟨a1, a2⟩ := (r1.ext E2).toArg
  obtain ⟨b1, b2⟩ := r2.toArg
  have dt : ∀ sv ∈ dd.map SV.tr, sv.isArg := fun sv h => by obtain ⟨d, _, rfl⟩ := List.mem_map.mp h; trivial
  have ab : ∀ sv ∈ svs.map SV.arg ++ szs.map SV.arg, sv.isArg := fun sv h => (List.mem_append.mp h).elim (a2 sv) (b2 sv)
  obtain ⟨c1, c2⟩ := (((a1.append b1 a2).append hw.repl ab).arr (fun sv h => (List.mem_append.mp h).elim (ab sv) (dt sv)) ix)
  refine ⟨G2, _, _, ⟨E2.ok, E2.tt.trans (tk.tt R E1)⟩, c1, c2, q2, fun v H' G' sv E' r' ir q' => ?_⟩
  refine kq v H' G' sv ((E1.trans E2).trans E') ?_ q'
  exact RepV.call (fun b z => E1.dom (E2.dom z)) ir r'
theorem ve_callK {kws : List Keyword} {gk : GA} {n : Nat} {ks : List Str} {ix : List Nat} (Fn : FnOk X.prog X.w X.K X.mg X.base CX0 k f fd ps (spV X.K F)) (hr : Room k X.A) (hg : Gl X x) (hm : X.mg x = some (.ref f)) (hk : PySem.W.keepIn X.K (.ref f) = true) (hb : KBi X.K fd ps n ks ix dvs) (hw : Wrts dd dvs)
    (ha : VA X EX (e :: es) ga) (hkw : VKw X EX kws gk) (hall : (backToKw pos (keywordEach kws X.env)).all (·.1.isSome) = true := by rfl) (hks : (backToKw pos (keywordEach kws X.env)).filterMap (·.1) = ks := by rfl)
    (hdb : (x == ("__debug__" : Str)) = false := by decide) (he : starEach (e :: es) X.env = (false, eval e X.env) :: starEach es X.env := by rfl)
    (hpl : ((backTo pos (starEach (e :: es) X.env)).any (·.1) || (backToKw pos (keywordEach kws X.env)).any (·.1.isNone)) = false := by rfl) :
    VE X EX (.Call (.Name x p) (e :: es) kws pos) (gCallK F n ks.length ix dd ga gk) := by
  obtain ⟨ds, rd, hto⟩ := hb.to
  exact ⟨fun G0 H0 tk => peMono (pe_callN Fn hr hg hm hk (g := fun us ws => arr ix (us ++ ws ++ ds)) (gV := fun vs zs => arr ix (vs ++ zs ++ dvs)) ⟨hto, fun r1 r2 => vals_arr ix ((r1.append r2).append rd)⟩ pass0 (ha.pa G0 H0 tk) (hkw.pk G0 H0 tk) hall hks hdb he hpl) fun σ H Q h => callK_end (kws := kws) hw tk E0 h⟩
theorem pe_callN0 {CX : CXT} {kws : List Keyword} {tk : TA} {ks : List Str} {sp : Sp} {E : XK} {g : List Value → List Value → List Value} {gV : List V → List V → List V} (Fn : FnOk X.prog X.w X.K X.mg X.base CX k f fd ps sp) (hr : Room k X.A) (hg : Gl X x) (hm : X.mg x = some (.ref f)) (hk : PySem.W.keepIn X.K (.ref f) = true) (hb : KBn X.K fd ps 0 ks g gV) (hx : Passes CX X E)
    (hkw : PK X kws tk) (hall : (backToKw pos (keywordEach kws X.env)).all (·.1.isSome) = true := by rfl) (hks : (backToKw pos (keywordEach kws X.env)).filterMap (·.1) = ks := by rfl)
    (hdb : (x == ("__debug__" : Str)) = false := by decide)
    (hpl : ((backTo pos (starEach [] X.env)).any (·.1) || (backToKw pos (keywordEach kws X.env)).any (·.1.isNone)) = false := by rfl) :
    PE X (.Call (.Name x p) [] kws pos) (tCallN 0 ks.length sp gV E tNil tk) := by
  refine ⟨fun pins s σ H Q I h => ?_⟩
  refine wpAny_Call_Name_kw (ld_glob I hg hm ?_ hdb)
  refine PySem.W.callWith_KW0 (h₀ := X.base) I.ok.mod.kin hk hall ?_ hpl
  refine thn (hkw.run pos pins s σ H _ I h) fun ws s2 ⟨zs, H2, I2, rz, l1, l2, q2⟩ => ⟨I2.kIn, ?_⟩
  rw [hks]
  exact run_fnN (us := []) (vs := []) Fn hr hb hx I2 .nil rz l1 l2 q2
theorem ve_callK0 {kws : List Keyword} {gk : GA} {ks : List Str} {ix : List Nat} (Fn : FnOk X.prog X.w X.K X.mg X.base CX0 k f fd ps (spV X.K F)) (hr : Room k X.A) (hg : Gl X x) (hm : X.mg x = some (.ref f)) (hk : PySem.W.keepIn X.K (.ref f) = true) (hb : KBi X.K fd ps 0 ks ix dvs) (hw : Wrts dd dvs)
    (hkw : VKw X EX kws gk) (hall : (backToKw pos (keywordEach kws X.env)).all (·.1.isSome) = true := by rfl) (hks : (backToKw pos (keywordEach kws X.env)).filterMap (·.1) = ks := by rfl)
    (hdb : (x == ("__debug__" : Str)) = false := by decide)
    (hpl : ((backTo pos (starEach [] X.env)).any (·.1) || (backToKw pos (keywordEach kws X.env)).any (·.1.isNone)) = false := by rfl) :
    VE X EX (.Call (.Name x p) [] kws pos) (gCallK F 0 ks.length ix dd gaNil gk) := by
  obtain ⟨ds, rd, hto⟩ := hb.to
  refine ⟨fun G0 H0 tk => peMono (pe_callN0 Fn hr hg hm hk (g := fun us ws => arr ix (us ++ ws ++ ds)) (gV := fun vs zs => arr ix (vs ++ zs ++ dvs)) ⟨hto, fun r1 r2 => vals_arr ix ((r1.append r2).append rd)⟩ pass0 (hkw.pk G0 H0 tk) hall hks hdb hpl) fun σ H Q h => ?_⟩
  have z := callK_end (kws := kws) (G0 := G0) (H0 := H0) hw tk E0 h
  obtain ⟨G, S, Qs, R, q, kq⟩ := z
  exact kq [] H G [] (.refl R.ok) .nil q
/-- a constant of the module -/
theorem ve_glob {d : D} {v : V} {u : Value} (hg : Gl X x) (hm : X.mg x = some u) (r : RelV v u) (hw : wrt d v) (hd : (x == ("__debug__" : Str)) = false := by decide) : VE X EX (.Name x pos) (gC d) := ve_c (pe_glob hg hm r hd) fun _ => hw.rep
end

/-! ### a def's body -/
@[simp] def startS (N : List Str) (svs : List SV) : S := svs.map some ++ List.replicate (N.length - svs.length) none
theorem start_get {α β : Type} {N : List α} {svs : List β} {i : Nat} {sv : β} (h : (svs.map some ++ List.replicate (N.length - svs.length) none)[i]? = some (some sv)) : svs[i]? = some sv := by
  by_cases hi : i < svs.length
  · rw [List.getElem?_append_left (by simpa using hi), List.getElem?_map] at h
    cases e : svs[i]? with
    | none => rw [e] at h; cases h
    | some w => rw [e] at h; cases h; rfl
  · rw [List.getElem?_append_right (by simpa using hi), List.getElem?_replicate] at h
    split at h <;> cases h
theorem Rel.start {G : Gh} {H : Hp} {vs : List V} {svs : List SV} {N : List Str} (ok : OkG G H) (r : RepL H H G H vs svs) (ha : ∀ sv ∈ svs, sv.isArg) : Rel G H G H (L2.start N vs) (startS N svs) := by
  have hl := r.length
  refine ⟨.refl ok, by simp [startS, L2.start, hl], fun i sv e => ?_, fun i j sv sw v w b _ e _ _ _ o => ?_, fun i sv e => ?_⟩
  · have e' := start_get e
    obtain ⟨v, hv, rv⟩ := r.get e'
    refine ⟨v, ?_, rv⟩
    unfold L2.start
    have hi : i < vs.length := (List.getElem?_eq_some_iff.mp hv).1
    rw [List.getElem?_append_left (by simpa using hi), List.getElem?_map, hv]
    rfl
  · have e' := start_get e
    exact ((ha _ (List.mem_of_getElem? e')).none o).elim
  · have e' := start_get e
    have := ha _ (List.mem_of_getElem? e')
    cases sv <;> first | exact this.elim | trivial
section
variable {P : Program} {w : World} {K : PySem.W.Frag} {mg : Str → Option Value} {base : Heap} {x qual : Str} {params : Arguments} {body : List Stmt} {scope : Scope} {dvs : List V} {kws : List (Str × V)} {f : Addr} {fd : FuncData} {N ps : List Str} {k : Nat} {g : GS} {Fs : FSp}
theorem fn_ok (F : FunD K x qual params body scope dvs kws f fd) (Sc : FnScope N ps scope)
    (hbody : ∀ (cdv : Value) (A : Around) (outer : List Env) (s : Shared) (H : Hp) (E : XK), Room k (A.deeper (envOfC qual scope s.heap.objs.size f cdv)) → VSs (cxOf CX0 P w K mg base N qual scope f cdv A outer s H E).nox E0T body g)
    (len : ∀ svs Qs, Fs svs Qs → svs.length = ps.length) (spec : ∀ svs Qs, Fs svs Qs → g { nx := fun _ => Qs (.tr .non), rt := Qs } (startS N svs)) : FnOk P w K mg base CX0 (k + 1) f fd ps (spV K Fs) := by
  refine F.ok Sc (fun vs H Q E ⟨G, svs, Qs, ok, r, ha, h, z⟩ => r.length.trans (len _ _ h)) (fun cdv A outer s H vs Q E hr h => ?_)
  refine ⟨TSV (Classical.choose h) H g, ((hbody cdv A outer s H E hr).pss _ _ ⟨takesE0, (Classical.choose_spec h).choose_spec.choose_spec.1.2⟩).nox, ?_⟩
  obtain ⟨svs, Qs, ok, r, ha, h, z⟩ := Classical.choose_spec h
  refine ⟨_, startS N svs, _, Rel.start ok.1 r ha, spec svs Qs h, fun σ' H' G' S' R' _ q => ?_, fun v H' G' sv E' r' ir q => z v H' G' sv E' r' ir q, fun σ' H' G' S' R' _ q => q.elim, fun σ' H' G' S' R' _ q => q.elim⟩
  exact z .non H' G' (.tr .non) R'.ext rfl trivial q
end
end VT

namespace VT
open PySem PySem.Spec PyProof.Rows L2

/-! ### defs by their data -/
/-- the def d stands behind the top, under its name -/
structure DefAt (K : PySem.W.Frag) (mg : Str → Option Value) (d : He.DefD) : Prop where
  fd : ∃ fd, FunD K d.name d.qual d.params d.body d.scope (d.dvs K) (d.kws K) (He.fAd K d.at_) fd
  mg : mg d.name = some (.ref (He.fAd K d.at_))
/-- .. and answers as F says -/
structure FnV (P : Program) (w : World) (K : PySem.W.Frag) (mg : Str → Option Value) (base : Heap) (d : He.DefD) (k : Nat) (ps : List Str) (F : FSp) : Prop where
  ex : ∃ fd, FunD K d.name d.qual d.params d.body d.scope (d.dvs K) (d.kws K) (He.fAd K d.at_) fd ∧ FnOk P w K mg base CX0 k (He.fAd K d.at_) fd ps (spV K F)
  mg : mg d.name = some (.ref (He.fAd K d.at_))
section
variable {P : Program} {w : World} {K : PySem.W.Frag} {mg : Str → Option Value} {base : Heap} {d : He.DefD} {k : Nat} {ps N : List Str} {F : FSp} {g : GS}
theorem fnv_ok (h : DefAt K mg d) (Sc : FnScope N ps d.scope)
    (hbody : ∀ (f : Addr) (cdv : Value) (A : Around) (outer : List Env) (s : Shared) (H : Hp) (E : XK), Room k (A.deeper (envOfC d.qual d.scope s.heap.objs.size f cdv)) → VSs (cxOf CX0 P w K mg base N d.qual d.scope f cdv A outer s H E).nox E0T d.body g)
    (len : ∀ svs Qs, F svs Qs → svs.length = ps.length) (spec : ∀ svs Qs, F svs Qs → g { nx := fun _ => Qs (.tr .non), rt := Qs } (startS N svs)) : FnV P w K mg base d (k + 1) ps F := by
  obtain ⟨⟨fd, hf⟩, hm⟩ := h
  exact ⟨⟨fd, hf, fn_ok hf Sc (fun cdv A outer s H E hr => hbody _ cdv A outer s H E hr) len spec⟩, hm⟩
theorem FnV.mono {j : Nat} (h : FnV P w K mg base d k ps F) (hj : k ≤ j) : FnV P w K mg base d j ps F := by
  obtain ⟨⟨fd, hf, hk⟩, hm⟩ := h
  exact ⟨⟨fd, hf, hk.mono hj⟩, hm⟩
theorem FnV.imp {F' : FSp} (h : FnV P w K mg base d k ps F) (hF : ∀ svs Q, F' svs Q → F svs Q) : FnV P w K mg base d k ps F' := by
  obtain ⟨⟨fd, hf, hk⟩, hm⟩ := h
  exact ⟨⟨fd, hf, hk.imp fun vs H Q E ⟨G, svs, Qs, ok, r, ha, q, z⟩ => ⟨G, svs, Qs, ok, r, ha, hF _ _ q, z⟩⟩, hm⟩
end
section
variable {X : Cx} {EX : EXT} {d : He.DefD} {k : Nat} {ps ks : List Str} {F : FSp} {x : Str} {p pos : Pos} {e : Expr} {es : List Expr} {ga gk : GA} {kws : List Keyword}
/-- f(e, ..), no defaults -/
theorem ve_cv (h : FnV X.prog X.w X.K X.mg X.base d k ps F) (hr : Room k X.A) (hd : d.dfl = []) (hk : d.kwd = []) (hx : x = d.name)
    (hb : ∀ (kV doc pm : Value) (an : Option Addr) (cdv ct : Value) (us : List Value), us.length = ps.length → bindArgs (PySem.W.fnOf d.name d.qual d.params d.body d.scope .none kV doc pm an cdv ct) ⟨us, []⟩ = pure (ps.zip us))
    (hg : Gl X x) (ha : VA X EX (e :: es) ga) (hdb : (x == ("__debug__" : Str)) = false := by decide) (he : starEach (e :: es) X.env = (false, eval e X.env) :: starEach es X.env := by rfl) (hpl : (backTo pos (starEach es X.env)).any (·.1) = false := by rfl) :
    VE X EX (.Call (.Name x p) (e :: es) [] pos) (gCall F [] ga) := by
  obtain ⟨⟨fd, hf, hF⟩, hm⟩ := h
  have e1 : d.dvs X.K = [] := by unfold He.DefD.dvs; rw [hd]; rfl
  have e2 : d.kws X.K = [] := by unfold He.DefD.kws; rw [hk]; rfl
  have kp := hf.kp
  rw [e1] at hf
  have b := hf.bindsN hb
  subst hx
  exact ve_call hF hr hg hm kp b .nil .nil ha hdb he hpl
theorem ve_cv0 (h : FnV X.prog X.w X.K X.mg X.base d k ps F) (hr : Room k X.A) (hd : d.dfl = []) (hk : d.kwd = []) (hx : x = d.name)
    (hb : ∀ (kV doc pm : Value) (an : Option Addr) (cdv ct : Value) (us : List Value), us.length = ps.length → bindArgs (PySem.W.fnOf d.name d.qual d.params d.body d.scope .none kV doc pm an cdv ct) ⟨us, []⟩ = pure (ps.zip us))
    (hg : Gl X x) (hdb : (x == ("__debug__" : Str)) = false := by decide) : VE X EX (.Call (.Name x p) [] [] pos) (gCall F [] gaNil) := by
  obtain ⟨⟨fd, hf, hF⟩, hm⟩ := h
  have e1 : d.dvs X.K = [] := by unfold He.DefD.dvs; rw [hd]; rfl
  have e2 : d.kws X.K = [] := by unfold He.DefD.kws; rw [hk]; rfl
  have kp := hf.kp
  rw [e1] at hf
  have b := hf.bindsN hb
  subst hx
  exact ve_call0 hF hr hg hm kp b .nil .nil hdb
/-- f(e, .., y = e', ..), no defaults -/
theorem kbi_of {K : PySem.W.Frag} {fd : FuncData} {f : Addr} {n : Nat} {ix : List Nat} (hf : FunD K d.name d.qual d.params d.body d.scope [] (d.kws K) f fd)
    (hb : ∀ (kV doc pm : Value) (an : Option Addr) (cdv ct : Value) (us ws : List Value), us.length = n → ws.length = ks.length → bindArgs (PySem.W.fnOf d.name d.qual d.params d.body d.scope .none kV doc pm an cdv ct) ⟨us, ks.zip ws⟩ = pure (ps.zip (arr ix (us ++ ws)))) : KBi K fd ps n ks ix [] := by
  obtain ⟨oc, od, dV, kV, doc, pm, an, cdv, ct, osl, rfl, lk, hcd, hD, hK⟩ := hf.ex
  rcases hD with ⟨_, rfl⟩ | ⟨e, _⟩
  · exact ⟨[], .nil, fun s us ws _ h1 h2 => by rw [List.append_nil]; exact .of_eq (hb kV doc pm an cdv ct us ws h1 h2)⟩
  · exact absurd rfl e
theorem ve_ck {n : Nat} {ix : List Nat} (h : FnV X.prog X.w X.K X.mg X.base d k ps F) (hr : Room k X.A) (hd : d.dfl = []) (hx : x = d.name)
    (hb : ∀ (kV doc pm : Value) (an : Option Addr) (cdv ct : Value) (us ws : List Value), us.length = n → ws.length = ks.length → bindArgs (PySem.W.fnOf d.name d.qual d.params d.body d.scope .none kV doc pm an cdv ct) ⟨us, ks.zip ws⟩ = pure (ps.zip (arr ix (us ++ ws))))
    (hg : Gl X x) (ha : VA X EX (e :: es) ga) (hkw : VKw X EX kws gk) (hall : (backToKw pos (keywordEach kws X.env)).all (·.1.isSome) = true := by rfl) (hks : (backToKw pos (keywordEach kws X.env)).filterMap (·.1) = ks := by rfl)
    (hdb : (x == ("__debug__" : Str)) = false := by decide) (he : starEach (e :: es) X.env = (false, eval e X.env) :: starEach es X.env := by rfl)
    (hpl : ((backTo pos (starEach (e :: es) X.env)).any (·.1) || (backToKw pos (keywordEach kws X.env)).any (·.1.isNone)) = false := by rfl) : VE X EX (.Call (.Name x p) (e :: es) kws pos) (gCallK F n ks.length ix [] ga gk) := by
  obtain ⟨⟨fd, hf, hF⟩, hm⟩ := h
  have e1 : d.dvs X.K = [] := by unfold He.DefD.dvs; rw [hd]; rfl
  have kp := hf.kp
  rw [e1] at hf
  subst hx
  exact ve_callK hF hr hg hm kp (kbi_of hf hb) .nil ha hkw hall hks hdb he hpl
theorem ve_ck0 {ix : List Nat} (h : FnV X.prog X.w X.K X.mg X.base d k ps F) (hr : Room k X.A) (hd : d.dfl = []) (hx : x = d.name)
    (hb : ∀ (kV doc pm : Value) (an : Option Addr) (cdv ct : Value) (us ws : List Value), us.length = 0 → ws.length = ks.length → bindArgs (PySem.W.fnOf d.name d.qual d.params d.body d.scope .none kV doc pm an cdv ct) ⟨us, ks.zip ws⟩ = pure (ps.zip (arr ix (us ++ ws))))
    (hg : Gl X x) (hkw : VKw X EX kws gk) (hall : (backToKw pos (keywordEach kws X.env)).all (·.1.isSome) = true := by rfl) (hks : (backToKw pos (keywordEach kws X.env)).filterMap (·.1) = ks := by rfl)
    (hdb : (x == ("__debug__" : Str)) = false := by decide)
    (hpl : ((backTo pos (starEach [] X.env)).any (·.1) || (backToKw pos (keywordEach kws X.env)).any (·.1.isNone)) = false := by rfl) : VE X EX (.Call (.Name x p) [] kws pos) (gCallK F 0 ks.length ix [] gaNil gk) := by
  obtain ⟨⟨fd, hf, hF⟩, hm⟩ := h
  have e1 : d.dvs X.K = [] := by unfold He.DefD.dvs; rw [hd]; rfl
  have kp := hf.kp
  rw [e1] at hf
  subst hx
  exact ve_callK0 hF hr hg hm kp (kbi_of hf hb) .nil hkw hall hks hdb hpl
end
end VT

namespace VT
open PySem PySem.Spec PyProof.Rows L2
section
variable {X : Cx} {EX : EXT} {x : Str} {pos : Pos}
theorem ve_gint {i : Int} (h : ∃ t, X.mg x = some (.int i t)) (hg : Gl X x) (hd : (x == ("__debug__" : Str)) = false := by decide) : VE X EX (.Name x pos) (gC (.int i)) := by
  obtain ⟨t, h⟩ := h
  exact ve_glob (v := .int i) hg h ⟨t, rfl⟩ rfl hd
theorem ve_gstr {z : Str} (h : ∃ t, X.mg x = some (.str z t)) (hg : Gl X x) (ho : okS z := by decide +kernel) (hd : (x == ("__debug__" : Str)) = false := by decide) : VE X EX (.Name x pos) (gC (.str z)) := by
  obtain ⟨t, h⟩ := h
  exact ve_glob (v := .str z) hg h ⟨t, rfl⟩ ⟨rfl, ho⟩ hd
@[simp] def gNeg (g : GE) : GE := fun S Q => g S fun sv => ∃ i, sv.d = .int i ∧ Q (.tr (.int (-i)))
theorem ve_neg {a : Expr} {g : GE} (ha : VE X EX a g) : VE X EX (.UnaryOp .USub a pos) (gNeg g) :=
  ⟨fun G0 H0 tk => peMono (pe_un un_neg (ha.pe G0 H0 tk)) fun σ H Q ⟨G, S, Qs, R, q, k⟩ => ⟨G, S, _, R, q, fun v H1 G1 sv E1 r1 ⟨i, hi, q1⟩ => ⟨i, r1.int hi, kq_tr (d := .int (-i)) (kq_back E1 k) E1.ok rfl q1⟩⟩⟩
/-- a statement, then the rest, with a word between them -/
def gCut (g g' : GS) : GS := fun D S => ∃ Mid : VT.S → Prop, g { D with nx := Mid } S ∧ ∀ S', Mid S' → g' D S'
theorem vss_cut {st : Stmt} {sts : List Stmt} {g g' : GS} (h1 : VS X EX st g) (h2 : VSs X EX sts g') : VSs X EX (st :: sts) (gCut g g') :=
  ⟨fun G0 H0 tk => pssMono (pss_cons (h1.ps G0 H0 tk) (h2.pss G0 H0 tk)) fun D σ H ⟨G, S, DV, R, ⟨Mid, q, qm⟩, k⟩ => ⟨G, S, _, R, q, fun σ' H' G' S' R' m q' => ⟨G', S', DV, R', qm S' q', k.go m⟩, k.rt, k.bk, k.ct⟩⟩
end
theorem hu65 {A : Around} {k : Nat} (hr : Room k A) : A.units + 65 < cLine := by have := hr.un; omega

/-! ### what readings come to -/
theorem gName_eq (i : Nat) (S : S) (Q : SV → Prop) {sv : SV} (h : S[i]? = some (some sv)) : gName i S Q ↔ Q sv.look :=
  ⟨fun ⟨s, e, q⟩ => by rw [h] at e; cases e; exact q, fun q => ⟨sv, h, q⟩⟩
@[simp] theorem gName0 (a : SV) (r : S) (Q : SV → Prop) : gName 0 (some a :: r) Q ↔ Q a.look := gName_eq 0 _ Q rfl
@[simp] theorem gName1 (x0 : Option SV) (a : SV) (r : S) (Q : SV → Prop) : gName 1 (x0 :: some a :: r) Q ↔ Q a.look := gName_eq 1 _ Q rfl
@[simp] theorem gName2 (x0 x1 : Option SV) (a : SV) (r : S) (Q : SV → Prop) : gName 2 (x0 :: x1 :: some a :: r) Q ↔ Q a.look := gName_eq 2 _ Q rfl
@[simp] theorem gName3 (x0 x1 x2 : Option SV) (a : SV) (r : S) (Q : SV → Prop) : gName 3 (x0 :: x1 :: x2 :: some a :: r) Q ↔ Q a.look := gName_eq 3 _ Q rfl
@[simp] theorem gName4 (x0 x1 x2 x3 : Option SV) (a : SV) (r : S) (Q : SV → Prop) : gName 4 (x0 :: x1 :: x2 :: x3 :: some a :: r) Q ↔ Q a.look := gName_eq 4 _ Q rfl
@[simp] theorem gName5 (x0 x1 x2 x3 x4 : Option SV) (a : SV) (r : S) (Q : SV → Prop) : gName 5 (x0 :: x1 :: x2 :: x3 :: x4 :: some a :: r) Q ↔ Q a.look := gName_eq 5 _ Q rfl
@[simp] theorem gName6 (x0 x1 x2 x3 x4 x5 : Option SV) (a : SV) (r : S) (Q : SV → Prop) : gName 6 (x0 :: x1 :: x2 :: x3 :: x4 :: x5 :: some a :: r) Q ↔ Q a.look := gName_eq 6 _ Q rfl
@[simp] theorem gName7 (x0 x1 x2 x3 x4 x5 x6 : Option SV) (a : SV) (r : S) (Q : SV → Prop) : gName 7 (x0 :: x1 :: x2 :: x3 :: x4 :: x5 :: x6 :: some a :: r) Q ↔ Q a.look := gName_eq 7 _ Q rfl
@[simp] theorem gName8 (x0 x1 x2 x3 x4 x5 x6 x7 : Option SV) (a : SV) (r : S) (Q : SV → Prop) : gName 8 (x0 :: x1 :: x2 :: x3 :: x4 :: x5 :: x6 :: x7 :: some a :: r) Q ↔ Q a.look := gName_eq 8 _ Q rfl
@[simp] theorem gName9 (x0 x1 x2 x3 x4 x5 x6 x7 x8 : Option SV) (a : SV) (r : S) (Q : SV → Prop) : gName 9 (x0 :: x1 :: x2 :: x3 :: x4 :: x5 :: x6 :: x7 :: x8 :: some a :: r) Q ↔ Q a.look := gName_eq 9 _ Q rfl
end VT

namespace VT
open PySem PySem.Spec PyProof.Rows L2

/-! ### the readings of values, as rules -/
@[simp] theorem sd_tr (d : D) : (SV.d (SV.tr d)) = (d) := rfl
@[simp] theorem slook_tr (d : D) : (SV.look (SV.tr d)) = ((SV.tr d)) := rfl
@[simp] theorem slet_tr (d : D) : (SV.let_ (SV.tr d)) = ((SV.tr d)) := rfl
@[simp] theorem sok_tr (d : D) : (SV.ok (SV.tr d)) = (True) := rfl
@[simp] theorem sarg_tr (d : D) : (SV.arg (SV.tr d)) = ((SV.tr d)) := rfl
@[simp] theorem sisarg_tr (d : D) : (SV.isArg (SV.tr d)) = (True) := rfl
@[simp] theorem sisret_tr (d : D) : (SV.isRet (SV.tr d)) = (True) := rfl
@[simp] theorem sstays_tr (c : Bool) (d : D) : (SV.stays c (SV.tr d)) = (True) := rfl
@[simp] theorem sd_own (d : D) : (SV.d (SV.own d)) = (d) := rfl
@[simp] theorem slook_own (d : D) : (SV.look (SV.own d)) = (SV.pk d) := rfl
@[simp] theorem slet_own (d : D) : (SV.let_ (SV.own d)) = (SV.tr d) := rfl
@[simp] theorem sok_own (d : D) : (SV.ok (SV.own d)) = (True) := rfl
@[simp] theorem sarg_own (d : D) : (SV.arg (SV.own d)) = (SV.brw d) := rfl
@[simp] theorem sisarg_own (d : D) : (SV.isArg (SV.own d)) = (False) := rfl
@[simp] theorem sisret_own (d : D) : (SV.isRet (SV.own d)) = (True) := rfl
@[simp] theorem sstays_own (c : Bool) (d : D) : (SV.stays c (SV.own d)) = (c = true) := rfl
@[simp] theorem sd_brw (d : D) : (SV.d (SV.brw d)) = (d) := rfl
@[simp] theorem slook_brw (d : D) : (SV.look (SV.brw d)) = ((SV.brw d)) := rfl
@[simp] theorem slet_brw (d : D) : (SV.let_ (SV.brw d)) = ((SV.brw d)) := rfl
@[simp] theorem sok_brw (d : D) : (SV.ok (SV.brw d)) = (True) := rfl
@[simp] theorem sarg_brw (d : D) : (SV.arg (SV.brw d)) = ((SV.brw d)) := rfl
@[simp] theorem sisarg_brw (d : D) : (SV.isArg (SV.brw d)) = (True) := rfl
@[simp] theorem sisret_brw (d : D) : (SV.isRet (SV.brw d)) = (False) := rfl
@[simp] theorem sstays_brw (c : Bool) (d : D) : (SV.stays c (SV.brw d)) = (True) := rfl
@[simp] theorem sd_pk (d : D) : (SV.d (SV.pk d)) = (d) := rfl
@[simp] theorem slook_pk (d : D) : (SV.look (SV.pk d)) = ((SV.pk d)) := rfl
@[simp] theorem slet_pk (d : D) : (SV.let_ (SV.pk d)) = ((SV.pk d)) := rfl
@[simp] theorem sok_pk (d : D) : (SV.ok (SV.pk d)) = (False) := rfl
@[simp] theorem sarg_pk (d : D) : (SV.arg (SV.pk d)) = (SV.brw d) := rfl
@[simp] theorem sisarg_pk (d : D) : (SV.isArg (SV.pk d)) = (False) := rfl
@[simp] theorem sisret_pk (d : D) : (SV.isRet (SV.pk d)) = (False) := rfl
@[simp] theorem sstays_pk (c : Bool) (d : D) : (SV.stays c (SV.pk d)) = (c = true) := rfl
@[simp] theorem sd_bag (d : D) : (SV.d SV.bag) = (D.opq) := rfl
@[simp] theorem slook_bag  : (SV.look SV.bag) = (SV.bag) := rfl
@[simp] theorem slet_bag  : (SV.let_ SV.bag) = (SV.bag) := rfl
@[simp] theorem sok_bag  : (SV.ok SV.bag) = (True) := rfl
@[simp] theorem sarg_bag  : (SV.arg SV.bag) = (SV.bag) := rfl
@[simp] theorem sisarg_bag  : (SV.isArg SV.bag) = (True) := rfl
@[simp] theorem sisret_bag  : (SV.isRet SV.bag) = (True) := rfl
@[simp] theorem sstays_bag (c : Bool) : (SV.stays c SV.bag) = (False) := rfl
@[simp] theorem isT_non_bool  : (D.isT D.non Ty.bool) = (false) := rfl
@[simp] theorem isT_non_int  : (D.isT D.non Ty.int) = (false) := rfl
@[simp] theorem isT_non_str  : (D.isT D.non Ty.str) = (false) := rfl
@[simp] theorem isT_non_list  : (D.isT D.non Ty.list) = (false) := rfl
@[simp] theorem isT_non_tuple  : (D.isT D.non Ty.tuple) = (false) := rfl
@[simp] theorem isT_non_dict  : (D.isT D.non Ty.dict) = (false) := rfl
@[simp] theorem kind_non  : (D.kind D.non) = (some "NoneType") := rfl
@[simp] theorem isNon_non  : (D.isNon D.non) = (true) := rfl
@[simp] theorem tru_non  : (D.tru D.non) = (some false) := rfl
@[simp] theorem items_non  : (D.items D.non) = (none) := rfl
@[simp] theorem isT_bl_bool (b : Bool) : (D.isT (D.bl b) Ty.bool) = (true) := rfl
@[simp] theorem isT_bl_int (b : Bool) : (D.isT (D.bl b) Ty.int) = (true) := rfl
@[simp] theorem isT_bl_str (b : Bool) : (D.isT (D.bl b) Ty.str) = (false) := rfl
@[simp] theorem isT_bl_list (b : Bool) : (D.isT (D.bl b) Ty.list) = (false) := rfl
@[simp] theorem isT_bl_tuple (b : Bool) : (D.isT (D.bl b) Ty.tuple) = (false) := rfl
@[simp] theorem isT_bl_dict (b : Bool) : (D.isT (D.bl b) Ty.dict) = (false) := rfl
@[simp] theorem kind_bl (b : Bool) : (D.kind (D.bl b)) = (some "bool") := rfl
@[simp] theorem isNon_bl (b : Bool) : (D.isNon (D.bl b)) = (false) := rfl
@[simp] theorem tru_bl (b : Bool) : (D.tru (D.bl b)) = (some b) := rfl
@[simp] theorem items_bl (b : Bool) : (D.items (D.bl b)) = (none) := rfl
@[simp] theorem isT_int_bool (i : Int) : (D.isT (D.int i) Ty.bool) = (false) := rfl
@[simp] theorem isT_int_int (i : Int) : (D.isT (D.int i) Ty.int) = (true) := rfl
@[simp] theorem isT_int_str (i : Int) : (D.isT (D.int i) Ty.str) = (false) := rfl
@[simp] theorem isT_int_list (i : Int) : (D.isT (D.int i) Ty.list) = (false) := rfl
@[simp] theorem isT_int_tuple (i : Int) : (D.isT (D.int i) Ty.tuple) = (false) := rfl
@[simp] theorem isT_int_dict (i : Int) : (D.isT (D.int i) Ty.dict) = (false) := rfl
@[simp] theorem kind_int (i : Int) : (D.kind (D.int i)) = (some "int") := rfl
@[simp] theorem isNon_int (i : Int) : (D.isNon (D.int i)) = (false) := rfl
@[simp] theorem tru_int (i : Int) : (D.tru (D.int i)) = (some (i != 0)) := rfl
@[simp] theorem items_int (i : Int) : (D.items (D.int i)) = (none) := rfl
@[simp] theorem isT_str_bool (x : Str) : (D.isT (D.str x) Ty.bool) = (false) := rfl
@[simp] theorem isT_str_int (x : Str) : (D.isT (D.str x) Ty.int) = (false) := rfl
@[simp] theorem isT_str_str (x : Str) : (D.isT (D.str x) Ty.str) = (true) := rfl
@[simp] theorem isT_str_list (x : Str) : (D.isT (D.str x) Ty.list) = (false) := rfl
@[simp] theorem isT_str_tuple (x : Str) : (D.isT (D.str x) Ty.tuple) = (false) := rfl
@[simp] theorem isT_str_dict (x : Str) : (D.isT (D.str x) Ty.dict) = (false) := rfl
@[simp] theorem kind_str (x : Str) : (D.kind (D.str x)) = (some "str") := rfl
@[simp] theorem isNon_str (x : Str) : (D.isNon (D.str x)) = (false) := rfl
@[simp] theorem tru_str (x : Str) : (D.tru (D.str x)) = (some (x.length != 0)) := rfl
@[simp] theorem items_str (x : Str) : (D.items (D.str x)) = (some (x.cps.toList.map fun c => D.str ⟨#[c]⟩)) := rfl
@[simp] theorem isT_lst_bool (xs : List D) : (D.isT (D.lst xs) Ty.bool) = (false) := rfl
@[simp] theorem isT_lst_int (xs : List D) : (D.isT (D.lst xs) Ty.int) = (false) := rfl
@[simp] theorem isT_lst_str (xs : List D) : (D.isT (D.lst xs) Ty.str) = (false) := rfl
@[simp] theorem isT_lst_list (xs : List D) : (D.isT (D.lst xs) Ty.list) = (true) := rfl
@[simp] theorem isT_lst_tuple (xs : List D) : (D.isT (D.lst xs) Ty.tuple) = (false) := rfl
@[simp] theorem isT_lst_dict (xs : List D) : (D.isT (D.lst xs) Ty.dict) = (false) := rfl
@[simp] theorem kind_lst (xs : List D) : (D.kind (D.lst xs)) = (some "list") := rfl
@[simp] theorem isNon_lst (xs : List D) : (D.isNon (D.lst xs)) = (false) := rfl
@[simp] theorem tru_lst (xs : List D) : (D.tru (D.lst xs)) = (some (!xs.isEmpty)) := rfl
@[simp] theorem items_lst (xs : List D) : (D.items (D.lst xs)) = (some xs) := rfl
@[simp] theorem isT_tup_bool (xs : List D) : (D.isT (D.tup xs) Ty.bool) = (false) := rfl
@[simp] theorem isT_tup_int (xs : List D) : (D.isT (D.tup xs) Ty.int) = (false) := rfl
@[simp] theorem isT_tup_str (xs : List D) : (D.isT (D.tup xs) Ty.str) = (false) := rfl
@[simp] theorem isT_tup_list (xs : List D) : (D.isT (D.tup xs) Ty.list) = (false) := rfl
@[simp] theorem isT_tup_tuple (xs : List D) : (D.isT (D.tup xs) Ty.tuple) = (true) := rfl
@[simp] theorem isT_tup_dict (xs : List D) : (D.isT (D.tup xs) Ty.dict) = (false) := rfl
@[simp] theorem kind_tup (xs : List D) : (D.kind (D.tup xs)) = (some "tuple") := rfl
@[simp] theorem isNon_tup (xs : List D) : (D.isNon (D.tup xs)) = (false) := rfl
@[simp] theorem tru_tup (xs : List D) : (D.tru (D.tup xs)) = (some (!xs.isEmpty)) := rfl
@[simp] theorem items_tup (xs : List D) : (D.items (D.tup xs)) = (some xs) := rfl
@[simp] theorem isT_dic_bool (kvs : List (Key × D)) : (D.isT (D.dic kvs) Ty.bool) = (false) := rfl
@[simp] theorem isT_dic_int (kvs : List (Key × D)) : (D.isT (D.dic kvs) Ty.int) = (false) := rfl
@[simp] theorem isT_dic_str (kvs : List (Key × D)) : (D.isT (D.dic kvs) Ty.str) = (false) := rfl
@[simp] theorem isT_dic_list (kvs : List (Key × D)) : (D.isT (D.dic kvs) Ty.list) = (false) := rfl
@[simp] theorem isT_dic_tuple (kvs : List (Key × D)) : (D.isT (D.dic kvs) Ty.tuple) = (false) := rfl
@[simp] theorem isT_dic_dict (kvs : List (Key × D)) : (D.isT (D.dic kvs) Ty.dict) = (true) := rfl
@[simp] theorem kind_dic (kvs : List (Key × D)) : (D.kind (D.dic kvs)) = (some "dict") := rfl
@[simp] theorem isNon_dic (kvs : List (Key × D)) : (D.isNon (D.dic kvs)) = (false) := rfl
@[simp] theorem tru_dic (kvs : List (Key × D)) : (D.tru (D.dic kvs)) = (some (!kvs.isEmpty)) := rfl
@[simp] theorem items_dic (kvs : List (Key × D)) : (D.items (D.dic kvs)) = (none) := rfl
@[simp] theorem isT_dit_bool (kvt : List (List Key × D)) : (D.isT (D.dit kvt) Ty.bool) = (false) := rfl
@[simp] theorem isT_dit_int (kvt : List (List Key × D)) : (D.isT (D.dit kvt) Ty.int) = (false) := rfl
@[simp] theorem isT_dit_str (kvt : List (List Key × D)) : (D.isT (D.dit kvt) Ty.str) = (false) := rfl
@[simp] theorem isT_dit_list (kvt : List (List Key × D)) : (D.isT (D.dit kvt) Ty.list) = (false) := rfl
@[simp] theorem isT_dit_tuple (kvt : List (List Key × D)) : (D.isT (D.dit kvt) Ty.tuple) = (false) := rfl
@[simp] theorem isT_dit_dict (kvt : List (List Key × D)) : (D.isT (D.dit kvt) Ty.dict) = (true) := rfl
@[simp] theorem kind_dit (kvt : List (List Key × D)) : (D.kind (D.dit kvt)) = (some "dict") := rfl
@[simp] theorem isNon_dit (kvt : List (List Key × D)) : (D.isNon (D.dit kvt)) = (false) := rfl
@[simp] theorem tru_dit (kvt : List (List Key × D)) : (D.tru (D.dit kvt)) = (none) := rfl
@[simp] theorem items_dit (kvt : List (List Key × D)) : (D.items (D.dit kvt)) = (none) := rfl
@[simp] theorem isT_ins_bool (C : Addr) (fs : List (Str × D)) : (D.isT (D.ins C fs) Ty.bool) = (false) := rfl
@[simp] theorem isT_ins_int (C : Addr) (fs : List (Str × D)) : (D.isT (D.ins C fs) Ty.int) = (false) := rfl
@[simp] theorem isT_ins_str (C : Addr) (fs : List (Str × D)) : (D.isT (D.ins C fs) Ty.str) = (false) := rfl
@[simp] theorem isT_ins_list (C : Addr) (fs : List (Str × D)) : (D.isT (D.ins C fs) Ty.list) = (false) := rfl
@[simp] theorem isT_ins_tuple (C : Addr) (fs : List (Str × D)) : (D.isT (D.ins C fs) Ty.tuple) = (false) := rfl
@[simp] theorem isT_ins_dict (C : Addr) (fs : List (Str × D)) : (D.isT (D.ins C fs) Ty.dict) = (false) := rfl
@[simp] theorem kind_ins (C : Addr) (fs : List (Str × D)) : (D.kind (D.ins C fs)) = (none) := rfl
@[simp] theorem isNon_ins (C : Addr) (fs : List (Str × D)) : (D.isNon (D.ins C fs)) = (false) := rfl
@[simp] theorem tru_ins (C : Addr) (fs : List (Str × D)) : (D.tru (D.ins C fs)) = (none) := rfl
@[simp] theorem items_ins (C : Addr) (fs : List (Str × D)) : (D.items (D.ins C fs)) = (none) := rfl
@[simp] theorem isT_opq_bool  : (D.isT D.opq Ty.bool) = (false) := rfl
@[simp] theorem isT_opq_int  : (D.isT D.opq Ty.int) = (false) := rfl
@[simp] theorem isT_opq_str  : (D.isT D.opq Ty.str) = (false) := rfl
@[simp] theorem isT_opq_list  : (D.isT D.opq Ty.list) = (false) := rfl
@[simp] theorem isT_opq_tuple  : (D.isT D.opq Ty.tuple) = (false) := rfl
@[simp] theorem isT_opq_dict  : (D.isT D.opq Ty.dict) = (false) := rfl
@[simp] theorem kind_opq  : (D.kind D.opq) = (none) := rfl
@[simp] theorem isNon_opq  : (D.isNon D.opq) = (false) := rfl
@[simp] theorem tru_opq  : (D.tru D.opq) = (none) := rfl
@[simp] theorem items_opq  : (D.items D.opq) = (none) := rfl
@[simp] theorem rd_0 (i : Int) (j : Int) (Q : SV → Prop) : (gAdd (D.int i) (D.int j) Q) = (Q (.tr (.int (i + j)))) := rfl
@[simp] theorem rd_1 (x : Str) (y : Str) (Q : SV → Prop) : (gAdd (D.str x) (D.str y) Q) = (x.length + y.length ≤ sizeLine ∧ Q (.tr (.str (x ++ y)))) := rfl
@[simp] theorem rd_2 (xs : List D) (ys : List D) (Q : SV → Prop) : (gAdd (D.lst xs) (D.lst ys) Q) = (xs.length + ys.length ≤ sizeLine ∧ Q (.own (.lst (xs ++ ys)))) := rfl
@[simp] theorem rd_3 (xs : List D) (ys : List D) (Q : SV → Prop) : (gAdd (D.tup xs) (D.tup ys) Q) = (xs.length + ys.length ≤ sizeLine ∧ Q (.tr (.tup (xs ++ ys)))) := rfl
@[simp] theorem rd_4 (CC : Int → Int → Prop) (f : Int → Int → D) (i : Int) (j : Int) (Q : SV → Prop) : (gI CC f (D.int i) (D.int j) Q) = (CC i j ∧ Q (.tr (f i j))) := rfl
@[simp] theorem rd_5 (neg : Bool) (a : Bool) (b : Bool) (Q : SV → Prop) : (gIsB neg (D.bl a) (D.bl b) Q) = (Q (.tr (.bl (if neg then !decide (a = b) else decide (a = b))))) := rfl
@[simp] theorem rd_6 (i : Int) (Q : SV → Prop) : (gAbs [(D.int i)] Q) = (Q (.tr (.int (if i < 0 then -i else i)))) := rfl
@[simp] theorem rd_7 (i : Int) (Q : SV → Prop) : (gInt [(D.int i)] Q) = (Q (.tr (.int i))) := rfl
@[simp] theorem rd_8 (b : Bool) (Q : SV → Prop) : (gInt [(D.bl b)] Q) = (Q (.tr (.int (if b then 1 else 0)))) := rfl
@[simp] theorem rd_9 (i : Int) (j : Int) (Q : SV → Prop) : (gMax [(D.int i),(D.int j)] Q) = (Q (.tr (.int (if j > i then j else i)))) := rfl
@[simp] theorem rd_10 (i : Int) (j : Int) (Q : SV → Prop) : (gMin [(D.int i),(D.int j)] Q) = (Q (.tr (.int (if j < i then j else i)))) := rfl
@[simp] theorem rd_11 (xs : List D) (Q : SV → Prop) : (gListOf [(D.lst xs)] Q) = (Q (.own (.lst xs))) := rfl
@[simp] theorem rd_12 (xs : List D) (Q : SV → Prop) : (gListOf [(D.tup xs)] Q) = (Q (.own (.lst xs))) := rfl
@[simp] theorem rd_13 (xs : List D) (Q : SV → Prop) : (gTupOf [(D.lst xs)] Q) = (Q (.tr (.tup xs))) := rfl
@[simp] theorem rd_14 (xs : List D) (Q : SV → Prop) : (gTupOf [(D.tup xs)] Q) = (Q (.tr (.tup xs))) := rfl
@[simp] theorem rd_15 (i : Int) (j : Int) (Q : SV → Prop) : (gMul (D.int i) (D.int j) Q) = (CMulW i j ∧ Q (.tr (.int (i * j)))) := rfl
@[simp] theorem rd_16 (xs : List D) (k : Int) (Q : SV → Prop) : (gMul (D.lst xs) (D.int k) Q) = ((0 ≤ k ∧ k < 2 ^ 40 ∧ xs.length * k.toNat ≤ sizeLine) ∧ Q (.own (.lst (List.replicate k.toNat xs).flatten))) := rfl
@[simp] theorem rd_17 (x : Str) (k : Int) (Q : SV → Prop) : (gMul (D.str x) (D.int k) Q) = ((0 ≤ k ∧ k ≤ 1000 ∧ x.length ≤ 1000) ∧ Q (.tr (.str (Txt.mul x k)))) := rfl
@[simp] theorem rd_18 (z : Str) (xs : List D) (Q : SV → Prop) : (gJoin (D.str z) [(D.lst xs)] Q) = (∃ ys, strsD xs = some ys ∧ (ys.map (·.length)).sum + ys.length * z.length ≤ 16777216 ∧ okS (Txt.join z ys) ∧ Q (.tr (.str (Txt.join z ys)))) := rfl
@[simp] theorem rd_19 (z : Str) (xs : List D) (Q : SV → Prop) : (gJoin (D.str z) [(D.tup xs)] Q) = (∃ ys, strsD xs = some ys ∧ (ys.map (·.length)).sum + ys.length * z.length ≤ 16777216 ∧ okS (Txt.join z ys) ∧ Q (.tr (.str (Txt.join z ys)))) := rfl
@[simp] theorem rd_20 (T : String) (x : Str) : (tyD T (D.str x)) = (T = "str") := rfl
@[simp] theorem rd_21 (T : String) (xs : List D) : (tyD T (D.lst xs)) = (T = "list") := rfl
@[simp] theorem rd_22 (xs : List D) (Q : SV → Prop) : (gLen [(D.lst xs)] Q) = (Q (.tr (.int xs.length))) := rfl
@[simp] theorem rd_23 (xs : List D) (Q : SV → Prop) : (gLen [(D.tup xs)] Q) = (Q (.tr (.int xs.length))) := rfl
@[simp] theorem rd_24 (x : Str) (Q : SV → Prop) : (gLen [(D.str x)] Q) = (Q (.tr (.int x.length))) := rfl
@[simp] theorem rd_25 (xs : List D) (Q : SV → Prop) : (gAll [(D.lst xs)] Q) = (∃ bs, blsD xs = some bs ∧ Q (.tr (.bl (bs.all id)))) := rfl
@[simp] theorem rd_26 (xs : List D) (Q : SV → Prop) : (gAny [(D.lst xs)] Q) = (∃ bs, blsD xs = some bs ∧ Q (.tr (.bl (bs.any id)))) := rfl
@[simp] theorem rd_27 (xs : List D) (Q : SV → Prop) : (gSum [(D.lst xs)] Q) = (∃ bs, intsD xs = some bs ∧ Q (.tr (.int bs.sum))) := rfl
@[simp] theorem rd_28 (neg : Bool) (d : D) (ys : List D) (Q : SV → Prop) : (gIn neg d (D.lst ys) Q) = (d.dat = true ∧ dats ys = true ∧ d.dep ≤ 60 ∧ deps ys ≤ 60 ∧ Q (.tr (.bl (if neg then !ys.any (fun z => deq z d) else ys.any fun z => deq z d)))) := rfl
@[simp] theorem rd_29 (neg : Bool) (d : D) (ys : List D) (Q : SV → Prop) : (gIn neg d (D.tup ys) Q) = (d.flat = true ∧ ys.all D.flat = true ∧ Q (.tr (.bl (if neg then !ys.any (fun z => deq z d) else ys.any fun z => deq z d)))) := rfl
@[simp] theorem rd_30 (xs : List D) (i : Int) (Q : SV → Prop) : (gIxD (D.lst xs) (D.int i) Q) = (∃ d, atI xs i = some d ∧ Q (.tr d)) := rfl
@[simp] theorem rd_31 (xs : List D) (i : Int) (Q : SV → Prop) : (gIxD (D.tup xs) (D.int i) Q) = (∃ d, atI xs i = some d ∧ Q (.tr d)) := rfl
@[simp] theorem rd_32 (z : Str) (i : Int) (Q : SV → Prop) : (gIxD (D.str z) (D.int i) Q) = (∃ c, atI z.cps.toList i = some c ∧ Q (.tr (.str ⟨#[c]⟩))) := rfl
@[simp] theorem rd_33 (xs : List D) (lo : Option Int) (hi : Option Int) (Q : SV → Prop) : (gSlD (D.lst xs) lo hi Q) = (Q (.own (.lst (cutD xs lo hi)))) := rfl
@[simp] theorem rd_34 (xs : List D) (lo : Option Int) (hi : Option Int) (Q : SV → Prop) : (gSlD (D.tup xs) lo hi Q) = (Q (.tr (.tup (cutD xs lo hi)))) := rfl
@[simp] theorem rd_35 (z : Str) (lo : Option Int) (hi : Option Int) (Q : SV → Prop) : (gSlD (D.str z) lo hi Q) = (Q (.tr (.str (cutS z lo hi)))) := rfl
@[simp] theorem gIn_sign (neg : Bool) (z : Str) (c : Nat) (Q : SV → Prop) : (gIn neg (D.str ⟨#[c]⟩) (D.str z) Q) = (Q (.tr (.bl (if neg then !decide (c ∈ z.cps.toList) else decide (c ∈ z.cps.toList))))) := by
  simp [gIn, sign?]
theorem gSeq_go {g g' : GS} {D : VEnds} {S : S} (h : ∀ R, R = g' D → g { D with nx := R } S) : gSeq g g' D S := h _ rfl
/-! ### comprehensions, loops: what their readings come to -/
inductive All2 {α β : Type} (P : α → β → Prop) : List α → List β → Prop where
  | nil : All2 P [] []
  | cons {a b l m} : P a b → All2 P l m → All2 P (a :: l) (b :: m)
theorem All2.length {α β : Type} {P : α → β → Prop} {l : List α} {m : List β} (h : All2 P l m) : l.length = m.length := by
  induction h with
  | nil => rfl
  | cons _ _ ih => rw [List.length_cons, List.length_cons, ih]
theorem All2.snoc {α β : Type} {P : α → β → Prop} {l : List α} {m : List β} {a : α} {b : β} (h : All2 P l m) (k : P a b) : All2 P (l ++ [a]) (m ++ [b]) := by
  induction h with
  | nil => exact .cons k .nil
  | cons x _ ih => exact .cons x ih
theorem All2.all {α β : Type} {P : α → β → Prop} {R : β → Prop} {l : List α} {m : List β} (h : All2 P l m) (k : ∀ a b, P a b → R b) : ∀ b ∈ m, R b := by
  induction h with
  | nil => intro b hb; cases hb
  | cons x _ ih =>
    intro b hb
    cases hb with
    | head => exact k _ _ x
    | tail _ hb => exact ih b hb
def LcW (gg : GG) (gt : GT) (ge : GE) (vs : List Nat) (S : S) (Q : SV → Prop) (ds : List D) : Prop := ∃ W : List D → List D → Prop, W ds [] ∧ (∀ acc, W [] acc → Q (.own (.lst acc))) ∧
  ∀ d r acc, W (d :: r) acc → gg d (wipeS S vs) fun S2 => gt S2 fun b => if b = true then ge S2 fun sv => ∃ y, sv = .tr y ∧ acc.length < sizeLine ∧ W r (acc ++ [y]) else W r acc
@[simp] theorem gLc_eq (gi : GI) (gg : GG) (gt : GT) (ge : GE) (vs : List Nat) (S : S) (Q : SV → Prop) : gLc gi gg gt ge vs S Q = gi S (LcW gg gt ge vs S Q) := rfl
def ForW (gg : GG) (gb : GS) (D : VEnds) (S : S) (ds : List VT.D) : Prop := ∃ W : List VT.D → VT.S → Prop, W ds S ∧ (∀ S', W [] S' → D.nx S') ∧
  ∀ d r S1, W (d :: r) S1 → gg d S1 fun S2 => gb { nx := W r, rt := D.rt, bk := D.nx, ct := W r } S2
@[simp] theorem gFor_eq (gi : GI) (gg : GG) (gb : GS) (D : VEnds) (S : S) : gFor gi gg gb D S = gi S (ForW gg gb D S) := rfl
section
variable {gg : GG} {gt : GT} {ge : GE} {vs : List Nat} {S : S} {Q : SV → Prop} {ds : List D}
/-- [e for tg in it if t] -/
theorem lcW_filter {α : Type} (g : α → D) (keep : α → Bool) (f : α → D) {as : List α} (hds : ds = as.map g) (hl : as.length ≤ sizeLine) (hs : ∀ a ∈ as, ∀ (R : SV → Prop) (R2 : Prop), (keep a = true → R (.tr (f a))) → (keep a = false → R2) → gg (g a) (wipeS S vs) fun S2 => gt S2 fun b => if b = true then ge S2 R else R2)
    (q : Q (.own (.lst ((as.filter keep).map f)))) : LcW gg gt ge vs S Q ds := by
  subst hds
  refine ⟨fun r acc => ∃ l r', as = l ++ r' ∧ r = r'.map g ∧ acc = (l.filter keep).map f, ⟨[], as, rfl, rfl, rfl⟩, fun acc ⟨l, r', e, er, ea⟩ => ?_, fun d r acc ⟨l, r', e, er, ea⟩ => ?_⟩
  · cases r' with
    | cons _ _ => simp at er
    | nil =>
      rw [List.append_nil] at e
      rw [ea, ← e]
      exact q
  · cases r' with
    | nil => simp at er
    | cons a r' =>
      simp at er
      obtain ⟨rfl, rfl⟩ := er
      have hd : a ∈ as := by rw [e]; simp
      have h2 : (l.filter keep).length ≤ l.length := List.length_filter_le _ _
      have hlen : acc.length < sizeLine := by
        rw [ea, List.length_map]
        rw [e] at hl
        simp at hl
        omega
      exact hs a hd _ _ (fun k => ⟨_, rfl, hlen, l ++ [a], r', by rw [e]; simp, rfl, by rw [ea]; simp [k]⟩) fun k => ⟨l ++ [a], r', by rw [e]; simp, rfl, by rw [ea]; simp [k]⟩
/-- [e for tg in it] -/
theorem lcW_map {α : Type} (g : α → D) (f : α → D) {as : List α} (hds : ds = as.map g) (hl : as.length ≤ sizeLine) (hs : ∀ a ∈ as, ∀ R : SV → Prop, R (.tr (f a)) → gg (g a) (wipeS S vs) fun S2 => ge S2 R)
    (q : Q (.own (.lst (as.map f)))) : LcW gg gYes ge vs S Q ds :=
  lcW_filter g (fun _ => true) f hds hl (fun d hd R R2 h1 h2 => by simpa using hs d hd R (h1 rfl)) (by rw [List.filter_eq_self.mpr fun _ _ => rfl]; exact q)
/-- .. of the items themselves -/
theorem lcW_mapD (f : D → D) (hl : ds.length ≤ sizeLine) (hs : ∀ a ∈ ds, ∀ R : SV → Prop, R (.tr (f a)) → gg a (wipeS S vs) fun S2 => ge S2 R)
    (q : Q (.own (.lst (ds.map f)))) : LcW gg gYes ge vs S Q ds := lcW_map (fun d => d) f (List.map_id' ds).symm hl hs q
/-- items of which only P is known -/
theorem lcW_some (P : D → D → Prop) (hl : ds.length ≤ sizeLine) (hs : ∀ d ∈ ds, ∀ R : SV → Prop, (∀ y, P d y → R (.tr y)) → gg d (wipeS S vs) fun S2 => ge S2 R)
    (q : ∀ ys, All2 P ds ys → Q (.own (.lst ys))) : LcW gg gYes ge vs S Q ds := by
  refine ⟨fun r acc => ∃ l, ds = l ++ r ∧ All2 P l acc, ⟨[], rfl, .nil⟩, fun acc ⟨l, e, ea⟩ => ?_, fun d r acc ⟨l, e, ea⟩ => ?_⟩
  · rw [List.append_nil] at e
    subst e
    exact q _ ea
  · have hd : d ∈ ds := by rw [e]; simp
    have hlen : acc.length < sizeLine := by
      have := ea.length
      rw [e] at hl
      simp at hl
      omega
    simpa using hs d hd (fun sv => ∃ y, sv = .tr y ∧ acc.length < sizeLine ∧ ∃ l, ds = l ++ r ∧ All2 P l (acc ++ [y])) fun y hy => ⟨y, rfl, hlen, l ++ [d], by rw [e]; simp, ea.snoc hy⟩
end
@[simp] theorem le_sizeLine (n : Nat) : (n ≤ sizeLine) = (n ≤ 16777216) := rfl
@[simp] theorem lt_sizeLine (n : Nat) : (n < sizeLine) = (n < 16777216) := rfl
theorem atI_lt {α : Type} {xs : List α} {r : Int} (h0 : 0 ≤ r) (h1 : r < xs.length) : ∃ d, d ∈ xs ∧ atI xs r = some d := by
  have hj : r.toNat < xs.length := by omega
  refine ⟨xs[r.toNat], List.getElem_mem hj, ?_⟩
  unfold atI ixN
  rw [if_pos (by omega), if_pos (by omega)]
  simp
theorem log_lt {n : Nat} (h : n ≤ 10 ^ 40) : n.log2 < 9000 := by
  by_cases h0 : n = 0
  · subst h0; decide
  · rw [Nat.log2_lt h0]
    exact Nat.lt_of_le_of_lt h (Nat.lt_of_lt_of_le (by decide : 10 ^ 40 < 2 ^ 200) (Nat.pow_le_pow_right (by decide) (by decide)))
theorem zipD_eq : ∀ xs ys : List D, zipD xs ys = (xs.zip ys).map fun p => .tup [p.1, p.2]
  | x :: xs, y :: ys => by rw [zipD, List.zip_cons_cons, List.map_cons, zipD_eq xs ys]
  | [], _ => by simp [zipD]
  | _ :: _, [] => by simp [zipD]
def zipR (c : Bool) (Q : List D → Prop) : List SV → Prop := fun svs => ∃ sx sy, svs = [sx, sy] ∧ ((∃ ds es, sx.stays c ∧ sy.stays c ∧ sx.d = .lst ds ∧ sy.d = .lst es ∧ Q (zipD ds es)) ∨ (∃ ds es, sx.d = .tup ds ∧ sy.d = .tup es ∧ Q (zipD ds es)))
@[simp] theorem giZip_eq (c : Bool) (ga : GA) (S : S) (Q : List D → Prop) : giZip c ga S Q = ga S (zipR c Q) := rfl
theorem zipR_lst (c : Bool) (Q : List D → Prop) (x y : SV) (xs ys : List D) (hx : x.d = .lst xs) (hy : y.d = .lst ys) (sx : x.stays c) (sy : y.stays c) : zipR c Q [x, y] ↔ Q (zipD xs ys) := by
  constructor
  · rintro ⟨a, b, e, h⟩
    cases e
    rcases h with ⟨_, _, _, _, e1, e2, h⟩ | ⟨_, _, e1, e2, h⟩ <;> rw [hx] at e1 <;> rw [hy] at e2 <;> cases e1 <;> cases e2
    exact h
  · exact fun h => ⟨x, y, rfl, .inl ⟨xs, ys, sx, sy, hx, hy, h⟩⟩
@[simp] theorem zipR_tup (c : Bool) (Q : List D → Prop) (xs ys : List D) : zipR c Q [.tr (.tup xs), .tr (.tup ys)] ↔ Q (zipD xs ys) := by
  constructor
  · rintro ⟨a, b, e, h⟩
    cases e
    rcases h with ⟨_, _, _, _, e1, e2, h⟩ | ⟨_, _, e1, e2, h⟩ <;> cases e1 <;> cases e2
    exact h
  · exact fun h => ⟨_, _, rfl, .inr ⟨xs, ys, rfl, rfl, h⟩⟩
def enumR (c : Bool) (Q : List D → Prop) : List SV → Prop := fun svs => ∃ sv ds, svs = [sv] ∧ sv.stays c ∧ sv.d = .lst ds ∧ Q (enumD ds)
@[simp] theorem giEnum_eq (c : Bool) (ga : GA) (S : S) (Q : List D → Prop) : giEnum c ga S Q = ga S (enumR c Q) := rfl
theorem enumR_lst (c : Bool) (Q : List D → Prop) (x : SV) (xs : List D) (hx : x.d = .lst xs) (sx : x.stays c) : enumR c Q [x] ↔ Q (enumD xs) := by
  constructor
  · rintro ⟨a, ds, e, _, e1, h⟩
    cases e
    rw [hx] at e1
    cases e1
    exact h
  · exact fun h => ⟨x, xs, rfl, sx, hx, h⟩
@[simp] theorem dat_non : D.dat D.non = true := rfl
@[simp] theorem dep_non : D.dep D.non = 0 := rfl
@[simp] theorem flat_non : D.flat D.non = true := rfl
@[simp] theorem dat_bl (b : Bool) : D.dat (D.bl b) = true := rfl
@[simp] theorem dep_bl (b : Bool) : D.dep (D.bl b) = 0 := rfl
@[simp] theorem flat_bl (b : Bool) : D.flat (D.bl b) = true := rfl
@[simp] theorem dat_int (i : Int) : D.dat (D.int i) = true := rfl
@[simp] theorem dep_int (i : Int) : D.dep (D.int i) = 0 := rfl
@[simp] theorem flat_int (i : Int) : D.flat (D.int i) = true := rfl
@[simp] theorem dat_str (x : Str) : D.dat (D.str x) = true := rfl
@[simp] theorem dep_str (x : Str) : D.dep (D.str x) = 0 := rfl
@[simp] theorem flat_str (x : Str) : D.flat (D.str x) = true := rfl
@[simp] theorem dat_lst (xs : List D) : D.dat (.lst xs) = dats xs := rfl
@[simp] theorem dat_tup (xs : List D) : D.dat (.tup xs) = dats xs := rfl
@[simp] theorem dep_lst (xs : List D) : D.dep (.lst xs) = deps xs + 1 := rfl
@[simp] theorem dep_tup (xs : List D) : D.dep (.tup xs) = deps xs + 1 := rfl
@[simp] theorem dats_nil : dats [] = true := rfl
@[simp] theorem dats_cons (x : D) (xs : List D) : dats (x :: xs) = (x.dat && dats xs) := rfl
@[simp] theorem deps_nil : deps [] = 0 := rfl
@[simp] theorem deps_cons (x : D) (xs : List D) : deps (x :: xs) = max x.dep (deps xs) := rfl
@[simp] theorem deq_bl (a b : Bool) : deq (.bl a) (.bl b) = (a == b) := rfl
@[simp] theorem deq_int (a b : Int) : deq (.int a) (.int b) = (a == b) := rfl
@[simp] theorem deq_str (a b : Str) : deq (.str a) (.str b) = (a == b) := rfl
@[simp] theorem deq_non : deq .non .non = true := rfl
@[simp] theorem deq_lst (xs ys : List D) : deq (.lst xs) (.lst ys) = deqs xs ys := rfl
@[simp] theorem deq_tup (xs ys : List D) : deq (.tup xs) (.tup ys) = deqs xs ys := rfl
@[simp] theorem deqs_nil : deqs [] [] = true := rfl
@[simp] theorem deqs_cons (x y : D) (xs ys : List D) : deqs (x :: xs) (y :: ys) = (deq x y && deqs xs ys) := rfl
@[simp] theorem deqs_nc (y : D) (ys : List D) : deqs [] (y :: ys) = false := rfl
@[simp] theorem deqs_cn (x : D) (xs : List D) : deqs (x :: xs) [] = false := rfl
@[simp] theorem zipR_tt (c : Bool) (Q : List D → Prop) (xs ys : List D) : zipR c Q [.tr (.lst xs), .tr (.lst ys)] ↔ Q (zipD xs ys) := zipR_lst c Q _ _ xs ys rfl rfl trivial trivial
@[simp] theorem zipR_bt (c : Bool) (Q : List D → Prop) (xs ys : List D) : zipR c Q [.brw (.lst xs), .tr (.lst ys)] ↔ Q (zipD xs ys) := zipR_lst c Q _ _ xs ys rfl rfl trivial trivial
@[simp] theorem zipR_tb (c : Bool) (Q : List D → Prop) (xs ys : List D) : zipR c Q [.tr (.lst xs), .brw (.lst ys)] ↔ Q (zipD xs ys) := zipR_lst c Q _ _ xs ys rfl rfl trivial trivial
@[simp] theorem zipR_bb (c : Bool) (Q : List D → Prop) (xs ys : List D) : zipR c Q [.brw (.lst xs), .brw (.lst ys)] ↔ Q (zipD xs ys) := zipR_lst c Q _ _ xs ys rfl rfl trivial trivial
@[simp] theorem enumR_t (c : Bool) (Q : List D → Prop) (xs : List D) : enumR c Q [.tr (.lst xs)] ↔ Q (enumD xs) := enumR_lst c Q _ xs rfl trivial
@[simp] theorem enumR_b (c : Bool) (Q : List D → Prop) (xs : List D) : enumR c Q [.brw (.lst xs)] ↔ Q (enumD xs) := enumR_lst c Q _ xs rfl trivial
/-! lists of up to 4096 items -/
mutual
def D.wid : D → Bool
  | .lst xs | .tup xs => decide (xs.length ≤ 4096) && wids xs
  | _ => true
def wids : List D → Bool
  | [] => true
  | x :: xs => x.wid && wids xs
end
@[simp] theorem wid_lst (xs : List D) : D.wid (.lst xs) = (decide (xs.length ≤ 4096) && wids xs) := rfl
@[simp] theorem wid_tup (xs : List D) : D.wid (.tup xs) = (decide (xs.length ≤ 4096) && wids xs) := rfl
@[simp] theorem wid_non : D.wid .non = true := rfl
@[simp] theorem wid_bl (b : Bool) : D.wid (.bl b) = true := rfl
@[simp] theorem wid_int (b : Int) : D.wid (.int b) = true := rfl
@[simp] theorem wid_str (b : Str) : D.wid (.str b) = true := rfl
@[simp] theorem wids_nil : wids [] = true := rfl
@[simp] theorem wids_cons (x : D) (xs : List D) : wids (x :: xs) = (x.wid && wids xs) := rfl
theorem wids_all {xs : List D} (h : wids xs = true) : ∀ x ∈ xs, x.wid = true := by
  induction xs with
  | nil => intro x hx; cases hx
  | cons y ys ih =>
    intro x hx
    simp at h
    cases hx with
    | head => exact h.1
    | tail _ hx => exact ih h.2 x hx
theorem wids_map {α : Type} {f : α → D} {xs : List α} (h : ∀ x ∈ xs, (f x).wid = true) : wids (xs.map f) = true := by
  induction xs with
  | nil => rfl
  | cons y ys ih => simp [h y, ih fun x hx => h x (List.mem_cons_of_mem _ hx)]
theorem dep_lt_of_mem {xs : List D} {n : Nat} (h : deps xs < n) : ∀ x ∈ xs, x.dep < n := by
  intro x hx
  induction xs with
  | nil => cases hx
  | cons y ys ih =>
    simp at h
    cases hx with
    | head => omega
    | tail _ hx => exact ih (by omega) hx
theorem dats_all {xs : List D} (h : dats xs = true) : ∀ x ∈ xs, x.dat = true := by
  induction xs with
  | nil => intro x hx; cases hx
  | cons y ys ih =>
    intro x hx
    simp at h
    cases hx with
    | head => exact h.1
    | tail _ hx => exact ih h.2 x hx
theorem deps_all {xs : List D} {n : Nat} (h : deps xs ≤ n) : ∀ x ∈ xs, x.dep ≤ n := by
  induction xs with
  | nil => intro x hx; cases hx
  | cons y ys ih =>
    intro x hx
    simp at h
    cases hx with
    | head => omega
    | tail _ hx => exact ih (by omega) x hx
theorem dats_map {α : Type} {f : α → D} {xs : List α} (h : ∀ x ∈ xs, (f x).dat = true) : dats (xs.map f) = true := by
  induction xs with
  | nil => rfl
  | cons y ys ih => simp [h y, ih fun x hx => h x (List.mem_cons_of_mem _ hx)]
theorem deps_map {α : Type} {f : α → D} {xs : List α} {n : Nat} (h : ∀ x ∈ xs, (f x).dep ≤ n) : deps (xs.map f) ≤ n := by
  induction xs with
  | nil => exact Nat.zero_le _
  | cons y ys ih =>
    simp
    have h1 := h y (List.mem_cons_self ..)
    have h2 := ih fun x hx => h x (List.mem_cons_of_mem _ hx)
    omega
theorem FnV.none {P : Program} {w : World} {K : PySem.W.Frag} {mg : Str → Option Value} {base : Heap} {d : He.DefD} {k : Nat} {ps : List Str} (h : DefAt K mg d) : FnV P w K mg base d k ps fun _ _ => False := by
  obtain ⟨⟨fd, hf⟩, hm⟩ := h
  exact ⟨⟨fd, hf, ⟨fun vs H Q E ⟨_, _, _, _, _, _, z, _⟩ => z.elim, fun A outer s H args us vs Q E _ _ _ _ ⟨_, _, _, _, _, _, z, _⟩ => z.elim⟩⟩, hm⟩
end VT

namespace VT
open PySem PySem.Spec PyProof.Rows L2

/-! ### joined texts -/
theorem okS_joinS {sep : Str} (hs : PyData.strOk sep = true) : ∀ {ys : List Str}, (∀ y ∈ ys, PyData.strOk y = true) → PyData.strOk (Str.join sep ys) = true ∧ (Str.join sep ys).length ≤ (ys.map (·.length)).sum + ys.length * sep.length
  | [], _ => ⟨by show PyData.strOk Str.empty = true; decide +kernel, Nat.zero_le _⟩
  | [y], h => ⟨h y (List.mem_cons_self ..), by
    show y.length ≤ _
    simp⟩
  | y :: z :: r, h => by
    obtain ⟨h1, h2⟩ := okS_joinS (ys := z :: r) hs fun x hx => h x (List.mem_cons_of_mem _ hx)
    show PyData.strOk (y ++ sep ++ Str.join sep (z :: r)) = true ∧ (y ++ sep ++ Str.join sep (z :: r)).length ≤ _
    refine ⟨strOk_append (strOk_append (h y (List.mem_cons_self ..)) hs) h1, ?_⟩
    rw [length_append, length_append]
    simp only [List.map_cons, List.sum_cons, List.length_cons, Nat.add_mul, Nat.one_mul] at h2 ⊢
    omega
theorem okS_join {sep : Str} {ys : List Str} (hs : PyData.strOk sep = true) (h : ∀ y ∈ ys, PyData.strOk y = true) (hl : (ys.map (·.length)).sum + ys.length * sep.length ≤ sizeLine) : okS (Txt.join sep ys) ∧ (Txt.join sep ys).length ≤ (ys.map (·.length)).sum + ys.length * sep.length := by
  have e : Txt.join sep ys = Str.join sep ys := by
    show Builtin.Str.glued sep ys = _
    rw [StrLaws.glued_eq_join]
  rw [e]
  obtain ⟨h1, h2⟩ := okS_joinS hs h
  exact ⟨⟨h1, by omega⟩, h2⟩
theorem sum_le {α : Type} (f : α → Nat) (n : Nat) : ∀ {l : List α}, (∀ x ∈ l, f x ≤ n) → (l.map f).sum ≤ l.length * n
  | [], _ => by simp
  | a :: l, h => by
    have h1 := h a (List.mem_cons_self ..)
    have h2 := sum_le f n (l := l) fun x hx => h x (List.mem_cons_of_mem _ hx)
    simp only [List.map_cons, List.sum_cons, List.length_cons, Nat.add_mul, Nat.one_mul]
    omega
theorem strs_of {P : Str → Prop} : ∀ {ds : List D}, (∀ d ∈ ds, ∃ x, d = .str x ∧ P x) → ∃ ys : List Str, ds = ys.map D.str ∧ ∀ y ∈ ys, P y
  | [], _ => ⟨[], rfl, fun _ h => nomatch h⟩
  | d :: ds, h => by
    obtain ⟨x, rfl, hx⟩ := h d (List.mem_cons_self ..)
    obtain ⟨ys, rfl, hy⟩ := strs_of (ds := ds) fun e he => h e (List.mem_cons_of_mem _ he)
    refine ⟨x :: ys, rfl, fun y hm => ?_⟩
    cases hm with
    | head => exact hx
    | tail _ hm => exact hy y hm
theorem strsD_str (ys : List Str) : strsD (ys.map D.str) = some ys := by
  have := strsD_map (fun x : Str => x) ys
  simpa using this
@[simp] theorem rngD_len (lo : Int) (n : Nat) : (rngD lo n).length = n := by simp [rngD]
theorem okS_app {x y : Str} (hx : okS x) (hy : okS y) (h : x.length + y.length ≤ sizeLine) : okS (x ++ y) := ⟨strOk_append hx.1 hy.1, by rw [length_append]; exact h⟩
theorem cutS_len (z : Str) (lo hi : Option Int) : (cutS z lo hi).length ≤ z.length := by
  show (cutS z lo hi).cps.size ≤ z.cps.size
  unfold cutS
  simp
  omega
/-! ### the law's own def: the bag is made, then the rest is read -/
def tEx (K : PySem.W.Frag) (g : GS) : TS := fun D σ H => ∃ G0 H0, G0.T = TabsOf K ∧ TSV G0 H0 g D σ H
theorem VSs.ex {X : Cx} {st : List Stmt} {g : GS} (h : VSs X E0T st g) : PSs X st (tEx X.K g) := ⟨fun pins s σ H D I ⟨G0, H0, e, q⟩ => (h.pss G0 H0 ⟨takesE0, e⟩).run pins s σ H D I q⟩
def cellsV (ns : List Int) : List V := (ns.take 63).map V.int
def spBag (K : PySem.W.Frag) : Sp := fun vs H Q _ => ∃ (a : Addr) (ns : List Int), vs = [.ref a] ∧ SqL K H a (ns.map V.int) ∧
  ∀ H' c p, H c = none → H p = none → H' c = some (.lst (cellsV ns)) → H' p = some (.lst [.ref c, .int 0, .int 0, .int (10004 + 13 * (cellsV ns).length)]) → (∀ b o, H b = some o → H' b = some o) → Q (.ref p) H'
theorem cut63 (ns : List Int) : cutV (ns.map V.int) none (some 63) = cellsV ns := by
  unfold cutV cellsV HT.sIx
  rw [List.map_take]
  simp
theorem cells_len (ns : List Int) : (cellsV ns).length ≤ 63 := by
  unfold cellsV
  rw [List.length_map, List.length_take]
  omega
/-- one list and the bag over it stand: the rest's reading may begin -/
theorem bag_start {K : PySem.W.Frag} {ns : List Int} {H' : Hp} {c p : Addr} {g : GS} {D : Ends} {σ : L2.St} {n : Nat} (hcp : c ≠ p) (hc : H' c = some (.lst (cellsV ns))) (hp : H' p = some (.lst [.ref c, .int 0, .int 0, .int (10004 + 13 * (cellsV ns).length)])) (hσ1 : σ[1]? = some (some (.ref p))) (hσ : σ.length = n + 2) (hT : LamX.Tabs (TabsOf K) H')
    (DV : VEnds) (q : g DV (none :: some .bag :: List.replicate n none)) (hnx : ∀ S, DV.nx S → ∀ σ H, D.nx σ H) (hrt : ∀ sv, DV.rt sv → ∀ v H, (∀ G H0, RepV H0 H0 G H v sv → D.rt v H)) (hbk : ∀ S, ¬ DV.bk S) (hct : ∀ S, ¬ DV.ct S) : tEx K g D σ H' := by
  have ne : ((fun x => if x = c then some (HO.lst (cellsV ns)) else none : Hp)) p = none := if_neg (Ne.symm hcp)
  have ok : OkG ⟨fun x => if x = c then some (HO.lst (cellsV ns)) else none, some p, TabsOf K⟩ H' := by
    refine ⟨fun b o e => ?_, fun q e => ?_, hT⟩
    · have e : (if b = c then some (HO.lst (cellsV ns)) else none) = some o := e
      split at e
      · rename_i hb
        rw [hb, hc]
        exact e
      · cases e
    · have e2 : p = q := Option.some.inj e
      subst e2
      have := cells_len ns
      refine ⟨⟨c, ns.take 63, 0, 0, _, hp, if_pos rfl, by rw [List.length_take]; omega, by omega, by omega, by omega, by omega⟩, ne⟩
  refine ⟨⟨fun x => if x = c then some (.lst (cellsV ns)) else none, some p, TabsOf K⟩, H', rfl, ⟨fun x => if x = c then some (.lst (cellsV ns)) else none, some p, TabsOf K⟩, none :: some .bag :: List.replicate n none, DV, ?_, q, ⟨fun σ H G S _ _ h => hnx S h σ H, fun v H G sv _ r _ h => hrt sv h v H G _ r, fun _ _ _ S _ _ h => (hbk S h).elim, fun _ _ _ S _ _ h => (hct S h).elim⟩⟩
  have hs : ∀ (i : Nat) (sv : SV), (none :: some SV.bag :: List.replicate n (none : Option SV))[i]? = some (some sv) → i = 1 ∧ sv = .bag := by
    intro i sv e
    match i with
    | 0 => simp at e
    | 1 => simp at e; exact ⟨rfl, e.symm⟩
    | i + 2 =>
      simp at e
      rw [List.getElem?_replicate] at e
      split at e <;> cases e
  refine ⟨.refl ok, by simp [hσ], fun i sv e => ?_, fun i j sv sw v w b _ e _ _ _ o => ?_, fun i sv e => ?_⟩
  · obtain ⟨rfl, rfl⟩ := hs i sv e
    exact ⟨_, hσ1, p, rfl, rfl⟩
  · obtain ⟨rfl, rfl⟩ := hs i sv e
    exact o.elim
  · obtain ⟨rfl, rfl⟩ := hs i sv e
    trivial
def spLaw (K : PySem.W.Frag) : Sp := fun vs H Q _ => ∃ (a : Addr) (ns : List Int), vs = [.ref a] ∧ SqL K H a (ns.map V.int) ∧ ∀ H', Q (.bl true) H'
def VLaw : VEnds := { nx := fun _ => False, rt := fun sv => sv = .tr (.bl true) }
section
variable {P : Program} {w : World} {K : PySem.W.Frag} {mg : Str → Option Value} {base : Heap} {d : He.DefD} {k : Nat} {N : List Str} {g : GS}
theorem law_ok (Sc : FnScope ("_law_script" :: "_law_bag_here" :: N) ["_law_script"] d.scope)
    (hbody : ∀ (f : Addr) (cdv : Value) (A : Around) (outer : List Env) (s : Shared) (H : Hp) (E : XK), Room k (A.deeper (envOfC d.qual d.scope s.heap.objs.size f cdv)) →
      PSs (cxOf CX0 P w K mg base ("_law_script" :: "_law_bag_here" :: N) d.qual d.scope f cdv A outer s H E).nox d.body (tSeq (tAsg (tCall (spBag K) [] E0 (tCons (tVar 0) tNil)) (L2.gName 1)) (tEx K g)))
    (pure_ : g VLaw (none :: some .bag :: List.replicate N.length none)) :
    ∀ fd, FunD K d.name d.qual d.params d.body d.scope (d.dvs K) (d.kws K) (He.fAd K d.at_) fd → FnOk P w K mg base CX0 (k + 1) (He.fAd K d.at_) fd ["_law_script"] (spLaw K) := by
  intro fd hf
  refine hf.ok Sc (fun vs H Q E ⟨a, ns, e, _⟩ => by rw [e]; rfl) (fun cdv A outer s H vs Q E hr hsp => ⟨_, PSs.nox (hbody _ cdv A outer s H E hr), ?_⟩)
  obtain ⟨a, ns, rfl, hS, hq⟩ := hsp
  refine ⟨_, rfl, ?_⟩
  refine ⟨a, ns, rfl, hS, fun H' c p hc hp ec ep _ => ?_⟩
  have hcp : c ≠ p := fun z => by
    rw [z, ep] at ec

    cases hn : cellsV ns with
    | nil => rw [hn] at ec; cases ec
    | cons x xs =>
      obtain ⟨y, hy⟩ : ∃ y : Int, x = .int y := by
        unfold cellsV at hn
        have hx : x ∈ (ns.take 63).map V.int := by rw [hn]; exact List.mem_cons_self ..
        obtain ⟨y, _, hy⟩ := List.mem_map.mp hx
        exact ⟨y, hy.symm⟩
      rw [hn, hy] at ec
      cases ec
  refine bag_start (n := N.length) hcp ec ep rfl ?_ (fun p hp => nomatch hp) VLaw pure_ (fun S z => z.elim) (fun sv e v H G H0 r => ?_) (fun _ z => z) (fun _ z => z)
  · simp [L2.start]
  · have e : sv = .tr (.bl true) := e
    subst e
    have e2 : v = .bl true := r
    subst e2
    exact hq _
end
end VT

namespace VT
open PySem PySem.Spec PyProof.Rows L2

/-! ### isinstance with two types; xs[::-1]; {} -/
@[simp] def gIsi2 (T U : Ty) (g : GE) : GE := fun S Q => g S fun sv => sv.d.kind.isSome = true ∧ Q (.tr (.bl (sv.d.isT T || sv.d.isT U)))
section
variable {X : Cx} {EX : EXT} {e : Expr} {g : GE} {pos p p2 p3 p4 : Pos} {k : Nat}
theorem ve_isi2 (T U : Ty) {x y : Str} (he : VE X EX e g) (gI : Gl X "isinstance") (mI : X.mg "isinstance" = none) (gT : Gl X x) (mT : X.mg x = none) (hT : bootBuiltins x = some (.type T.nm)) (gU : Gl X y) (mU : X.mg y = none) (hU : bootBuiltins y = some (.type U.nm))
    (hn : x ≠ "__name__" := by decide) (hd : (x == ("__debug__" : Str)) = false := by decide) (hn2 : y ≠ "__name__" := by decide) (hd2 : (y == ("__debug__" : Str)) = false := by decide)
    (h1 : starEach [e, .Tuple [.Name x p2, .Name y p3] k p4] X.env = (false, eval e X.env) :: starEach [.Tuple [.Name x p2, .Name y p3] k p4] X.env := by rfl) (h2 : starEach [.Tuple [.Name x p2, .Name y p3] k p4] X.env = (false, eval (.Tuple [.Name x p2, .Name y p3] k p4) X.env) :: starEach [] X.env := by rfl)
    (h3 : starEach [.Name x p2, .Name y p3] X.env = (false, eval (.Name x p2) X.env) :: starEach [.Name y p3] X.env := by rfl) (h4 : starEach [.Name y p3] X.env = (false, eval (.Name y p3) X.env) :: starEach [] X.env := by rfl)
    (hpl : (backTo pos (starEach [.Tuple [.Name x p2, .Name y p3] k p4] X.env)).any (·.1) = false := by rfl) : VE X EX (.Call (.Name "isinstance" p) [e, .Tuple [.Name x p2, .Name y p3] k p4] [] pos) (gIsi2 T U g) := by
  refine ⟨fun G0 H0 tk => peMono (pe_callB call_isiT gI mI (by decide +kernel) (pa_cons (he.pe G0 H0 tk) (pa_cons (pe_tup (pa_cons (pe_bltn (v := .ty T.nm) gT mT hT rfl hn hd) (pa_cons (pe_bltn (v := .ty U.nm) gU mU hU rfl hn2 hd2) pa_nil h4) h3)) pa_nil h2) h1) (by decide) (by decide) h1 hpl) fun σ H Q ⟨G, S, Qs, R, q, k⟩ => ?_⟩
  refine ⟨G, S, _, R, q, fun v H1 G1 sv E1 r1 q1 => ?_⟩
  obtain ⟨hk, q1⟩ := q1
  obtain ⟨n, hn⟩ := Option.isSome_iff_exists.mp hk
  refine ⟨by show 2 ≤ sizeLine; decide, fun t ht => ?_⟩
  have E2 := ext_new E1.ok ht (.tup [.ty T.nm, .ty U.nm])
  refine ⟨v, t, [.ty T.nm, .ty U.nm], .type n, [.type T.nm, .type U.nm], _, rfl, upd_same, .cons (.ty _) (.cons (.ty _) .nil), (r1.ext E2).ty E2.ok hn, ?_, kq_tr (d := .bl _) (kq_back (E1.trans E2) k) E2.ok rfl q1⟩
  refine kitAny_cons (kit_ty (isT_kit sv.d T n hn)) (fun z => ?_) (fun z => by rw [z, Bool.true_or])
  rw [z, Bool.false_or]
  refine kitAny_cons (kit_ty (isT_kit sv.d U n hn)) (fun z => ?_) id
  rw [z]
  exact kitAny_nil
@[simp] def gRev (g : GE) : GE := fun S Q => g S fun sv => ∃ xs, sv.d = .lst xs ∧ Q (.own (.lst xs.reverse))
theorem ve_rev (he : VE X EX e g) : VE X EX (.Subscript e (.Slice none none (some (.UnaryOp .USub (.Constant (.int 1) k p) p2)) p3) pos) (gRev g) := by
  refine ⟨fun G0 H0 tk => peMono (pe_revL (he.pe G0 H0 tk)) fun σ H Q ⟨G, S, Qs, R, q, kq⟩ => ?_⟩
  refine ⟨G, S, _, R, q, fun v H1 G1 sv E1 r1 q1 => ?_⟩
  obtain ⟨xs, hx, q1⟩ := q1
  obtain ⟨a, vs, rfl, ea, ra⟩ := r1.lst E1.ok hx
  exact ⟨a, vs, rfl, .of ea, fun t ht => kq_lst (kq_back E1 kq) E1.ok ht ra.reverse q1⟩
@[simp] def gDic0 : GE := fun S Q => Q (.own (.dic []))
theorem ve_dic0 : VE X EX (.Dict [] [] pos) gDic0 :=
  ⟨fun G0 H0 tk => peMono pe_dnewK fun σ H Q ⟨G, S, Qs, R, q, kq⟩ t ht => kq_dic (ds := []) (vs := []) kq R.ok ht rfl q⟩
end
/-- a parameter that is only looked at -/
structure IsA (sv : SV) (d : D) : Prop where
  look : sv.look = sv
  d : sv.d = d
  st : ∀ c, sv.stays c
@[simp] theorem isA_tr (x d : D) : IsA (.tr x) d ↔ x = d := ⟨fun h => h.d, fun h => ⟨rfl, h, fun _ => trivial⟩⟩
@[simp] theorem isA_brw (x d : D) : IsA (.brw x) d ↔ x = d := ⟨fun h => h.d, fun h => ⟨rfl, h, fun _ => trivial⟩⟩
theorem zipR_isa {c : Bool} {Q : List D → Prop} {x y : SV} {xs ys : List D} (hx : IsA x (.lst xs)) (hy : IsA y (.lst ys)) : zipR c Q [x, y] ↔ Q (zipD xs ys) := zipR_lst c Q x y xs ys hx.d hy.d (hx.st c) (hy.st c)
theorem zipR_isat {c : Bool} {Q : List D → Prop} {x y : SV} {xs ys : List D} (hx : IsA x (.tup xs)) (hy : IsA y (.tup ys)) : zipR c Q [x, y] ↔ Q (zipD xs ys) := by
  constructor
  · rintro ⟨a, b, e, h⟩
    cases e
    rcases h with ⟨_, _, _, _, e1, e2, h⟩ | ⟨_, _, e1, e2, h⟩ <;> rw [hx.d] at e1 <;> rw [hy.d] at e2 <;> cases e1 <;> cases e2
    exact h
  · exact fun h => ⟨x, y, rfl, .inr ⟨xs, ys, hx.d, hy.d, h⟩⟩
/-! ### the bag's promises -/
/-- a draw: any number below -/
def fDraw : FSp := fun svs Q => ∃ n : Int, svs = [.bag, .tr (.int n)] ∧ 0 < n ∧ n.natAbs.log2 < 9000 ∧ ∀ r : Int, 0 ≤ r → r < n → Q (.tr (.int r))
@[simp] theorem fDraw_eq (n : Int) (Q : SV → Prop) : fDraw [.bag, .tr (.int n)] Q ↔ 0 < n ∧ n.natAbs.log2 < 9000 ∧ ∀ r : Int, 0 ≤ r → r < n → Q (.tr (.int r)) := by simp [fDraw]
/-- the bag at p with these numbers -/
structure BagN (G : Gh) (H : Hp) (p c : Addr) (ns : List Int) (i r m : Int) : Prop where
  ok : OkG G H
  pb : G.pb = some p
  at_ : H p = some (.lst [.ref c, .int i, .int r, .int m])
  cells : G.F c = some (.lst (ns.map V.int))
  len : ns.length ≤ 63
  hi : 0 ≤ i
  hr : 0 ≤ r
  hm : 0 ≤ m ∧ m < 2147483648
theorem BagN.bag {G : Gh} {H : Hp} {p c : Addr} {ns : List Int} {i r m : Int} (b : BagN G H p c ns i r m) : BagAt G H p := ⟨c, ns, i, r, m, b.at_, b.cells, b.len, b.hi, b.hr, b.hm.1, b.hm.2⟩
theorem BagN.ne {G : Gh} {H : Hp} {p c : Addr} {ns : List Int} {i r m : Int} (b : BagN G H p c ns i r m) : c ≠ p := fun z => by
  have h := (b.ok.bag p b.pb).2
  rw [← z, b.cells] at h
  cases h
theorem BagN.cellsH {G : Gh} {H : Hp} {p c : Addr} {ns : List Int} {i r m : Int} (b : BagN G H p c ns i r m) : H c = some (.lst (ns.map V.int)) := b.ok.sub _ _ b.cells
/-- one of the numbers is stored -/
theorem BagN.put {G : Gh} {H : Hp} {p c : Addr} {ns : List Int} {i r m i' r' m' : Int} (b : BagN G H p c ns i r m) (h1 : 0 ≤ i') (h2 : 0 ≤ r') (h3 : 0 ≤ m' ∧ m' < 2147483648) : BagN G (upd H p (.lst [.ref c, .int i', .int r', .int m'])) p c ns i' r' m' := by
  have hF := (b.ok.bag p b.pb).2
  refine ⟨⟨fun x u e => ?_, fun q e => ?_, tabs_put b.ok.tabs b.at_ nofun nofun⟩, b.pb, upd_same, b.cells, b.len, h1, h2, h3⟩
  · rw [upd_ne (fun z => by rw [z, hF] at e; cases e)]
    exact b.ok.sub x u e
  · have e2 : p = q := Option.some.inj (b.pb.symm.trans e)
    subst e2
    exact ⟨⟨c, ns, i', r', m', upd_same, b.cells, b.len, h1, h2, h3.1, h3.2⟩, hF⟩
/-- nothing but the bag was changed -/
theorem BagN.ext {G : Gh} {H H' : Hp} {p c : Addr} {ns : List Int} {i r m i' r' m' : Int} (b : BagN G H p c ns i r m) (b' : BagN G H' p c ns i' r' m') (h : ∀ x, x ≠ p → H' x = H x) : Ext G H G H' :=
  ⟨b'.ok, fun x u e q _ => by rw [h x (fun z => q (by rw [z]; exact b.pb))]; exact e, fun x ps e => ⟨ps, by rw [h x (fun z => by rw [z, b.at_] at e; cases e)]; exact e⟩, rfl, fun _ z => z, fun _ z => .inl z, fun _ _ z => z, fun _ _ z => .inl z⟩
def f1 (f : D → D) : FSp := fun svs Q => ∃ d, svs = [.tr d] ∧ d.kind.isSome = true ∧ Q (.tr (f d))
@[simp] theorem f1_eq (f : D → D) (d : D) (Q : SV → Prop) : f1 f [.tr d] Q ↔ d.kind.isSome = true ∧ Q (.tr (f d)) := by simp [f1]
theorem f1_len {f : D → D} {p : Str} : ∀ svs Qs, f1 f svs Qs → svs.length = [p].length := by
  rintro svs Qs ⟨d, rfl, _⟩; rfl
def fPick : FSp := fun svs Q => (∃ xs, svs = [.bag, .tr (.lst xs)] ∧ 0 < xs.length ∧ xs.length ≤ 1000000 ∧ ∀ d ∈ xs, Q (.tr d)) ∨ (∃ z, svs = [.bag, .tr (.str z)] ∧ 0 < z.length ∧ z.length ≤ 1000000 ∧ ∀ c ∈ z.cps.toList, Q (.tr (.str ⟨#[c]⟩)))
@[simp] theorem fPick_lst (xs : List D) (Q : SV → Prop) : fPick [.bag, .tr (.lst xs)] Q ↔ 0 < xs.length ∧ xs.length ≤ 1000000 ∧ ∀ d ∈ xs, Q (.tr d) := by simp [fPick]
@[simp] theorem fPick_str (z : Str) (Q : SV → Prop) : fPick [.bag, .tr (.str z)] Q ↔ 0 < z.length ∧ z.length ≤ 1000000 ∧ ∀ c ∈ z.cps.toList, Q (.tr (.str ⟨#[c]⟩)) := by simp [fPick]
mutual
def sameD : D → D → Bool
  | a, .lst ys => match a with
    | .lst xs => decide (xs.length = ys.length) && sames xs ys
    | _ => false
  | a, .tup ys => match a with
    | .tup xs => decide (xs.length = ys.length) && sames xs ys
    | _ => false
  | .non, .non => true
  | .bl x, .bl y => x == y
  | .int x, .int y => x == y
  | .str x, .str y => x == y
  | _, _ => false
def sames : List D → List D → Bool
  | x :: xs, y :: ys => sameD x y && sames xs ys
  | _, _ => true
end
def fSame (n : Nat) : FSp := fun svs Q => ∃ sa sb a b, svs = [sa, sb] ∧ IsA sa a ∧ IsA sb b ∧ a.dat = true ∧ b.dat = true ∧ b.wid = true ∧ b.dep < n ∧ Q (.tr (.bl (sameD a b)))
theorem fSame_of {n : Nat} {sa sb : SV} {Q : SV → Prop} {a b : D} (ia : IsA sa a) (ib : IsA sb b) : fSame n [sa, sb] Q ↔ a.dat = true ∧ b.dat = true ∧ b.wid = true ∧ b.dep < n ∧ Q (.tr (.bl (sameD a b))) := by
  constructor
  · rintro ⟨_, _, a', b', e, ia', ib', h⟩
    cases e
    have e1 := ia.d.symm.trans ia'.d
    have e2 := ib.d.symm.trans ib'.d
    subst e1 e2
    exact h
  · exact fun h => ⟨_, _, a, b, rfl, ia, ib, h⟩
@[simp] theorem fSame_eq (n : Nat) (a b : D) (Q : SV → Prop) : fSame n [.tr a, .tr b] Q ↔ a.dat = true ∧ b.dat = true ∧ b.wid = true ∧ b.dep < n ∧ Q (.tr (.bl (sameD a b))) := fSame_of ((isA_tr _ _).mpr rfl) ((isA_tr _ _).mpr rfl)
@[simp] theorem fSame_bt (n : Nat) (a b : D) (Q : SV → Prop) : fSame n [.brw a, .tr b] Q ↔ a.dat = true ∧ b.dat = true ∧ b.wid = true ∧ b.dep < n ∧ Q (.tr (.bl (sameD a b))) := fSame_of ((isA_brw _ _).mpr rfl) ((isA_tr _ _).mpr rfl)
@[simp] theorem fSame_tb (n : Nat) (a b : D) (Q : SV → Prop) : fSame n [.tr a, .brw b] Q ↔ a.dat = true ∧ b.dat = true ∧ b.wid = true ∧ b.dep < n ∧ Q (.tr (.bl (sameD a b))) := fSame_of ((isA_tr _ _).mpr rfl) ((isA_brw _ _).mpr rfl)
@[simp] theorem fSame_bb (n : Nat) (a b : D) (Q : SV → Prop) : fSame n [.brw a, .brw b] Q ↔ a.dat = true ∧ b.dat = true ∧ b.wid = true ∧ b.dep < n ∧ Q (.tr (.bl (sameD a b))) := fSame_of ((isA_brw _ _).mpr rfl) ((isA_brw _ _).mpr rfl)
theorem sames_zip : ∀ xs ys : List D, sames xs ys = (xs.zip ys).all fun p => sameD p.1 p.2
  | x :: xs, y :: ys => by rw [sames, List.zip_cons_cons, List.all_cons, sames_zip xs ys]
  | [], _ => by simp [sames]
  | _ :: _, [] => by simp [sames]
@[simp] theorem blsD_nil : blsD [] = some [] := rfl
@[simp] theorem blsD_cons (b : Bool) (ds : List D) : blsD (.bl b :: ds) = (blsD ds).map (b :: ·) := rfl
@[simp] theorem intsD_nil : intsD [] = some [] := rfl
@[simp] theorem intsD_cons (b : Int) (ds : List D) : intsD (.int b :: ds) = (intsD ds).map (b :: ·) := rfl
@[simp] theorem strsD_nil : strsD [] = some [] := rfl
@[simp] theorem strsD_cons (b : Str) (ds : List D) : strsD (.str b :: ds) = (strsD ds).map (b :: ·) := rfl
theorem atN {α : Type} (xs : List α) (n : Nat) : atI xs (n : Int) = xs[n]? := by
  unfold atI ixN
  rw [if_pos (by omega)]
  by_cases h : (n : Int) < xs.length
  · rw [if_pos h]
    rfl
  · rw [if_neg h, List.getElem?_eq_none (by omega)]
    rfl
@[simp] theorem atI_0 {α : Type} (x : α) (xs : List α) : atI (x :: xs) 0 = some x := atN (x :: xs) 0
@[simp] theorem atI_1 {α : Type} (x y : α) (xs : List α) : atI (x :: y :: xs) 1 = some y := atN (x :: y :: xs) 1
@[simp] theorem atI_2 {α : Type} (x y z : α) (xs : List α) : atI (x :: y :: z :: xs) 2 = some z := atN (x :: y :: z :: xs) 2
@[simp] theorem atI_3 {α : Type} (x y z u : α) (xs : List α) : atI (x :: y :: z :: u :: xs) 3 = some u := atN (x :: y :: z :: u :: xs) 3
section
variable {gg : GG} {gb : GS} {D : VEnds} {S : S} {ds : List VT.D}
/-- a loop, told by the place -/
theorem forW_ix (I : Nat → VT.S → Prop) (h0 : I 0 S) (hN : ∀ S', I ds.length S' → D.nx S')
    (hs : ∀ k (hk : k < ds.length) S1, I k S1 → ∀ N : VT.S → Prop, (∀ S', I (k + 1) S' → N S') → gg ds[k] S1 fun S2 => gb { nx := N, rt := D.rt, bk := D.nx, ct := N } S2) : ForW gg gb D S ds := by
  refine ⟨fun r S => ∃ k, r = ds.drop k ∧ k ≤ ds.length ∧ I k S, ⟨0, by simp, by omega, h0⟩, fun S' ⟨k, e, hk, i⟩ => ?_, fun d r S1 ⟨k, e, hk, i⟩ => ?_⟩
  · have := congrArg List.length e
    simp at this
    have : k = ds.length := by omega
    subst this
    exact hN _ i
  · have hk' : k < ds.length := by
      have := congrArg List.length e
      simp at this
      omega
    rw [List.drop_eq_getElem_cons hk'] at e
    cases e
    exact hs k hk' S1 i _ fun S h => ⟨k + 1, rfl, hk', h⟩
/-- a loop over a range -/
theorem forW_rng {lo : Int} {n : Nat} (I : Nat → VT.S → Prop) (h0 : I 0 S) (hN : ∀ S', I n S' → D.nx S')
    (hs : ∀ (k : Nat) (hk : k < n) S1, I k S1 → ∀ N : VT.S → Prop, (∀ S', I (k + 1) S' → N S') → gg (.int (lo + (k : Int))) S1 fun S2 => gb { nx := N, rt := D.rt, bk := D.nx, ct := N } S2) : ForW gg gb D S (rngD lo n) := by
  refine forW_ix I h0 (by simpa using hN) fun k hk S1 i N h => ?_
  have e : (rngD lo n)[k] = .int (lo + (k : Int)) := by simp [rngD]
  rw [e]
  exact hs k (by simpa using hk) S1 i N h
end
@[simp] theorem gName10 (x0 x1 x2 x3 x4 x5 x6 x7 x8 x9 : Option SV) (a : SV) (r : S) (Q : SV → Prop) : gName 10 (x0 :: x1 :: x2 :: x3 :: x4 :: x5 :: x6 :: x7 :: x8 :: x9 :: some a :: r) Q ↔ Q a.look := gName_eq 10 _ Q rfl
@[simp] theorem gName11 (x0 x1 x2 x3 x4 x5 x6 x7 x8 x9 x10 : Option SV) (a : SV) (r : S) (Q : SV → Prop) : gName 11 (x0 :: x1 :: x2 :: x3 :: x4 :: x5 :: x6 :: x7 :: x8 :: x9 :: x10 :: some a :: r) Q ↔ Q a.look := gName_eq 11 _ Q rfl
@[simp] theorem gName12 (x0 x1 x2 x3 x4 x5 x6 x7 x8 x9 x10 x11 : Option SV) (a : SV) (r : S) (Q : SV → Prop) : gName 12 (x0 :: x1 :: x2 :: x3 :: x4 :: x5 :: x6 :: x7 :: x8 :: x9 :: x10 :: x11 :: some a :: r) Q ↔ Q a.look := gName_eq 12 _ Q rfl
@[simp] theorem gName13 (x0 x1 x2 x3 x4 x5 x6 x7 x8 x9 x10 x11 x12 : Option SV) (a : SV) (r : S) (Q : SV → Prop) : gName 13 (x0 :: x1 :: x2 :: x3 :: x4 :: x5 :: x6 :: x7 :: x8 :: x9 :: x10 :: x11 :: x12 :: some a :: r) Q ↔ Q a.look := gName_eq 13 _ Q rfl
@[simp] theorem gName14 (x0 x1 x2 x3 x4 x5 x6 x7 x8 x9 x10 x11 x12 x13 : Option SV) (a : SV) (r : S) (Q : SV → Prop) : gName 14 (x0 :: x1 :: x2 :: x3 :: x4 :: x5 :: x6 :: x7 :: x8 :: x9 :: x10 :: x11 :: x12 :: x13 :: some a :: r) Q ↔ Q a.look := gName_eq 14 _ Q rfl
@[simp] theorem gName15 (x0 x1 x2 x3 x4 x5 x6 x7 x8 x9 x10 x11 x12 x13 x14 : Option SV) (a : SV) (r : S) (Q : SV → Prop) : gName 15 (x0 :: x1 :: x2 :: x3 :: x4 :: x5 :: x6 :: x7 :: x8 :: x9 :: x10 :: x11 :: x12 :: x13 :: x14 :: some a :: r) Q ↔ Q a.look := gName_eq 15 _ Q rfl
@[simp] theorem gName16 (x0 x1 x2 x3 x4 x5 x6 x7 x8 x9 x10 x11 x12 x13 x14 x15 : Option SV) (a : SV) (r : S) (Q : SV → Prop) : gName 16 (x0 :: x1 :: x2 :: x3 :: x4 :: x5 :: x6 :: x7 :: x8 :: x9 :: x10 :: x11 :: x12 :: x13 :: x14 :: x15 :: some a :: r) Q ↔ Q a.look := gName_eq 16 _ Q rfl
@[simp] theorem gName17 (x0 x1 x2 x3 x4 x5 x6 x7 x8 x9 x10 x11 x12 x13 x14 x15 x16 : Option SV) (a : SV) (r : S) (Q : SV → Prop) : gName 17 (x0 :: x1 :: x2 :: x3 :: x4 :: x5 :: x6 :: x7 :: x8 :: x9 :: x10 :: x11 :: x12 :: x13 :: x14 :: x15 :: x16 :: some a :: r) Q ↔ Q a.look := gName_eq 17 _ Q rfl
@[simp] theorem gName18 (x0 x1 x2 x3 x4 x5 x6 x7 x8 x9 x10 x11 x12 x13 x14 x15 x16 x17 : Option SV) (a : SV) (r : S) (Q : SV → Prop) : gName 18 (x0 :: x1 :: x2 :: x3 :: x4 :: x5 :: x6 :: x7 :: x8 :: x9 :: x10 :: x11 :: x12 :: x13 :: x14 :: x15 :: x16 :: x17 :: some a :: r) Q ↔ Q a.look := gName_eq 18 _ Q rfl
@[simp] theorem gName19 (x0 x1 x2 x3 x4 x5 x6 x7 x8 x9 x10 x11 x12 x13 x14 x15 x16 x17 x18 : Option SV) (a : SV) (r : S) (Q : SV → Prop) : gName 19 (x0 :: x1 :: x2 :: x3 :: x4 :: x5 :: x6 :: x7 :: x8 :: x9 :: x10 :: x11 :: x12 :: x13 :: x14 :: x15 :: x16 :: x17 :: x18 :: some a :: r) Q ↔ Q a.look := gName_eq 19 _ Q rfl
@[simp] theorem gName20 (x0 x1 x2 x3 x4 x5 x6 x7 x8 x9 x10 x11 x12 x13 x14 x15 x16 x17 x18 x19 : Option SV) (a : SV) (r : S) (Q : SV → Prop) : gName 20 (x0 :: x1 :: x2 :: x3 :: x4 :: x5 :: x6 :: x7 :: x8 :: x9 :: x10 :: x11 :: x12 :: x13 :: x14 :: x15 :: x16 :: x17 :: x18 :: x19 :: some a :: r) Q ↔ Q a.look := gName_eq 20 _ Q rfl
@[simp] theorem gName21 (x0 x1 x2 x3 x4 x5 x6 x7 x8 x9 x10 x11 x12 x13 x14 x15 x16 x17 x18 x19 x20 : Option SV) (a : SV) (r : S) (Q : SV → Prop) : gName 21 (x0 :: x1 :: x2 :: x3 :: x4 :: x5 :: x6 :: x7 :: x8 :: x9 :: x10 :: x11 :: x12 :: x13 :: x14 :: x15 :: x16 :: x17 :: x18 :: x19 :: x20 :: some a :: r) Q ↔ Q a.look := gName_eq 21 _ Q rfl
@[simp] theorem gName22 (x0 x1 x2 x3 x4 x5 x6 x7 x8 x9 x10 x11 x12 x13 x14 x15 x16 x17 x18 x19 x20 x21 : Option SV) (a : SV) (r : S) (Q : SV → Prop) : gName 22 (x0 :: x1 :: x2 :: x3 :: x4 :: x5 :: x6 :: x7 :: x8 :: x9 :: x10 :: x11 :: x12 :: x13 :: x14 :: x15 :: x16 :: x17 :: x18 :: x19 :: x20 :: x21 :: some a :: r) Q ↔ Q a.look := gName_eq 22 _ Q rfl
@[simp] theorem gName23 (x0 x1 x2 x3 x4 x5 x6 x7 x8 x9 x10 x11 x12 x13 x14 x15 x16 x17 x18 x19 x20 x21 x22 : Option SV) (a : SV) (r : S) (Q : SV → Prop) : gName 23 (x0 :: x1 :: x2 :: x3 :: x4 :: x5 :: x6 :: x7 :: x8 :: x9 :: x10 :: x11 :: x12 :: x13 :: x14 :: x15 :: x16 :: x17 :: x18 :: x19 :: x20 :: x21 :: x22 :: some a :: r) Q ↔ Q a.look := gName_eq 23 _ Q rfl
@[simp] theorem gName24 (x0 x1 x2 x3 x4 x5 x6 x7 x8 x9 x10 x11 x12 x13 x14 x15 x16 x17 x18 x19 x20 x21 x22 x23 : Option SV) (a : SV) (r : S) (Q : SV → Prop) : gName 24 (x0 :: x1 :: x2 :: x3 :: x4 :: x5 :: x6 :: x7 :: x8 :: x9 :: x10 :: x11 :: x12 :: x13 :: x14 :: x15 :: x16 :: x17 :: x18 :: x19 :: x20 :: x21 :: x22 :: x23 :: some a :: r) Q ↔ Q a.look := gName_eq 24 _ Q rfl
@[simp] theorem gName25 (x0 x1 x2 x3 x4 x5 x6 x7 x8 x9 x10 x11 x12 x13 x14 x15 x16 x17 x18 x19 x20 x21 x22 x23 x24 : Option SV) (a : SV) (r : S) (Q : SV → Prop) : gName 25 (x0 :: x1 :: x2 :: x3 :: x4 :: x5 :: x6 :: x7 :: x8 :: x9 :: x10 :: x11 :: x12 :: x13 :: x14 :: x15 :: x16 :: x17 :: x18 :: x19 :: x20 :: x21 :: x22 :: x23 :: x24 :: some a :: r) Q ↔ Q a.look := gName_eq 25 _ Q rfl
@[simp] theorem gName26 (x0 x1 x2 x3 x4 x5 x6 x7 x8 x9 x10 x11 x12 x13 x14 x15 x16 x17 x18 x19 x20 x21 x22 x23 x24 x25 : Option SV) (a : SV) (r : S) (Q : SV → Prop) : gName 26 (x0 :: x1 :: x2 :: x3 :: x4 :: x5 :: x6 :: x7 :: x8 :: x9 :: x10 :: x11 :: x12 :: x13 :: x14 :: x15 :: x16 :: x17 :: x18 :: x19 :: x20 :: x21 :: x22 :: x23 :: x24 :: x25 :: some a :: r) Q ↔ Q a.look := gName_eq 26 _ Q rfl
@[simp] theorem gName27 (x0 x1 x2 x3 x4 x5 x6 x7 x8 x9 x10 x11 x12 x13 x14 x15 x16 x17 x18 x19 x20 x21 x22 x23 x24 x25 x26 : Option SV) (a : SV) (r : S) (Q : SV → Prop) : gName 27 (x0 :: x1 :: x2 :: x3 :: x4 :: x5 :: x6 :: x7 :: x8 :: x9 :: x10 :: x11 :: x12 :: x13 :: x14 :: x15 :: x16 :: x17 :: x18 :: x19 :: x20 :: x21 :: x22 :: x23 :: x24 :: x25 :: x26 :: some a :: r) Q ↔ Q a.look := gName_eq 27 _ Q rfl
@[simp] theorem gName28 (x0 x1 x2 x3 x4 x5 x6 x7 x8 x9 x10 x11 x12 x13 x14 x15 x16 x17 x18 x19 x20 x21 x22 x23 x24 x25 x26 x27 : Option SV) (a : SV) (r : S) (Q : SV → Prop) : gName 28 (x0 :: x1 :: x2 :: x3 :: x4 :: x5 :: x6 :: x7 :: x8 :: x9 :: x10 :: x11 :: x12 :: x13 :: x14 :: x15 :: x16 :: x17 :: x18 :: x19 :: x20 :: x21 :: x22 :: x23 :: x24 :: x25 :: x26 :: x27 :: some a :: r) Q ↔ Q a.look := gName_eq 28 _ Q rfl
@[simp] theorem gName29 (x0 x1 x2 x3 x4 x5 x6 x7 x8 x9 x10 x11 x12 x13 x14 x15 x16 x17 x18 x19 x20 x21 x22 x23 x24 x25 x26 x27 x28 : Option SV) (a : SV) (r : S) (Q : SV → Prop) : gName 29 (x0 :: x1 :: x2 :: x3 :: x4 :: x5 :: x6 :: x7 :: x8 :: x9 :: x10 :: x11 :: x12 :: x13 :: x14 :: x15 :: x16 :: x17 :: x18 :: x19 :: x20 :: x21 :: x22 :: x23 :: x24 :: x25 :: x26 :: x27 :: x28 :: some a :: r) Q ↔ Q a.look := gName_eq 29 _ Q rfl
theorem dats_of {xs : List D} (h : ∀ x ∈ xs, x.dat = true) : dats xs = true := by
  have := dats_map (f := fun d => d) h
  simpa using this
theorem deps_of {xs : List D} {n : Nat} (h : ∀ x ∈ xs, x.dep ≤ n) : deps xs ≤ n := by
  have := deps_map (f := fun d => d) h
  simpa using this
theorem wids_of {xs : List D} (h : ∀ x ∈ xs, x.wid = true) : wids xs = true := by
  have := wids_map (f := fun d => d) h
  simpa using this
theorem cutD_mem {α : Type} {xs : List α} {lo hi : Option Int} {x : α} (h : x ∈ cutD xs lo hi) : x ∈ xs := List.mem_of_mem_drop (List.mem_of_mem_take h)
theorem cutD_len {α : Type} (xs : List α) (lo hi : Option Int) : (cutD xs lo hi).length ≤ xs.length := by
  unfold cutD
  simp
  omega
@[simp high] theorem gAll_map {α : Type} (f : α → Bool) (as : List α) (Q : SV → Prop) : gAll [.lst (as.map fun a => .bl (f a))] Q ↔ Q (.tr (.bl (as.all f))) := by
  show (∃ bs, blsD (as.map fun a => D.bl (f a)) = some bs ∧ Q (.tr (.bl (bs.all id)))) ↔ _
  rw [blsD_map]
  constructor
  · rintro ⟨bs, e, q⟩
    cases e
    simpa [List.all_map, Function.comp_def] using q
  · intro q
    exact ⟨_, rfl, by simpa [List.all_map, Function.comp_def] using q⟩
@[simp high] theorem gAny_map {α : Type} (f : α → Bool) (as : List α) (Q : SV → Prop) : gAny [.lst (as.map fun a => .bl (f a))] Q ↔ Q (.tr (.bl (as.any f))) := by
  show (∃ bs, blsD (as.map fun a => D.bl (f a)) = some bs ∧ Q (.tr (.bl (bs.any id)))) ↔ _
  rw [blsD_map]
  constructor
  · rintro ⟨bs, e, q⟩
    cases e
    simpa [List.any_map, Function.comp_def] using q
  · intro q
    exact ⟨_, rfl, by simpa [List.any_map, Function.comp_def] using q⟩
@[simp high] theorem gSum_map {α : Type} (f : α → Int) (as : List α) (Q : SV → Prop) : gSum [.lst (as.map fun a => .int (f a))] Q ↔ Q (.tr (.int (as.map f).sum)) := by
  show (∃ bs, intsD (as.map fun a => D.int (f a)) = some bs ∧ Q (.tr (.int bs.sum))) ↔ _
  rw [intsD_map]
  constructor
  · rintro ⟨bs, e, q⟩
    cases e
    exact q
  · intro q
    exact ⟨_, rfl, q⟩
theorem ixN_lt {n : Nat} {i : Int} (h0 : 0 ≤ i) (h1 : i < n) : ixN n i = some i.toNat := by
  unfold ixN
  rw [if_pos h0, if_pos h1]
theorem cmulW {i j : Int} (hi : i.natAbs ≤ 10 ^ 40) (hj : j.natAbs ≤ 10 ^ 40) : CMulW i j := by
  unfold CMulW
  have h1 := log_lt hi
  have h2 := log_lt hj
  omega
theorem ltge (a b : Int) : a < b ∨ b ≤ a := by omega
theorem dat_kind {d : D} (h : d.dat = true) : d.kind.isSome = true := by
  cases d <;> first
    | rfl
    | (simp [D.dat] at h)
end VT

namespace VT
open PySem PySem.Spec PyProof.Rows L2

/-! ### fields read -/
def FV.sv : FV → SV
  | .tr d => .tr d
  | .own d => .pk d
@[simp] theorem fvsv_tr (d : D) : (FV.tr d).sv = .tr d := rfl
@[simp] theorem fvsv_own (d : D) : (FV.own d).sv = .pk d := rfl
/-- an object's class and fields -/
def SV.ins? : SV → Option (Addr × List (Str × FV))
  | .tr (.ins C fs) => some (C, fs.map fun p => (p.1, .tr p.2))
  | .obj _ C fs => some (C, fs)
  | .pob C fs => some (C, fs)
  | .bob C fs => some (C, fs)
  | _ => none
@[simp] theorem ins_tr (C : Addr) (fs : List (Str × D)) : (SV.tr (.ins C fs)).ins? = some (C, fs.map fun p => (p.1, .tr p.2)) := rfl
@[simp] theorem ins_obj (q C : Addr) (fs : List (Str × FV)) : (SV.obj q C fs).ins? = some (C, fs) := rfl
@[simp] theorem ins_pob (C : Addr) (fs : List (Str × FV)) : (SV.pob C fs).ins? = some (C, fs) := rfl
@[simp] theorem ins_bob (C : Addr) (fs : List (Str × FV)) : (SV.bob C fs).ins? = some (C, fs) := rfl
theorem repf_look {F : Hp} {f : Str} : ∀ {fs : List (Str × D)} {ws : List (Str × V)} {x : FV}, repf F fs ws → (fs.map fun p => (p.1, FV.tr p.2)).lookup f = some x → ∃ d v, x = .tr d ∧ ws.lookup f = some v ∧ rep F d v
  | [], _, _, _, h => by simp at h
  | (g, d) :: fs, _, x, ⟨v, t, e, r, q⟩, h => by
    rw [e]
    rw [List.map_cons, List.lookup_cons] at h
    rw [List.lookup_cons]
    cases hg : f == g with
    | true =>
      rw [hg] at h
      cases h
      exact ⟨d, v, rfl, rfl, r⟩
    | false =>
      rw [hg] at h
      exact repf_look q h
theorem RepP.look {N : Addr → Prop} {G : Gh} {H : Hp} {f : Str} {fs : List (Str × FV)} {ws : List (Str × V)} {x : FV} (r : RepP N G H fs ws) (h : fs.lookup f = some x) : ∃ v, ws.lookup f = some v ∧ ∀ H0 Hs, RepV H0 Hs G H v x.sv := by
  induction r with
  | nil => simp at h
  | @tr g d v fs ws r _ ih =>
    rw [List.lookup_cons] at h ⊢
    cases hg : f == g with
    | true =>
      rw [hg] at h
      cases h
      exact ⟨v, rfl, fun _ _ => r⟩
    | false =>
      rw [hg] at h
      exact ih h
  | @own g d b fs ws h1 h2 h3 _ ih =>
    rw [List.lookup_cons] at h ⊢
    cases hg : f == g with
    | true =>
      rw [hg] at h
      cases h
      exact ⟨.ref b, rfl, fun _ _ => ⟨b, rfl, h2, h3⟩⟩
    | false =>
      rw [hg] at h
      exact ih h
/-- an object stands there, with its fields -/
theorem RepV.insAt {H0 Hs H : Hp} {G : Gh} {v : V} {sv : SV} {C : Addr} {fs : List (Str × FV)} (r : RepV H0 Hs G H v sv) (ok : OkG G H) (e : sv.ins? = some (C, fs)) :
    ∃ a dx ws, v = .ref a ∧ H a = some (.ins C dx ws) ∧ ∀ f x, fs.lookup f = some x → ∃ u, ws.lookup f = some u ∧ ∀ H0 Hs, RepV H0 Hs G H u x.sv := by
  cases sv with
  | tr d =>
    cases d with
    | ins C' fs' =>
      cases e
      obtain ⟨a, dx, ws, e1, e2, e3, q⟩ := r
      refine ⟨a, dx, ws, e1, ok.sub _ _ e2, fun f x h => ?_⟩
      obtain ⟨d, u, rfl, h1, h2⟩ := repf_look q h
      exact ⟨u, h1, fun _ _ => h2⟩
    | _ => cases e
  | obj q' C' fs' =>
    cases e
    obtain ⟨a, dx, ws, e1, e2, _, _, _, _, rf, _⟩ := r
    exact ⟨a, dx, ws, e1, e2, fun f x h => rf.peek.look h⟩
  | pob C' fs' =>
    cases e
    obtain ⟨a, dx, ws, e1, e2, _, rf⟩ := r
    exact ⟨a, dx, ws, e1, e2, fun f x h => rf.look h⟩
  | bob C' fs' =>
    cases e
    obtain ⟨a, dx, ws, e1, _, e2, _, rf⟩ := r
    exact ⟨a, dx, ws, e1, e2, fun f x h => rf.look h⟩
  | _ => cases e
@[simp] def gFld (Cs : List Addr) (f : Str) (g : GE) : GE := fun S Q => g S fun sv => ∃ C fs x, sv.ins? = some (C, fs) ∧ C ∈ Cs ∧ fs.lookup f = some x ∧ Q x.sv
section
variable {X : Cx} {EX : EXT} {e : Expr} {g : GE} {f : Str} {pos : Pos}
theorem ve_fld (Cs : List Addr) (he : VE X EX e g) (hc : ∀ C ∈ Cs, Cls X.K C ∧ NoAttr X.K C f) (hb : attributeBase e f X.env (eval e X.env) = eval e X.env := by rfl) : VE X EX (.Attribute e f pos) (gFld Cs f g) := by
  refine ⟨fun G0 H0 tk => peMono (pe_fld (he.pe G0 H0 tk) hb) fun σ H Q ⟨G, S, Qs, R, q, k⟩ => ?_⟩
  refine ⟨G, S, _, R, q, fun v H1 G1 sv E1 r1 q1 => ?_⟩
  obtain ⟨C, fs, x, h1, h2, h3, q1⟩ := q1
  obtain ⟨a, dx, ws, rfl, ea, hl⟩ := r1.insAt E1.ok h1
  obtain ⟨u, hu, ru⟩ := hl f x h3
  exact ⟨a, C, dx, ws, u, rfl, ea, (hc C h2).1, (hc C h2).2, hu, k u H1 G1 x.sv E1 (ru _ _) q1⟩
end
end VT

namespace VT
open PySem PySem.Spec PyProof.Rows L2

/-! ### an own object is changed: the frame -/
/-- what slot i holds is changed at its own places; sv' is held there from now on -/
theorem Rel.poke {G0 G : Gh} {H0 H H' : Hp} {σ : L2.St} {S : S} {i : Nat} {sv sv' : SV} {v : V} (R : Rel G0 H0 G H σ S) (e : S[i]? = some (some sv)) (ev : σ[i]? = some (some v)) (E : Ext G0 H0 G H') (hok : sv'.ok)
    (r' : RepV H0 H0 G H' v sv') (off : ∀ b, ¬ Owns H v sv b → ∀ o, H b = some o → H' b = some o) (ho : ∀ b, Owns H' v sv' b → Owns H v sv b ∨ ∀ (j : Nat) (sw : SV) (w : V), i ≠ j → S[j]? = some (some sw) → σ[j]? = some (some w) → ¬ Owns H w sw b) :
    Rel G0 H0 G H' σ (S.set i (some sv')) := by
  obtain ⟨v0, e0, r⟩ := R.slot i sv e
  rw [ev] at e0
  cases e0
  have offj : ∀ (j : Nat) (sw : SV) (w : V) (b : Addr), i ≠ j → S[j]? = some (some sw) → σ[j]? = some (some w) → Owns H w sw b → H' b = H b := fun j sw w b hij ej ew ob => by
    obtain ⟨w', e6, r6⟩ := R.slot j sw ej
    rw [ew] at e6
    cases e6
    obtain ⟨o, hb⟩ := Option.ne_none_iff_exists'.mp (r6.owns ob).2.ne
    rw [hb]
    exact off b (fun z => R.sep i j sv sw v w b hij e ej ev ew z ob) o hb
  have mineO : ∀ b, H0 b ≠ none → ¬ Owns H v sv b := fun b hb o => hb (r.owns o).1.1
  refine ⟨E, by rw [List.length_set]; exact R.len, fun j sw ej => ?_, fun j l sj sl u w b hjl e2 e3 e4 e5 o1 o2 => ?_, fun j d ej => ?_⟩
  · rcases set_slot ej with ⟨rfl, ej, _⟩ | ⟨hij, ej⟩
    · cases ej
      exact ⟨v, ev, r'⟩
    · obtain ⟨u, e6, r6⟩ := R.slot j sw ej
      refine ⟨u, e6, ?_⟩
      have keep : ∀ b, Owns H u sw b → Mine H0 G b ∧ H' b = H b := fun b ob => ⟨(r6.owns ob).1, offj j sw u b hij ej e6 ob⟩
      have okj := R.nopk j sw ej
      cases sw with
      | tr d' => exact r6
      | exc a' C d fs => exact r6
      | tz ds => exact r6
      | own d' => exact r6.at (fun _ => nofun) (fun _ => nofun) nofun (fun _ _ => nofun) (fun _ _ => nofun) (fun _ _ z => z) keep
      | obj q C fs => exact r6.at (fun _ => nofun) (fun _ => nofun) nofun (fun _ _ => nofun) (fun _ _ => nofun) (fun _ _ z => z) keep
      | brw d' => obtain ⟨b, rfl, q1, q2, q3⟩ := r6; exact ⟨b, rfl, q1, q2, q3.off (a := b) (off b (mineO b q1))⟩
      | pk d' => exact okj.elim
      | bag => exact r6
      | pob C fs => exact okj.elim
      | bob C fs =>
        obtain ⟨b, dx, ws, q1, q2, q3, q4, q5⟩ := r6
        exact ⟨b, dx, ws, q1, q2, off b (mineO b q2) _ q3, q4, q5.off fun b h => off b (mineO b h)⟩
  · rcases set_slot e2 with ⟨rfl, e2, _⟩ | ⟨hij, e2⟩
    · rcases set_slot e3 with ⟨rfl, e3, _⟩ | ⟨hil, e3⟩
      · exact hjl rfl
      · cases e2
        rw [ev] at e4
        cases e4
        obtain ⟨w', e6, r6⟩ := R.slot l sl e3
        rw [e5] at e6
        cases e6
        have o3 : Owns H w sl b := o2.at r6 fun b ob => offj l sl w b hil e3 e5 ob
        rcases ho b o1 with o | o
        · exact R.sep i l sv sl v w b hil e e3 ev e5 o o3
        · exact o l sl w hil e3 e5 o3
    · obtain ⟨u', e6, r6⟩ := R.slot j sj e2
      rw [e4] at e6
      cases e6
      have o3 : Owns H u sj b := o1.at r6 fun b ob => offj j sj u b hij e2 e4 ob
      rcases set_slot e3 with ⟨rfl, e3, _⟩ | ⟨hil, e3⟩
      · cases e3
        rw [ev] at e5
        cases e5
        rcases ho b o2 with o | o
        · exact R.sep i j sv sj v u b hij e e2 ev e4 o o3
        · exact o j sj u hij e2 e4 o3
      · obtain ⟨w', e6, r6'⟩ := R.slot l sl e3
        rw [e5] at e6
        cases e6
        exact R.sep j l sj sl u w b hjl e2 e3 e4 e5 o3 (o2.at r6' fun b ob => offj l sl w b hil e3 e5 ob)
  · rcases set_slot ej with ⟨rfl, ej, _⟩ | ⟨hne, ej⟩
    · cases ej
      exact hok
    · exact R.nopk j d ej

/-! ### fields set -/
def fput (f : Str) (x : FV) : List (Str × FV) → List (Str × FV)
  | [] => [(f, x)]
  | (g, y) :: r => if g = f then (g, x) :: r else (g, y) :: fput f x r
section
variable {Hs H : Hp} {G : Gh} {fs : List (Str × FV)} {ws : List (Str × V)} {f : Str} {d : D} {v : V} {b : Addr}
theorem RepF.putT (r : RepF Hs G H fs ws) (h : rep G.F d v) : RepF Hs G H (fput f (.tr d) fs) (putF f v ws) ∧ (∀ b, b ∈ adrs (fput f (.tr d) fs) (putF f v ws) → b ∈ adrs fs ws) ∧ ((adrs fs ws).Nodup → (adrs (fput f (.tr d) fs) (putF f v ws)).Nodup) := by
  induction r with
  | nil => exact ⟨.tr h .nil, fun b hb => (by simpa [fput, putF, adrs] using hb), fun _ => (by simp [fput, putF, adrs])⟩
  | @tr g d' v' fs ws r t ih =>
    obtain ⟨i1, i2, i3⟩ := ih
    unfold fput putF
    by_cases hg : g = f
    · rw [if_pos hg, if_pos hg]
      exact ⟨.tr h t, fun b hb => hb, fun n => n⟩
    · rw [if_neg hg, if_neg hg]
      exact ⟨.tr r i1, i2, i3⟩
  | @own g d' b' fs ws h1 h2 h3 h4 t ih =>
    obtain ⟨i1, i2, i3⟩ := ih
    unfold fput putF
    by_cases hg : g = f
    · rw [if_pos hg, if_pos hg]
      exact ⟨.tr h t, fun b hb => List.mem_cons_of_mem _ hb, fun n => (List.nodup_cons.mp n).2⟩
    · rw [if_neg hg, if_neg hg]
      refine ⟨.own h1 h2 h3 h4 i1, fun b hb => ?_, fun n => ?_⟩
      · rcases List.mem_cons.mp hb with rfl | hb
        · exact List.mem_cons_self ..
        · exact List.mem_cons_of_mem _ (i2 b hb)
      · obtain ⟨n1, n2⟩ := List.nodup_cons.mp n
        exact List.nodup_cons.mpr ⟨fun z => n1 (i2 _ z), i3 n2⟩
theorem RepF.putO (r : RepF Hs G H fs ws) (m : Mine Hs G b) (c : cont G.F H b d) (hb : b ∉ adrs fs ws) : RepF Hs G H (fput f (.own d) fs) (putF f (.ref b) ws) ∧ (∀ x, x ∈ adrs (fput f (.own d) fs) (putF f (.ref b) ws) → x = b ∨ x ∈ adrs fs ws) ∧ ((adrs fs ws).Nodup → (adrs (fput f (.own d) fs) (putF f (.ref b) ws)).Nodup) := by
  induction r with
  | nil => exact ⟨.own m.1 m.2.1 m.2.2 c .nil, fun x hx => (by simpa [fput, putF, adrs] using hx), fun _ => (by simp [fput, putF, adrs])⟩
  | @tr g d' v' fs ws r t ih =>
    obtain ⟨i1, i2, i3⟩ := ih hb
    unfold fput putF
    by_cases hg : g = f
    · rw [if_pos hg, if_pos hg]
      exact ⟨.own m.1 m.2.1 m.2.2 c t, fun x hx => List.mem_cons.mp hx, fun n => List.nodup_cons.mpr ⟨hb, n⟩⟩
    · rw [if_neg hg, if_neg hg]
      exact ⟨.tr r i1, i2, i3⟩
  | @own g d' b' fs ws h1 h2 h3 h4 t ih =>
    have hb' : b ∉ adrs fs ws := fun z => hb (List.mem_cons_of_mem _ z)
    obtain ⟨i1, i2, i3⟩ := ih hb'
    unfold fput putF
    by_cases hg : g = f
    · rw [if_pos hg, if_pos hg]
      exact ⟨.own m.1 m.2.1 m.2.2 c t, fun x hx => (List.mem_cons.mp hx).imp id fun h => List.mem_cons_of_mem _ h, fun n => List.nodup_cons.mpr ⟨hb', (List.nodup_cons.mp n).2⟩⟩
    · rw [if_neg hg, if_neg hg]
      refine ⟨.own h1 h2 h3 h4 i1, fun x hx => ?_, fun n => ?_⟩
      · rcases List.mem_cons.mp hx with rfl | hx
        · exact .inr (List.mem_cons_self ..)
        · exact (i2 x hx).imp id fun h => List.mem_cons_of_mem _ h
      · obtain ⟨n1, n2⟩ := List.nodup_cons.mp n
        refine List.nodup_cons.mpr ⟨fun z => ?_, i3 n2⟩
        rcases i2 _ z with e | z
        · exact hb (by rw [← e]; exact List.mem_cons_self ..)
        · exact n1 z
end
/-- what is put into a field -/
def SV.fv : SV → Option FV
  | .tr d => some (.tr d)
  | .own d => some (.own d)
  | _ => none
@[simp] theorem fv_tr (d : D) : (SV.tr d).fv = some (.tr d) := rfl
@[simp] theorem fv_own (d : D) : (SV.own d).fv = some (.own d) := rfl
/-- x.f = e, x the object under way of slot i -/
@[simp] def gFSet (i : Nat) (Cs : List Addr) (f : Str) (ge : GE) : GS := fun D S => ge S fun sv => ∃ x q C fs, sv.fv = some x ∧ S[i]? = some (some (.obj q C fs)) ∧ C ∈ Cs ∧ fs.length < 1000 ∧ D.nx (S.set i (some (.obj q C (fput f x fs))))
theorem RepF.len {Hs H : Hp} {G : Gh} {fs : List (Str × FV)} {ws : List (Str × V)} (r : RepF Hs G H fs ws) : ws.length = fs.length := by
  induction r with
  | nil => rfl
  | tr _ _ ih => rw [List.length_cons, List.length_cons, ih]
  | own _ _ _ _ _ ih => rw [List.length_cons, List.length_cons, ih]
theorem Rel.fset {G0 G G1 : Gh} {H0 H H1 : Hp} {σ : L2.St} {S : S} {i : Nat} {q C : Addr} {fs : List (Str × FV)} {f : Str} {x : FV} {sv : SV} {y : V} {a dx : Addr} {ws : List (Str × V)} (R : Rel G0 H0 G H σ S) (E : Ext G H G1 H1) (ry : RepV H0 H G1 H1 y sv) (hx : sv.fv = some x)
    (e : S[i]? = some (some (.obj q C fs))) (ev : σ[i]? = some (some (.ref a))) (ea : H1 a = some (.ins C dx ws)) : Rel G0 H0 G1 (upd H1 a (.ins C dx (putF f y ws))) σ (S.set i (some (.obj q C (fput f x fs)))) := by
  have R1 := R.go E
  obtain ⟨v0, e0, r⟩ := R1.slot i _ e
  rw [ev] at e0
  cases e0
  obtain ⟨a', dx', ws', e1, ea', ed, ma, md, nd, rf, hq⟩ := r
  cases e1
  rw [ea] at ea'
  cases ea'
  rw [List.nodup_cons, List.nodup_cons] at nd
  obtain ⟨n1, n2, n3⟩ := nd
  have had : a ≠ dx := fun z => n1 (by rw [z]; exact List.mem_cons_self ..)
  have han : a ∉ adrs fs ws := fun z => n1 (List.mem_cons_of_mem _ z)
  have offa : ∀ b, b ≠ a → ∀ o, H1 b = some o → upd H1 a (.ins C dx (putF f y ws)) b = some o := fun b hb o h => by rw [upd_ne hb]; exact h
  have E1 := ext_write R1.ext ma.1 ma.2.1 ma.2.2 (.ins C dx (putF f y ws)) (.ins ea)
  have old : RepF H0 G1 (upd H1 a (.ins C dx (putF f y ws))) fs ws := rf.at (fun _ _ z => z) fun b hb => ⟨(rf.mine b hb).1, upd_ne fun z => han (by rw [← z]; exact hb)⟩
  have own0 : ∀ b, (b = a ∨ b = dx ∨ b ∈ adrs fs ws) → Owns H1 (.ref a) (.obj q C fs) b := fun b h => ⟨a, dx, ws, rfl, ea, h⟩
  have hna : ∀ b, ¬ Owns H1 (.ref a) (.obj q C fs) b → b ≠ a := fun b h z => h (own0 b (.inl z))
  cases sv with
  | tr d =>
    cases hx
    obtain ⟨p1, p2, p3⟩ := old.putT (f := f) (v := y) (d := d) ry
    refine R1.poke e ev E1 trivial ⟨a, dx, _, rfl, upd_same, by rw [upd_ne had.symm]; exact ed, ma, md, ?_, p1, hq⟩ (fun b hb => offa b (hna b hb)) fun b ob => ?_
    · rw [List.nodup_cons, List.nodup_cons]
      refine ⟨fun z => ?_, fun z => n2 (p2 _ z), p3 n3⟩
      rcases List.mem_cons.mp z with z | z
      · exact had z
      · exact han (p2 _ z)
    · obtain ⟨a2, dx2, ws2, e2, ea2, hb⟩ := ob
      cases e2
      rw [upd_same] at ea2
      cases ea2
      exact .inl (own0 b (hb.imp id fun h => h.imp id fun h => p2 _ h))
  | own d =>
    cases hx
    obtain ⟨b0, rfl, q1, q2, q3, q4⟩ := ry
    have hb0 : ∀ b, (H b ≠ none) → b ≠ b0 := fun b hb z => hb (by rw [z]; exact q1)
    have there : ∀ b, Owns H1 (.ref a) (.obj q C fs) b → H b ≠ none := fun b ob => by
      obtain ⟨v3, e3, r3⟩ := R.slot i _ e
      rw [ev] at e3
      cases e3
      exact (r3.owns (ob.at r3 fun b o => (E.mine (r3.owns o).1 (r3.owns o).2).2)).2.ne
    have hba : b0 ≠ a := (hb0 a (there a (own0 a (.inl rfl)))).symm
    have hbd : b0 ≠ dx := (hb0 dx (there dx (own0 dx (.inr (.inl rfl))))).symm
    have hbn : b0 ∉ adrs fs ws := fun z => hb0 b0 (there b0 (own0 b0 (.inr (.inr z)))) rfl
    have mb : Mine H0 G1 b0 := ⟨R.ext.dom q1, q2, q3⟩
    obtain ⟨p1, p2, p3⟩ := old.putO (f := f) (b := b0) (d := d) mb (q4.at (fun _ _ z => z) (upd_ne hba)) hbn
    refine R1.poke e ev E1 trivial ⟨a, dx, _, rfl, upd_same, by rw [upd_ne had.symm]; exact ed, ma, md, ?_, p1, hq⟩ (fun b hb => offa b (hna b hb)) fun b ob => ?_
    · rw [List.nodup_cons, List.nodup_cons]
      refine ⟨fun z => ?_, fun z => ?_, p3 n3⟩
      · rcases List.mem_cons.mp z with z | z
        · exact had z
        · rcases p2 _ z with z | z
          · exact hba z.symm
          · exact han z
      · rcases p2 _ z with z | z
        · exact hbd z.symm
        · exact n2 z
    · obtain ⟨a2, dx2, ws2, e2, ea2, hb⟩ := ob
      cases e2
      rw [upd_same] at ea2
      cases ea2
      rcases hb with hb | hb | hb
      · exact .inl (own0 b (.inl hb))
      · exact .inl (own0 b (.inr (.inl hb)))
      · rcases p2 _ hb with rfl | hb
        · refine .inr fun j sw w _ ej ew ow => ?_
          obtain ⟨w', e6, r6⟩ := R.slot j sw ej
          rw [ew] at e6
          cases e6
          exact (r6.owns (ow.at r6 fun b o => (E.mine (r6.owns o).1 (r6.owns o).2).2)).2.ne q1
        · exact .inl (own0 b (.inr (.inr hb)))
  | _ => cases hx
section
variable {X : Cx} {EX : EXT} {e : Expr} {ge : GE} {f x : Str} {pos pos' p : Pos}
theorem vs_fset (i : Nat) (Cs : List Addr) (he : VE X EX e ge) (hc : ∀ C ∈ Cs, Cls X.K C ∧ NoAttr X.K C f) (hN : X.N[i]? = some x := by rfl) (hv : Vis X.env.scope x := by first | exact Or.inl rfl | exact Or.inr (Or.inl rfl) | exact Or.inr (Or.inr rfl)) (hd : (x == ("__debug__" : Str)) = false := by decide)
    (hcd : (x == ("__classdict__" : Str)) = false := by decide) (hs : swapsWith e (some (.Attribute (.Name x p) f pos')) pos.line X.env = pure false := by rfl) : VS X EX (.Assign [.Attribute (.Name x p) f pos'] e pos) (gFSet i Cs f ge) := by
  refine ⟨fun G0 H0 tk => psMono (ps_fld (pe_var hN hv hd hcd) (he.pe G0 H0 tk) hs) fun D σ H ⟨G, S, DV, R, q, k⟩ => ?_⟩
  refine ⟨G, S, _, R, q, fun y H1 G1 sv E1 r1 q1 => ?_⟩
  obtain ⟨x, q, C, fs, hx, e, hC, hl, q1⟩ := q1
  obtain ⟨v, ev, rv⟩ := (R.go E1).slot i _ e
  obtain ⟨a, dx, ws, rfl, ea, ed, ma, md, nd, rf, hq⟩ := rv
  exact ⟨_, ev, a, C, dx, ws, rfl, ea, (hc C hC).1, (hc C hC).2, by rw [rf.len]; exact hl, k.nx _ _ _ _ (R.fset E1 r1 hx e ev ea) E1.frz q1⟩
end
end VT

namespace VT
open PySem PySem.Spec PyProof.Rows L2

/-! ### a field's own object is changed -/
section
variable {Hs H : Hp} {G : Gh} {fs : List (Str × FV)} {ws : List (Str × V)} {f : Str} {d d' : D} {b : Addr} {o : HO}
theorem RepF.lookO (r : RepF Hs G H fs ws) (h : fs.lookup f = some (.own d)) : ∃ b, ws.lookup f = some (.ref b) ∧ Mine Hs G b ∧ cont G.F H b d ∧ b ∈ adrs fs ws := by
  induction r with
  | nil => simp at h
  | @tr g d1 v fs ws r _ ih =>
    rw [List.lookup_cons] at h ⊢
    cases hg : f == g with
    | true => rw [hg] at h; cases h
    | false => rw [hg] at h; exact ih h
  | @own g d1 b1 fs ws h1 h2 h3 h4 _ ih =>
    rw [List.lookup_cons] at h ⊢
    cases hg : f == g with
    | true =>
      rw [hg] at h
      cases h
      exact ⟨b1, rfl, ⟨h1, h2, h3⟩, h4, List.mem_cons_self ..⟩
    | false =>
      rw [hg] at h
      obtain ⟨b, e, m, c, hb⟩ := ih h
      exact ⟨b, e, m, c, List.mem_cons_of_mem _ hb⟩
theorem RepF.mutO (r : RepF Hs G H fs ws) (n : (adrs fs ws).Nodup) (h : fs.lookup f = some (.own d)) (hw : ws.lookup f = some (.ref b)) (c : cont G.F (upd H b o) b d') :
    RepF Hs G (upd H b o) (fput f (.own d') fs) ws ∧ adrs (fput f (.own d') fs) ws = adrs fs ws := by
  induction r with
  | nil => simp at h
  | @tr g d1 v fs ws r t ih =>
    rw [List.lookup_cons] at h hw
    have hne : ¬ g = f := fun z => by
      subst z
      simp at h
    have hg : (f == g) = false := beq_false_of_ne fun z => hne z.symm
    rw [hg] at h hw
    obtain ⟨i1, i2⟩ := ih n h hw
    unfold fput
    rw [if_neg hne]
    exact ⟨.tr r i1, i2⟩
  | @own g d1 b1 fs ws h1 h2 h3 h4 t ih =>
    obtain ⟨n1, n2⟩ := List.nodup_cons.mp n
    rw [List.lookup_cons] at h hw
    by_cases hne : g = f
    · subst hne
      have hg : (g == g) = true := beq_self_eq_true g
      rw [hg] at h hw
      cases hw
      unfold fput
      rw [if_pos rfl]
      refine ⟨.own h1 h2 h3 c (t.at (fun _ _ z => z) fun x hx => ⟨(t.mine x hx).1, upd_ne fun z => n1 (by rw [← z]; exact hx)⟩), rfl⟩
    · have hg : (f == g) = false := beq_false_of_ne fun z => hne z.symm
      rw [hg] at h hw
      have hw : ws.lookup f = some (.ref b) := hw
      obtain ⟨i1, i2⟩ := ih n2 h hw
      obtain ⟨b2, e2, _, _, hb2⟩ := t.lookO h
      rw [hw] at e2
      cases e2
      have hbb : b1 ≠ b := fun z => n1 (by rw [z]; exact hb2)
      unfold fput
      rw [if_neg hne]
      refine ⟨.own h1 h2 h3 (h4.at (fun _ _ z => z) (upd_ne hbb)) i1, ?_⟩
      show b1 :: adrs (fput f (.own d') fs) ws = b1 :: adrs fs ws
      rw [i2]
end
theorem Rel.fmut {G0 G : Gh} {H0 H : Hp} {σ : L2.St} {S : S} {i : Nat} {q C : Addr} {fs : List (Str × FV)} {f : Str} {d d' : D} {a dx b : Addr} {ws : List (Str × V)} {o : HO} (R : Rel G0 H0 G H σ S) (e : S[i]? = some (some (.obj q C fs))) (ev : σ[i]? = some (some (.ref a))) (ea : H a = some (.ins C dx ws))
    (hf : fs.lookup f = some (.own d)) (hw : ws.lookup f = some (.ref b)) (c : cont G.F (upd H b o) b d') : Rel G0 H0 G (upd H b o) σ (S.set i (some (.obj q C (fput f (.own d') fs)))) := by
  obtain ⟨v0, e0, r⟩ := R.slot i _ e
  rw [ev] at e0
  cases e0
  obtain ⟨a', dx', ws', e1, ea', ed, ma, md, nd, rf, hq⟩ := r
  cases e1
  rw [ea] at ea'
  cases ea'
  have nd0 := nd
  rw [List.nodup_cons, List.nodup_cons] at nd
  obtain ⟨n1, n2, n3⟩ := nd
  obtain ⟨b', eb, mb, cb, hb⟩ := rf.lookO hf
  rw [hw] at eb
  cases eb
  obtain ⟨p1, p2⟩ := rf.mutO (o := o) (d' := d') n3 hf hw c
  have hab : a ≠ b := fun z => n1 (List.mem_cons_of_mem _ (by rw [z]; exact hb))
  have hdb : dx ≠ b := fun z => n2 (by rw [z]; exact hb)
  have ob : Owns H (.ref a) (.obj q C fs) b := ⟨a, dx, ws, rfl, ea, .inr (.inr hb)⟩
  refine R.poke e ev (ext_write R.ext mb.1 mb.2.1 mb.2.2 o cb.plain) trivial ⟨a, dx, ws, rfl, by rw [upd_ne hab]; exact ea, by rw [upd_ne hdb]; exact ed, ma, md, by rw [p2]; exact nd0, p1, hq⟩ (fun x hx u h => by rw [upd_ne fun z => hx (by rw [z]; exact ob)]; exact h) fun x ox => ?_
  obtain ⟨a2, dx2, ws2, e2, ea2, hx⟩ := ox
  cases e2
  rw [upd_ne hab, ea] at ea2
  cases ea2
  rw [p2] at hx
  exact .inl ⟨a, dx, ws, rfl, ea, hx⟩
/-- x.f.append(e) and the like, f an own list of the object under way in slot i -/
@[simp] def gMutF (i : Nat) (Cs : List Addr) (fl : Str) (ga : GA) (f : List VT.D → List SV → (List VT.D → Prop) → Prop) : GS := fun D S => ∃ q C fs ds0, S[i]? = some (some (.obj q C fs)) ∧ C ∈ Cs ∧ fs.lookup fl = some (.own (.lst ds0)) ∧ ga S fun svs => f ds0 svs fun es => D.nx (S.set i (some (.obj q C (fput fl (.own (.lst es)) fs))))
section
variable {X : Cx} {EX : EXT} {pos fpos : Pos}
theorem mutF {name fl : Str} {id : String} {e : Expr} {es : List Expr} {ga : GA} {f : List VT.D → List SV → (List VT.D → Prop) → Prop} {apos cpos p : Pos} {x : Str} (i : Nat) (Cs : List Addr) (hc : ∀ C ∈ Cs, Cls X.K C ∧ NoAttr X.K C fl) (hN : X.N[i]? = some x) (hv : Vis X.env.scope x) (hd : (x == ("__debug__" : Str)) = false) (hcd : (x == ("__classdict__" : Str)) = false)
    (hbx : attributeBase (.Name x p) fl X.env (eval (.Name x p) X.env) = eval (.Name x p) X.env)
    (slot : Slot "list" name id) (hty : typeOf (.builtin id) = pure (.type "method_descriptor"))
    (hm : ∀ (G : Gh) (H H0 Hs : Hp) (a : Addr) (ds : List VT.D) (vs ws : List V) (svs : List SV) (Q : Hp → Prop) (F : List VT.D → Prop), OkG G H → H a = some (.lst vs) → reps G.F ds vs → RepL H0 Hs G H ws svs → f ds svs F → (∀ es us, F es → reps G.F es us → Q (upd H a (.lst us))) → ∃ r, MtR X id r ∧ r (.ref a) ws H (fun _ H' => Q H'))
    (ha : VA X EX (e :: es) ga) (hbase : attributeBase (.Attribute (.Name x p) fl fpos) name X.env (eval (.Attribute (.Name x p) fl fpos) X.env) = eval (.Attribute (.Name x p) fl fpos) X.env)
    (hfew : ((backTo cpos (starEach (e :: es) X.env)).all (fun x => !x.1) && (backToKw cpos (keywordEach [] X.env)).all (fun x => x.1.isSome)
      && decide ((e :: es).length + ([] : List Keyword).length + (if ([] : List Keyword).isEmpty then 0 else 1) < 30)) = true)
    (hline : (apos.endLine == cpos.line) = true) (hs : starEach (e :: es) X.env = (false, eval e X.env) :: starEach es X.env) (hplain : (backTo cpos (starEach es X.env)).any (·.1) = false) (hsw : swapsWith (.Call (.Attribute (.Attribute (.Name x p) fl fpos) name apos) (e :: es) [] cpos) none pos.line X.env = pure false) :
    VS X EX (.Expr (.Call (.Attribute (.Attribute (.Name x p) fl fpos) name apos) (e :: es) [] cpos) pos) (gMutF i Cs fl ga f) := by
  refine ⟨fun G0 H0 tk => psMono (ps_expr (pe_bm PySem.F.plainAttrs_list slot hty mtr_any (pe_fld (pe_var hN hv hd hcd) hbx) (ha.pa G0 H0 tk) hbase hfew hline hs hplain) hsw) fun D σ H ⟨G, S, DV, R, ⟨qa, C, fs, ds0, e0, hC, hl, q⟩, k⟩ => ?_⟩
  obtain ⟨v, e1, r⟩ := R.slot i _ e0
  obtain ⟨a, dx, ws0, rfl, ea, ed, ma, md, nd, rf, hq⟩ := r
  obtain ⟨b, hw, mb, cb, hb⟩ := rf.lookO hl
  obtain ⟨vs0, eb, rv0⟩ := cb
  refine ⟨.ref a, e1, a, C, dx, ws0, .ref b, rfl, ea, (hc C hC).1, (hc C hC).2, hw, .inl ⟨rfl, vs0, .of eb⟩, G, S, _, R, q, fun ws H1 G1 svs E1 r1 q1 => ?_⟩
  have R1 := R.go E1
  have ea1 := E1.same _ _ ea ma.2.2 nofun
  have eb1 := E1.same _ _ eb mb.2.2 nofun
  refine hm G1 H1 H0 H b ds0 vs0 ws svs (fun H' => D.nx σ H') _ E1.ok eb1 (reps.mono E1.frz _ _ rv0) r1 q1 fun es us q2 ru => ?_
  exact k.nx _ _ G1 _ (R1.fmut (o := .lst us) (d' := .lst es) e0 e1 ea1 hl hw ⟨us, upd_same, ru⟩) E1.frz q2
theorem vs_fappend {e : Expr} {ga : GA} {apos cpos p : Pos} {x fl : Str} (i : Nat) (Cs : List Addr) (ha : VA X EX [e] ga) (hc : ∀ C ∈ Cs, Cls X.K C ∧ NoAttr X.K C fl) (hN : X.N[i]? = some x := by rfl) (hv : Vis X.env.scope x := by first | exact Or.inl rfl | exact Or.inr (Or.inl rfl) | exact Or.inr (Or.inr rfl)) (hd : (x == ("__debug__" : Str)) = false := by decide) (hcd : (x == ("__classdict__" : Str)) = false := by decide)
    (hbx : attributeBase (.Name x p) fl X.env (eval (.Name x p) X.env) = eval (.Name x p) X.env := by rfl)
    (hbase : attributeBase (.Attribute (.Name x p) fl fpos) "append" X.env (eval (.Attribute (.Name x p) fl fpos) X.env) = eval (.Attribute (.Name x p) fl fpos) X.env := by rfl)
    (hfew : ((backTo cpos (starEach [e] X.env)).all (fun x => !x.1) && (backToKw cpos (keywordEach [] X.env)).all (fun x => x.1.isSome)
      && decide (([e] : List Expr).length + ([] : List Keyword).length + (if ([] : List Keyword).isEmpty then 0 else 1) < 30)) = true := by rfl)
    (hline : (apos.endLine == cpos.line) = true := by rfl) (hs : starEach [e] X.env = (false, eval e X.env) :: starEach [] X.env := by rfl) (hsw : swapsWith (.Call (.Attribute (.Attribute (.Name x p) fl fpos) "append" apos) [e] [] cpos) none pos.line X.env = pure false := by rfl) :
    VS X EX (.Expr (.Call (.Attribute (.Attribute (.Name x p) fl fpos) "append" apos) [e] [] cpos) pos) (gMutF i Cs fl ga fAppend) := by
  refine mutF i Cs hc hN hv hd hcd hbx PySem.F.slot_list_append PySem.F.type_list_append (fun G H H0 Hs a ds vs ws svs Q F ok ea rv r q k => ?_) ha hbase hfew hline hs rfl hsw
  obtain ⟨y, rfl, hz, q⟩ := q
  cases r with
  | cons ry rr _ =>
    cases rr
    exact ⟨_, mt_append, a, vs, _, rfl, rfl, ea, by rw [rv.length]; exact hz, k _ _ q (rv.append (es := [y]) ⟨_, [], rfl, ry, rfl⟩)⟩
end
end VT

namespace VT
open PySem PySem.Spec PyProof.Rows L2

/-! ### an object under way is let go of -/
def FV.d : FV → D
  | .tr d => d
  | .own d => d
@[simp] theorem fvd_tr (d : D) : (FV.tr d).d = d := rfl
@[simp] theorem fvd_own (d : D) : (FV.own d).d = d := rfl
def frzF (fs : List (Str × FV)) : List (Str × D) := fs.map fun p => (p.1, p.2.d)
@[simp] theorem frzF_nil : frzF [] = [] := rfl
@[simp] theorem frzF_cons (f : Str) (x : FV) (fs : List (Str × FV)) : frzF ((f, x) :: fs) = (f, x.d) :: frzF fs := rfl
section
variable {Gs G : Gh} {H0 Hs H : Hp} {v : V} {q C : Addr} {fs : List (Str × FV)} {ws : List (Str × V)}
theorem RepF.frz (E : Ext Gs Hs G H) (r : RepF Hs G H fs ws) (n : (adrs fs ws).Nodup) : ∃ G', Ext Gs Hs G' H ∧ (∀ x o, G.F x = some o → G'.F x = some o) ∧ G'.pb = G.pb ∧ repf G'.F (frzF fs) ws ∧ ∀ b, b ∉ adrs fs ws → G'.F b = G.F b := by
  induction r with
  | nil => exact ⟨G, E, fun _ _ h => h, rfl, rfl, fun _ _ => rfl⟩
  | @tr g d v fs ws r _ ih =>
    obtain ⟨G', E', m, ep, q, same⟩ := ih n
    exact ⟨G', E', m, ep, ⟨v, ws, rfl, rep.mono m _ _ r, q⟩, same⟩
  | @own g d b fs ws h1 h2 h3 h4 _ ih =>
    obtain ⟨n1, n2⟩ := List.nodup_cons.mp n
    obtain ⟨G', E', m, ep, q, same⟩ := ih n2
    have hF : G'.F b = none := by rw [same b n1]; exact h2
    obtain ⟨o, ho, rd⟩ := (h4.mono m).obj hF
    have m2 : ∀ x u, G'.F x = some u → upd G'.F b o x = some u := upd_mono hF
    refine ⟨⟨upd G'.F b o, G'.pb, G'.T⟩, ext_freeze E' h1 ho hF (by rw [ep]; exact h3), fun x u h => m2 x u (m x u h), ep, ⟨.ref b, ws, rfl, rd, repf.mono m2 _ _ q⟩, fun x hx => ?_⟩
    have hxb : x ≠ b := fun z => hx (by rw [z]; exact List.mem_cons_self ..)
    show upd G'.F b o x = G.F x
    rw [upd_ne hxb]
    exact same x fun z => hx (List.mem_cons_of_mem _ z)
theorem obj_freeze (E : Ext Gs Hs G H) (r : RepV H0 Hs G H v (.obj q C fs)) : ∃ G', Ext Gs Hs G' H ∧ (∀ x o, G.F x = some o → G'.F x = some o) ∧ RepV H0 Hs G' H v (.tr (.ins C (frzF fs))) := by
  obtain ⟨a, dx, ws, rfl, ea, ed, ma, md, nd, rf, _⟩ := r
  rw [List.nodup_cons, List.nodup_cons] at nd
  obtain ⟨n1, n2, n3⟩ := nd
  have had : a ≠ dx := fun z => n1 (by rw [z]; exact List.mem_cons_self ..)
  obtain ⟨G1, E1, m1, ep, q, same⟩ := rf.frz E n3
  have hFd : G1.F dx = none := by rw [same dx n2]; exact md.2.1
  have hFa : G1.F a = none := by rw [same a fun z => n1 (List.mem_cons_of_mem _ z)]; exact ma.2.1
  have E2 := ext_freeze E1 md.1 ed hFd (by rw [ep]; exact md.2.2)
  have hFa2 : upd G1.F dx (.own a) a = none := by rw [upd_ne had]; exact hFa
  have E3 := ext_freeze E2 ma.1 ea hFa2 (by show G1.pb ≠ some a; rw [ep]; exact ma.2.2)
  have m2 : ∀ x u, G1.F x = some u → upd (upd G1.F dx (.own a)) a (.ins C dx ws) x = some u := fun x u h => upd_mono hFa2 x u (upd_mono hFd x u h)
  refine ⟨_, E3, fun x u h => m2 x u (m1 x u h), a, dx, ws, rfl, upd_same, ?_, repf.mono m2 _ _ q⟩
  show upd (upd G1.F dx (.own a)) a (.ins C dx ws) dx = some (.own a)
  rw [upd_ne had.symm, upd_same]
end

/-! ### __init__, making -/
/-- what __init__ of the class at C makes of its arguments: Q of the object under way -/
def spInit (K : PySem.W.Frag) (C : Addr) (F : FSp) : Sp := fun vs H Q _ => ∃ G H1 x dx vs' svs Qs, H = upd (upd H1 dx (.own x)) x (.ins C dx []) ∧ H1 x = none ∧ H1 dx = none ∧ dx ≠ x ∧ (OkG G H1 ∧ G.T = TabsOf K) ∧ vs = .ref x :: vs' ∧ RepL H1 H1 G H1 vs' svs ∧ (∀ sv ∈ svs, sv.isArg) ∧ F svs Qs ∧
  ∀ H' G' fs, Ext G H1 G' H' → RepV H1 H1 G' H' (.ref x) (.obj x C fs) → Qs (.tr (.ins C (frzF fs))) → Q .non H'
theorem ext_made {G : Gh} {H1 : Hp} {x dx C : Addr} (ok : OkG G H1) (hx : H1 x = none) (hd : H1 dx = none) (hne : dx ≠ x) : Ext G H1 G (upd (upd H1 dx (.own x)) x (.ins C dx [])) ∧ RepV H1 H1 G (upd (upd H1 dx (.own x)) x (.ins C dx [])) (.ref x) (.obj x C []) := by
  have E1 := ext_new ok hd (.own x)
  have hx2 : upd H1 dx (.own x) x = none := by rw [upd_ne hne.symm]; exact hx
  have E2 := ext_new E1.ok hx2 (.ins C dx [])
  exact ⟨E1.trans E2, x, dx, [], rfl, upd_same, by rw [upd_ne hne, upd_same], ⟨hx, ok.nF hx, ok.npb hx⟩, ⟨hd, ok.nF hd, ok.npb hd⟩, by simp [adrs, hne.symm], .nil, rfl⟩
section
variable {P : Program} {w : World} {K : PySem.W.Frag} {mg : Str → Option Value} {base : Heap} {x qual : Str} {params : Arguments} {body : List Stmt} {scope : Scope} {dvs : List V} {kws : List (Str × V)} {f C : Addr} {fd : FuncData} {N ps : List Str} {k : Nat} {g : GS} {Fs : FSp}
theorem Rel.startI {G : Gh} {H : Hp} {xa dx : Addr} {vs : List V} {svs : List SV} (ok : OkG G H) (hx : H xa = none) (hd : H dx = none) (hne : dx ≠ xa) (r : RepL H H G H vs svs) (ha : ∀ sv ∈ svs, sv.isArg) :
    Rel G H G (upd (upd H dx (.own xa)) xa (.ins C dx [])) (L2.start N (.ref xa :: vs)) (startS N (.obj xa C [] :: svs)) := by
  obtain ⟨E, ro⟩ := ext_made (C := C) ok hx hd hne
  have hl := r.length
  have rE := r.ext E
  have gets : ∀ (i : Nat) (sv : SV), (startS N (.obj xa C [] :: svs))[i]? = some (some sv) → (i = 0 ∧ sv = .obj xa C []) ∨ (∃ j, i = j + 1 ∧ svs[j]? = some sv) := fun i sv e => by
    have e' := start_get e
    cases i with
    | zero => cases e'; exact .inl ⟨rfl, rfl⟩
    | succ j => exact .inr ⟨j, rfl, e'⟩
  refine ⟨E, by simp [startS, L2.start, hl], fun i sv e => ?_, fun i j sv sw v w b hij e1 e2 _ _ o1 o2 => ?_, fun i sv e => ?_⟩
  · rcases gets i sv e with ⟨rfl, rfl⟩ | ⟨j, rfl, e'⟩
    · exact ⟨.ref xa, rfl, ro⟩
    · obtain ⟨v, hv, rv⟩ := rE.get e'
      refine ⟨v, ?_, rv⟩
      unfold L2.start
      have hi : j < vs.length := (List.getElem?_eq_some_iff.mp hv).1
      rw [List.getElem?_append_left (by simpa using hi), List.getElem?_map, List.getElem?_cons_succ, hv]
      rfl
  · rcases gets i sv e1 with ⟨rfl, rfl⟩ | ⟨i', rfl, e1'⟩
    · rcases gets j sw e2 with ⟨rfl, rfl⟩ | ⟨j', rfl, e2'⟩
      · exact hij rfl
      · exact (ha _ (List.mem_of_getElem? e2')).none o2
    · exact (ha _ (List.mem_of_getElem? e1')).none o1
  · rcases gets i sv e with ⟨rfl, rfl⟩ | ⟨j, rfl, e'⟩
    · trivial
    · have := ha _ (List.mem_of_getElem? e')
      cases sv <;> first | exact this.elim | trivial
theorem init_ok (F : FunD K x qual params body scope dvs kws f fd) (Sc : FnScope N ps scope)
    (hbody : ∀ (cdv : Value) (A : Around) (outer : List Env) (s : Shared) (H : Hp) (E : XK), Room k (A.deeper (envOfC qual scope s.heap.objs.size f cdv)) → VSs (cxOf CX0 P w K mg base N qual scope f cdv A outer s H E).nox E0T body g)
    (len : ∀ svs Qs, Fs svs Qs → svs.length + 1 = ps.length) (spec : ∀ xa svs Qs, Fs svs Qs → g { nx := fun S => ∃ fs, S[0]? = some (some (.obj xa C fs)) ∧ Qs (.tr (.ins C (frzF fs))), rt := fun _ => False } (startS N (.obj xa C [] :: svs))) : FnOk P w K mg base CX0 (k + 1) f fd ps (spInit K C Fs) := by
  refine F.ok Sc (fun vs H Q E ⟨G, H1, xa, dx, vs', svs, Qs, _, _, _, _, _, ev, r, _, h, _⟩ => by rw [ev, List.length_cons, r.length]; exact len _ _ h) (fun cdv A outer s H vs Q E hr h => ?_)
  obtain ⟨G, H1, xa, dx, vs', svs, Qs, eH, hx, hd, hne, ok, ev, r, ha, hf, z⟩ := h
  refine ⟨TSV G H1 g, ((hbody cdv A outer s H E hr).pss _ _ ⟨takesE0, ok.2⟩).nox, ?_⟩
  subst eH ev
  refine ⟨G, _, _, Rel.startI (N := N) ok.1 hx hd hne r ha, spec xa svs Qs hf, fun σ' H' G' S' R' _ q => ?_, fun v H' G' sv E' r' ir q => q.elim, fun σ' H' G' S' R' _ q => q.elim, fun σ' H' G' S' R' _ q => q.elim⟩
  obtain ⟨fs, e0, q⟩ := q
  obtain ⟨v, ev, rv⟩ := R'.slot 0 _ e0
  have e1 : v = .ref xa := by
    obtain ⟨a, _, _, e, _, _, _, _, _, _, hq⟩ := rv
    rw [e, hq]
  rw [e1] at rv
  exact z H' G' fs R'.ext rv q
end
section
variable {X : Cx} {EX : EXT} {k : Nat} {f C : Addr} {fd : FuncData} {ps : List Str} {F : FSp} {dd : List D} {dvs : List V} {ds : List Value} {x : Str} {p pos : Pos} {e : Expr} {es : List Expr} {ga : GA}
theorem make_end {G0 G G1 : Gh} {H0 H H1 : Hp} {Qs : SV → Prop} {Q : VK} {vs : List V} {svs : List SV} (hd : Wrts dd dvs) (hT : G1.T = TabsOf X.K) (E1 : Ext G H G1 H1) (r1 : RepL H0 H G1 H1 vs svs) (q1 : F (svs.map SV.arg ++ dd.map SV.tr) Qs) (kq : KQ H0 G H Qs Q) (E : XK) :
    ∀ x dx, H1 x = none → H1 dx = none → dx ≠ x → spInit X.K C F (.ref x :: (vs ++ dvs)) (upd (upd H1 dx (.own x)) x (.ins C dx [])) (fun v H2 => v = .non ∧ Q (.ref x) H2) E := by
  intro x dx hx hdx hne
  obtain ⟨a1, a2⟩ := r1.toArg
  refine ⟨G1, H1, x, dx, _, _, Qs, rfl, hx, hdx, hne, ⟨E1.ok, hT⟩, rfl, a1.append hd.repl a2, fun sv h => ?_, q1, fun H' G' fs E' r' q' => ⟨rfl, ?_⟩⟩
  · rcases List.mem_append.mp h with h | h
    · exact a2 sv h
    · obtain ⟨d, _, rfl⟩ := List.mem_map.mp h
      trivial
  · obtain ⟨G2, E2, _, r2⟩ := obj_freeze E' r'
    exact kq _ H' G2 (.tr (.ins C (frzF fs))) (E1.trans E2) r2 q'
/-- C(e, ..): a frozen object -/
theorem ve_make (M : Mk X.K C f) (Fn : FnOk X.prog X.w X.K X.mg X.base CX0 k f fd ps (spInit X.K C F)) (hr : Room (k + 1) X.A) (hg : Gl X x) (hm : X.mg x = some (.ref C)) (hb : Binds X.K fd ps ds) (hd : Vals dvs ds) (hw : Wrts dd dvs)
    (ha : VA X EX (e :: es) ga) (hdb : (x == ("__debug__" : Str)) = false := by decide) (he : starEach (e :: es) X.env = (false, eval e X.env) :: starEach es X.env := by rfl) (hpl : (backTo pos (starEach es X.env)).any (·.1) = false := by rfl) :
    VE X EX (.Call (.Name x p) (e :: es) [] pos) (gCall F dd ga) :=
  ⟨fun G0 H0 tk => peMono (pe_make M Fn hr hg hm hb hd pass0 (ha.pa G0 H0 tk) hdb he hpl) fun σ H Q ⟨G, S, Qs, R, q, kq⟩ => ⟨G, S, _, R, q, fun vs H1 G1 svs E1 r1 q1 => make_end (G0 := G0) hw (tk.tt R E1) E1 r1 q1 kq E0⟩⟩
theorem ve_make0 (M : Mk X.K C f) (Fn : FnOk X.prog X.w X.K X.mg X.base CX0 k f fd ps (spInit X.K C F)) (hr : Room (k + 1) X.A) (hg : Gl X x) (hm : X.mg x = some (.ref C)) (hb : Binds X.K fd ps ds) (hd : Vals dvs ds) (hw : Wrts dd dvs)
    (hdb : (x == ("__debug__" : Str)) = false := by decide) : VE X EX (.Call (.Name x p) [] [] pos) (gCall F dd gaNil) :=
  ⟨fun G0 H0 tk => peMono (pe_make0 M Fn hr hg hm hb hd pass0 hdb) fun σ H Q ⟨G, S, Qs, R, q, kq⟩ => make_end (vs := []) (G0 := G0) hw (tk.tt R (.refl R.ok)) (.refl R.ok) .nil q kq E0⟩
end
end VT

namespace VT
open PySem PySem.Spec PyProof.Rows L2

/-! ### methods, properties -/
theorem repf_none {F : Hp} {f : Str} : ∀ {fs : List (Str × D)} {ws : List (Str × V)}, repf F fs ws → (fs.map fun p => (p.1, FV.tr p.2)).lookup f = none → ws.lookup f = none
  | [], _, e, _ => by rw [show _ = _ from e]; rfl
  | (g, d) :: fs, _, ⟨v, t, e, r, q⟩, h => by
    rw [e]
    rw [List.map_cons, List.lookup_cons] at h
    rw [List.lookup_cons]
    cases hg : f == g with
    | true => rw [hg] at h; cases h
    | false =>
      rw [hg] at h
      exact repf_none q h
theorem RepP.none_ {N : Addr → Prop} {G : Gh} {H : Hp} {f : Str} {fs : List (Str × FV)} {ws : List (Str × V)} (r : RepP N G H fs ws) (h : fs.lookup f = none) : ws.lookup f = none := by
  induction r with
  | nil => rfl
  | @tr g d v fs ws r _ ih =>
    rw [List.lookup_cons] at h ⊢
    cases hg : f == g with
    | true => rw [hg] at h; cases h
    | false => rw [hg] at h; exact ih h
  | @own g d b fs ws h1 h2 h3 _ ih =>
    rw [List.lookup_cons] at h ⊢
    cases hg : f == g with
    | true => rw [hg] at h; cases h
    | false => rw [hg] at h; exact ih h
theorem RepV.insNone {H0 Hs H : Hp} {G : Gh} {v : V} {sv : SV} {C : Addr} {fs : List (Str × FV)} {f : Str} (r : RepV H0 Hs G H v sv) (ok : OkG G H) (e : sv.ins? = some (C, fs)) (hn : fs.lookup f = none) :
    ∃ a dx ws, v = .ref a ∧ H a = some (.ins C dx ws) ∧ ws.lookup f = none := by
  cases sv with
  | tr d =>
    cases d with
    | ins C' fs' =>
      cases e
      obtain ⟨a, dx, ws, e1, e2, e3, q⟩ := r
      exact ⟨a, dx, ws, e1, ok.sub _ _ e2, repf_none q hn⟩
    | _ => cases e
  | obj q' C' fs' =>
    cases e
    obtain ⟨a, dx, ws, e1, e2, _, _, _, _, rf, _⟩ := r
    exact ⟨a, dx, ws, e1, e2, rf.peek.none_ hn⟩
  | pob C' fs' =>
    cases e
    obtain ⟨a, dx, ws, e1, e2, _, rf⟩ := r
    exact ⟨a, dx, ws, e1, e2, rf.none_ hn⟩
  | bob C' fs' =>
    cases e
    obtain ⟨a, dx, ws, e1, _, e2, _, rf⟩ := r
    exact ⟨a, dx, ws, e1, e2, rf.none_ hn⟩
  | _ => cases e
@[simp] def gMeth (C : Addr) (m : Str) (F : FSp) (dd : List D) (go : GE) (ga : GA) : GE := fun S Q => go S fun so => ∃ fs, so.ins? = some (C, fs) ∧ fs.lookup m = none ∧ ga S fun svs => F (so.arg :: (svs.map SV.arg ++ dd.map SV.tr)) Q
@[simp] def gProp (C : Addr) (F : FSp) (go : GE) : GE := fun S Q => go S fun so => ∃ fs, so.ins? = some (C, fs) ∧ F [so.arg] Q
section
variable {X : Cx} {EX : EXT} {k : Nat} {f C : Addr} {fd : FuncData} {ps : List Str} {F : FSp} {dd : List D} {dvs : List V} {ds : List Value} {m : Str} {p pos apos : Pos} {o e : Expr} {es : List Expr} {go : GE} {ga : GA}
theorem ve_meth {pl : Sem Bool} (he : VE X EX o go) (c : Cls X.K C) (hm : Meth X.K C m f) (Fn : FnOk X.prog X.w X.K X.mg X.base CX0 k f fd ps (spV X.K F)) (hr : Room k X.A) (hb : Binds X.K fd ps ds) (hd : Vals dvs ds) (hw : Wrts dd dvs) (ha : VA X EX (e :: es) ga)
    (hst : starEach (e :: es) X.env = (false, eval e X.env) :: starEach es X.env := by rfl) (hpl : (backTo pos (starEach es X.env)).any (·.1) = false := by rfl)
    (ht : eval (.Call (.Attribute o m apos) (e :: es) [] pos) X.env = (do
      let ov ← eval o X.env
      standAt apos.atName
      let (f, first) ← holding [ov] (getMethod ov m pl)
      callWith pos f first (backTo pos (starEach (e :: es) X.env)) (backToKw pos (keywordEach [] X.env))) := by rfl) : VE X EX (.Call (.Attribute o m apos) (e :: es) [] pos) (gMeth C m F dd go ga) := by
  refine ⟨fun G0 H0 tk => peMono (pe_meth (he.pe G0 H0 tk) c hm Fn hr hb hd pass0 (ha.pa G0 H0 tk) hst hpl ht) fun σ H Q ⟨G, S, Qs, R, q, kq⟩ => ?_⟩
  refine ⟨G, S, _, R, q, fun v H1 G1 so E1 r1 q1 => ?_⟩
  obtain ⟨fs, hi, hn, q1⟩ := q1
  obtain ⟨a, dx, ws, rfl, ea, hl⟩ := r1.insNone E1.ok hi hn
  refine ⟨a, dx, ws, rfl, ea, hl, G1, S, _, R.go E1, q1, fun vs H2 G2 svs E2 r2 q2 => ?_⟩
  exact call_end (G0 := G0) (svs := so :: svs) (vs := .ref a :: vs) hw (tk.tt R (E1.trans E2)) (E1.trans E2) (RepL.cons' (fun _ z => E1.dom z) E2 r1 r2) q2 kq E0
theorem ve_meth0 {pl : Sem Bool} (he : VE X EX o go) (c : Cls X.K C) (hm : Meth X.K C m f) (Fn : FnOk X.prog X.w X.K X.mg X.base CX0 k f fd ps (spV X.K F)) (hr : Room k X.A) (hb : Binds X.K fd ps ds) (hd : Vals dvs ds) (hw : Wrts dd dvs)
    (ht : eval (.Call (.Attribute o m apos) [] [] pos) X.env = (do
      let ov ← eval o X.env
      standAt apos.atName
      let (f, first) ← holding [ov] (getMethod ov m pl)
      callWith pos f first (backTo pos (starEach [] X.env)) (backToKw pos (keywordEach [] X.env))) := by rfl) : VE X EX (.Call (.Attribute o m apos) [] [] pos) (gMeth C m F dd go gaNil) := by
  refine ⟨fun G0 H0 tk => peMono (pe_meth0 (he.pe G0 H0 tk) c hm Fn hr hb hd pass0 ht) fun σ H Q ⟨G, S, Qs, R, q, kq⟩ => ?_⟩
  refine ⟨G, S, _, R, q, fun v H1 G1 so E1 r1 q1 => ?_⟩
  obtain ⟨fs, hi, hn, q1⟩ := q1
  obtain ⟨a, dx, ws, rfl, ea, hl⟩ := r1.insNone E1.ok hi hn
  refine ⟨a, dx, ws, rfl, ea, hl, ?_⟩
  exact call_end (G0 := G0) (svs := [so]) (vs := [.ref a]) hw (tk.tt R E1) E1 (.cons r1 .nil fun _ _ z => z) q1 kq E0
theorem ve_prop {pa : Addr} (he : VE X EX o go) (c : Cls X.K C) (hp : PropOf X.K C m pa f) (Fn : FnOk X.prog X.w X.K X.mg X.base CX0 k f fd ps (spV X.K F)) (hr : Room (k + 1) X.A) (hb : Binds X.K fd ps [])
    (hab : attributeBase o m X.env (eval o X.env) = eval o X.env := by rfl) : VE X EX (.Attribute o m pos) (gProp C F go) := by
  refine ⟨fun G0 H0 tk => peMono (pe_prop (he.pe G0 H0 tk) c hp Fn hr hb .nil pass0 hab) fun σ H Q ⟨G, S, Qs, R, q, kq⟩ => ?_⟩
  refine ⟨G, S, _, R, q, fun v H1 G1 so E1 r1 q1 => ?_⟩
  obtain ⟨fs, hi, q1⟩ := q1
  obtain ⟨a, dx, ws, rfl, ea, _⟩ := r1.insAt E1.ok hi
  refine ⟨a, dx, ws, rfl, ea, ?_⟩
  exact call_end (G0 := G0) (svs := [so]) (vs := [.ref a]) (dd := []) (dvs := []) .nil (tk.tt R E1) E1 (.cons r1 .nil fun _ _ z => z) q1 kq E0
end
/-! ### a raise that is not reached -/
def gNever : GS := fun _ _ => False
theorem vs_never {X : Cx} {EX : EXT} {st : Stmt} : VS X EX st gNever := ⟨fun G0 H0 tk => ⟨fun pins s σ H D I ⟨_, _, _, _, q, _⟩ => q.elim⟩⟩
@[simp] theorem gNever_eq (D : VEnds) (S : S) : gNever D S = False := rfl
end VT

namespace VT
open PySem PySem.Spec PyProof.Rows L2

/-! ### dicts: read -/
section
variable {X : Cx} {EX : EXT}
theorem ix_dict (hu : X.A.units + 1 < cLine) : IxR X (fun x y H Q => ∃ a v, x = .ref a ∧ DGet H a y (some v) ∧ Q v H) := by
  intro va sl pins s σ H x y v u Q I rx ry h hs
  obtain ⟨a, z, rfl, g, q⟩ := h
  cases rx
  have T := dict_typeIs I g
  have W : wpAny (model X.prog X.w) X.A (getItem (.ref a) u) (EP X pins σ Q) X.xe s := d_getItem hu I g ry fun w' s3 I3 rw' => ⟨z, H, I3, rw', q⟩
  have W2 : wpAny (model X.prog X.w) X.A (subscripted sl false (.ref a) u) (fun r s' => wpAny (model X.prog X.w) X.A (letTemporaryGo va (.ref a) r >>= fun _ => pure r) (EP X pins σ Q) X.xe s') X.xe s := by
    rw [hs]
    refine wpAny_operating (wpAny_mono W (fun r s' hq => ?_) fun _ _ e => e)
    exact wpAny_bind (wpAny_letTemporaryGo (wpAny_pure hq))
  show wpAny _ _ (subscriptTail va sl (.ref a) u) _ _ s
  unfold subscriptTail
  refine wpAny_bind ?_
  rw [getitemInPython_of_ne T.not_modules]
  refine wpAny_bind (wpAny_specialOf T PySem.F.slot_dict_getitem.lookup ?_)
  first
    | exact wpAny_bind W2
    | exact wpAny_pure (wpAny_bind W2)
    | exact wpAny_bind (wpAny_pure (wpAny_bind W2))
theorem or_din (hu : X.A.units + 1 < cLine) : OpR X (compareOp .In) (fun x y H Q => ∃ a o, y = .ref a ∧ DGet H a x o ∧ Q (.bl o.isSome) H) := by
  rintro pins s σ H x y v u Q I rx ry ⟨a, o, rfl, g, q⟩
  cases ry
  exact d_in hu I g rx fun s' I' => ⟨.bl o.isSome, H, I', rfl, q⟩
theorem or_dnin (hu : X.A.units + 1 < cLine) : OpR X (compareOp .NotIn) (fun x y H Q => ∃ a o, y = .ref a ∧ DGet H a x o ∧ Q (.bl (!o.isSome)) H) := by
  rintro pins s σ H x y v u Q I rx ry ⟨a, o, rfl, g, q⟩
  cases ry
  exact d_notIn hu I g rx fun s' I' => ⟨.bl (!o.isSome), H, I', rfl, q⟩
end
/-- a value as a key -/
def keyD : D → Option Key
  | .int i => some (.inl i)
  | .str x => some (.inr x)
  | _ => none
@[simp] theorem keyD_int (i : Int) : keyD (.int i) = some (.inl i) := rfl
@[simp] theorem keyD_str (x : Str) : keyD (.str x) = some (.inr x) := rfl
def valD (kvs : List (Key × D)) (k : Key) : Option D := (kvs.find? fun kv => decide (kv.1 = k)).map (·.2)
theorem repk_val {F : Hp} {k : Key} : ∀ {kvs : List (Key × D)} {ws : List (Key × V)}, repk F kvs ws → (∀ d, valD kvs k = some d → ∃ v, valV ws k = some v ∧ rep F d v) ∧ (valD kvs k = none → valV ws k = none)
  | [], _, e => by rw [show _ = _ from e]; exact ⟨fun d h => (by cases h), fun _ => rfl⟩
  | (k', d) :: kvs, _, ⟨v, t, e, r, q⟩ => by
    rw [e]
    obtain ⟨i1, i2⟩ := repk_val (k := k) q
    unfold valD valV at i1 i2 ⊢
    rw [List.find?_cons, List.find?_cons]
    by_cases h : k' = k
    · simp only [h, decide_true]
      refine ⟨fun d' h => ?_, fun h => (by cases h)⟩
      cases h
      exact ⟨v, rfl, r⟩
    · simp only [h, decide_false]
      exact ⟨i1, i2⟩
theorem RepV.key {H0 Hs H : Hp} {G : Gh} {v : V} {sv : SV} {k : Key} (r : RepV H0 Hs G H v sv) (e : keyD sv.d = some k) : v = kV k := by
  cases hd : sv.d with
  | int i => rw [hd] at e; cases e; exact r.int hd
  | str x => rw [hd] at e; cases e; exact (r.str hd).1
  | _ => rw [hd] at e; cases e
/-- x in y, y a dict or else -/
def gInA (neg : Bool) (x y : D) (Q : SV → Prop) : Prop := match y with
  | .dic kvs => ∃ k, keyD x = some k ∧ Q (.tr (.bl (if neg then !(valD kvs k).isSome else (valD kvs k).isSome)))
  | _ => gIn neg x y Q
theorem isSome_of {kvs : List (Key × D)} {ws : List (Key × V)} {k : Key} {F : Hp} (r : repk F kvs ws) : (valV ws k).isSome = (valD kvs k).isSome := by
  obtain ⟨h1, h2⟩ := repk_val (k := k) r
  cases e : valD kvs k with
  | none => rw [h2 e]; rfl
  | some d =>
    obtain ⟨v, ev, _⟩ := h1 d e
    rw [ev]
    rfl
section
variable {X : Cx} {EX : EXT}
theorem ow_inA (hu : X.A.units + 64 < cLine) (hu' : X.A.units + 65 < cLine) : OpW X (compareOp .In) (gInA false) := by
  intro H0 Ha Hb G H x y sx sy Qs Q ok rx ry q k
  unfold gInA at q
  split at q
  · rename_i kvs hy
    obtain ⟨kk, hk, q⟩ := q
    obtain ⟨a, ws, rfl, ea, r⟩ := ry.dic ok hy
    have ek := rx.key hk
    subst ek
    refine ⟨_, or_din (by omega), a, _, rfl, .k ea, ?_⟩
    rw [isSome_of r]
    exact kq_tr (d := .bl _) k ok rfl q
  · exact ow_in hu hu' H0 Ha Hb G H x y sx sy Qs Q ok rx ry q k
theorem ow_notinA (hu : X.A.units + 64 < cLine) (hu' : X.A.units + 65 < cLine) : OpW X (compareOp .NotIn) (gInA true) := by
  intro H0 Ha Hb G H x y sx sy Qs Q ok rx ry q k
  unfold gInA at q
  split at q
  · rename_i kvs hy
    obtain ⟨kk, hk, q⟩ := q
    obtain ⟨a, ws, rfl, ea, r⟩ := ry.dic ok hy
    have ek := rx.key hk
    subst ek
    refine ⟨_, or_dnin (by omega), a, _, rfl, .k ea, ?_⟩
    rw [isSome_of r]
    exact kq_tr (d := .bl _) k ok rfl q
  · exact ow_notin hu hu' H0 Ha Hb G H x y sx sy Qs Q ok rx ry q k
end
/-- x[k], x a dict or else -/
def gIxA (x y : D) (Q : SV → Prop) : Prop := match x with
  | .dic kvs => ∃ k d, keyD y = some k ∧ valD kvs k = some d ∧ Q (.tr d)
  | _ => gIxD x y Q
section
variable {X : Cx} {EX : EXT}
theorem iw_all (hu : X.A.units + 1 < cLine) : IxW X gIxA := by
  intro H0 Ha Hb G H x y sx sy Qs Q ok r1 r2 q kk
  unfold gIxA at q
  split at q
  · rename_i kvs hx
    obtain ⟨k, d, hk, hd, q⟩ := q
    obtain ⟨a, ws, rfl, ea, r⟩ := r1.dic ok hx
    have ek := r2.key hk
    subst ek
    obtain ⟨v, ev, rv⟩ := (repk_val (k := k) r).1 d hd
    exact ⟨_, ix_dict hu, a, v, rfl, by rw [← ev]; exact .k ea, kq_tr kk ok rv q⟩
  · exact iw_seq H0 Ha Hb G H x y sx sy Qs Q ok r1 r2 q kk
/-- x[k], x a dict or else -/
theorem ve_ixA (hu : X.A.units + 1 < cLine) {a b : Expr} {ga gb : GE} {pos : Pos} (ha : VE X EX a ga) (hb : VE X EX b gb) (hs : PlainIx b := by exact fun _ _ => rfl) : VE X EX (.Subscript a b pos) (gOp gIxA ga gb) := ve_ixW (iw_all hu) ha hb hs
end
@[simp] theorem gIxA_dic (kvs : List (Key × D)) (y : D) (Q : SV → Prop) : gIxA (.dic kvs) y Q = ∃ k d, keyD y = some k ∧ valD kvs k = some d ∧ Q (.tr d) := rfl
@[simp] theorem gIxA_lst (xs : List D) (i : Int) (Q : SV → Prop) : gIxA (.lst xs) (.int i) Q = ∃ d, atI xs i = some d ∧ Q (.tr d) := rfl
@[simp] theorem gIxA_tup (xs : List D) (i : Int) (Q : SV → Prop) : gIxA (.tup xs) (.int i) Q = ∃ d, atI xs i = some d ∧ Q (.tr d) := rfl
@[simp] theorem gIxA_str (z : Str) (i : Int) (Q : SV → Prop) : gIxA (.str z) (.int i) Q = ∃ c, atI z.cps.toList i = some c ∧ Q (.tr (.str ⟨#[c]⟩)) := rfl
@[simp] theorem gInA_dic (neg : Bool) (kvs : List (Key × D)) (x : D) (Q : SV → Prop) : gInA neg x (.dic kvs) Q = ∃ k, keyD x = some k ∧ Q (.tr (.bl (if neg then !(valD kvs k).isSome else (valD kvs k).isSome))) := rfl
@[simp] theorem gInA_lst (neg : Bool) (xs : List D) (x : D) (Q : SV → Prop) : gInA neg x (.lst xs) Q = gIn neg x (.lst xs) Q := rfl
@[simp] theorem gInA_tup (neg : Bool) (xs : List D) (x : D) (Q : SV → Prop) : gInA neg x (.tup xs) Q = gIn neg x (.tup xs) Q := rfl
@[simp] theorem gInA_str (neg : Bool) (z : Str) (x : D) (Q : SV → Prop) : gInA neg x (.str z) Q = gIn neg x (.str z) Q := rfl
end VT

namespace VT
open PySem PySem.Spec PyProof.Rows L2

/-! ### x[k] = e, x an own list or dict -/
def putD (kvs : List (Key × D)) (k : Key) (y : D) : List (Key × D) :=
  if (kvs.any fun kv => decide (kv.1 = k)) = true then kvs.map (fun kv => if kv.1 = k then (kv.1, y) else kv) else kvs ++ [(k, y)]
theorem repk_any {F : Hp} {k : Key} : ∀ {kvs : List (Key × D)} {ws : List (Key × V)}, repk F kvs ws → (ws.any fun kv => decide (kv.1 = k)) = kvs.any fun kv => decide (kv.1 = k)
  | [], _, e => by rw [show _ = _ from e]; rfl
  | (k', d) :: kvs, _, ⟨v, t, e, r, q⟩ => by rw [e, List.any_cons, List.any_cons, repk_any q]
theorem repk_map {F : Hp} {k : Key} {y : D} {v : V} (hy : rep F y v) : ∀ {kvs : List (Key × D)} {ws : List (Key × V)}, repk F kvs ws → repk F (kvs.map fun kv => if kv.1 = k then (kv.1, y) else kv) (ws.map fun kv => if kv.1 = k then (kv.1, v) else kv)
  | [], _, e => by rw [show _ = _ from e]; rfl
  | (k', d) :: kvs, _, ⟨u, t, e, r, q⟩ => by
    rw [e, List.map_cons, List.map_cons]
    have ih := repk_map (k := k) hy q
    by_cases h : k' = k
    · rw [if_pos h, if_pos h]
      exact ⟨v, _, rfl, hy, ih⟩
    · rw [if_neg h, if_neg h]
      exact ⟨u, _, rfl, r, ih⟩
theorem repk_snoc {F : Hp} {k : Key} {y : D} {v : V} (hy : rep F y v) : ∀ {kvs : List (Key × D)} {ws : List (Key × V)}, repk F kvs ws → repk F (kvs ++ [(k, y)]) (ws ++ [(k, v)])
  | [], _, e => by rw [show _ = _ from e]; exact ⟨v, [], rfl, hy, rfl⟩
  | (k', d) :: kvs, _, ⟨u, t, e, r, q⟩ => by
    rw [e]
    exact ⟨u, _, rfl, r, repk_snoc hy q⟩
theorem repk_put {F : Hp} {k : Key} {y : D} {v : V} {kvs : List (Key × D)} {ws : List (Key × V)} (r : repk F kvs ws) (hy : rep F y v) : repk F (putD kvs k y) (putK ws k v) := by
  unfold putD putK
  rw [repk_any r]
  split
  · exact repk_map hy r
  · exact repk_snoc hy r
/-- c[k] = y gives F -/
def putC (c k y : D) (F : D → Prop) : Prop := match c with
  | .lst ds => ∃ n j, k = .int n ∧ ixN ds.length n = some j ∧ F (.lst (ds.set j y))
  | .dic kvs => ∃ q, keyD k = some q ∧ kvs.length < sizeLine ∧ F (.dic (putD kvs q y))
  | _ => False
@[simp] theorem putC_lst (ds : List D) (k y : D) (F : D → Prop) : putC (.lst ds) k y F = ∃ n j, k = .int n ∧ ixN ds.length n = some j ∧ F (.lst (ds.set j y)) := rfl
@[simp] theorem putC_dic (kvs : List (Key × D)) (k y : D) (F : D → Prop) : putC (.dic kvs) k y F = ∃ q, keyD k = some q ∧ kvs.length < sizeLine ∧ F (.dic (putD kvs q y)) := rfl
@[simp] def gPutA (i : Nat) (ge gk : GE) : GS := fun D S => ge S fun sv => ∃ y c, sv = .tr y ∧ S[i]? = some (some (.own c)) ∧ gk S fun sk => putC c sk.d y fun c' => D.nx (S.set i (some (.own c')))
section
variable {X : Cx} {EX : EXT} {pos : Pos}
theorem set_any : PSet X (fun o i v H Q => ∃ t, PSet X t ∧ t o i v H Q) := fun pins s σ H o i v ov iv u Q I ro ri rv ⟨_, h, q⟩ => h pins s σ H o i v ov iv u Q I ro ri rv q
theorem vs_putA (hu : X.A.units + 1 < cLine) {e ke : Expr} {ge gk : GE} {p spos : Pos} {x : Str} (i : Nat) (he : VE X EX e ge) (hk : VE X EX ke gk) (hN : X.N[i]? = some x := by rfl) (hv : Vis X.env.scope x := by first | exact Or.inl rfl | exact Or.inr (Or.inl rfl) | exact Or.inr (Or.inr rfl)) (hd : (x == ("__debug__" : Str)) = false := by decide) (hcd : (x == ("__classdict__" : Str)) = false := by decide)
    (ha : ∀ v, assign (.Subscript (.Name x p) ke spos) X.env v = (do
      let ov ← holding [v] (eval (.Name x p) X.env)
      let iv ← holding [v, ov] (eval ke X.env)
      standAt spos
      holding [v, ov, iv] (setItem ov iv v)
      release [v, ov, iv] []) := by intro _; rfl)
    (hs : swapsWithSole [.Subscript (.Name x p) ke spos] e pos.line X.env = pure false := by rfl) (hw : swappedStores [.Subscript (.Name x p) ke spos] e X.env = pure none := by rfl)
    (h1 : (assignEach [.Subscript (.Name x p) ke spos] X.env).map (·.2) = [assign (.Subscript (.Name x p) ke spos) X.env] := by rfl) :
    VS X EX (.Assign [.Subscript (.Name x p) ke spos] e pos) (gPutA i ge gk) := by
  refine ⟨fun G0 H0 tk => psMono (ps_asg (he.pe G0 H0 tk) (pg_sub (pe_var hN hv hd hcd) (hk.pe G0 H0 tk) set_any ha) hs hw h1) fun D σ H ⟨G, S, DV, R, q, k⟩ => ?_⟩
  refine ⟨G, S, _, R, q, fun v H1 G1 sv E1 r1 q1 => ?_⟩
  obtain ⟨y, c, rfl, e0, q1⟩ := q1
  obtain ⟨u, e1, r⟩ := R.slot i _ e0
  refine ⟨u, e1, G1, S, _, R.go E1, q1, fun sk H2 G2 ssk E2 r2 q2 => ?_⟩
  have R2 := (R.go E1).go E2
  have m2 : ∀ b o, G.F b = some o → G2.F b = some o := fun b o h => E2.frz b o (E1.frz b o h)
  have ry := rep.mono E2.frz _ _ r1
  obtain ⟨u', e3, r3⟩ := R2.slot i _ e0
  rw [e1] at e3
  cases e3
  obtain ⟨a, rfl, _, _, _, cc⟩ := r3
  unfold putC at q2
  split at q2
  · obtain ⟨n, j, hn, hj, q2⟩ := q2
    obtain ⟨vs, ea, rv⟩ := cc
    refine ⟨_, set_list, a, vs, n, j, rfl, r2.int hn, ea, by rw [rv.length]; exact hj, ?_⟩
    exact k.nx _ _ G2 _ (R2.write (a := a) (d' := .lst _) e0 e1 ⟨_, upd_same, rv.set j ry⟩) m2 q2
  · obtain ⟨q, hq, hl, q2⟩ := q2
    obtain ⟨ws, ea, rv⟩ := cc
    have ek := r2.key hq
    subst ek
    refine ⟨_, set_dict hu, a, _, rfl, .k ea (by rw [repk_len rv]; exact hl), ?_⟩
    exact k.nx _ _ G2 _ (R2.write (a := a) (d' := .dic _) e0 e1 ⟨_, upd_same, repk_put rv ry⟩) m2 q2
  · exact q2.elim
end
end VT

namespace VT
open PySem PySem.Spec PyProof.Rows L2

/-! ### d.get(k, z) -/
@[simp] def gGet2 (gd gk gz : GE) : GE := fun S Q => gd S fun x => ∃ kvs, x.d = .dic kvs ∧ gk S fun y => gz S fun z => ∃ k, keyD y.d = some k ∧ ((∃ d, valD kvs k = some d ∧ Q (.tr d)) ∨ (valD kvs k = none ∧ Q z))
section
variable {X : Cx} {EX : EXT}
theorem ve_dget2 (hu : X.A.units + 1 < cLine) {o e f : Expr} {gd gk gz : GE} {apos cpos : Pos} (ho : VE X EX o gd) (he : VE X EX e gk) (hf : VE X EX f gz) (m : M2 X o "get" apos e f cpos) : VE X EX (.Call (.Attribute o "get" apos) [e, f] [] cpos) (gGet2 gd gk gz) := by
  refine ⟨fun G0 H0 tk => peMono (pe_dget2 hu (ho.pe G0 H0 tk) (he.pe G0 H0 tk) (hf.pe G0 H0 tk) m) fun σ H Q ⟨G, S, Qs, R, q, kq⟩ => ?_⟩
  refine ⟨G, S, _, R, q, fun x H1 G1 sx E1 r1 q1 => ?_⟩
  obtain ⟨kvs, hx, q1⟩ := q1
  obtain ⟨a, ws, rfl, ea, _⟩ := r1.dic E1.ok hx
  refine ⟨a, rfl, ?_, G1, S, _, R.go E1, q1, fun y H2 G2 sy E2 r2 q2 => ?_⟩
  · exact .inl ⟨ws, .inl ea⟩
  refine ⟨G2, S, _, (R.go E1).go E2, q2, fun z H3 G3 sz E3 r3 q3 => ?_⟩
  obtain ⟨k, hk, q3⟩ := q3
  have r1' := (r1.ext E2).ext E3
  obtain ⟨a', ws', ez, ea', rk⟩ := r1'.dic E3.ok hx
  cases ez
  have ek := (r2.ext E3).key hk
  subst ek
  obtain ⟨h1, h2⟩ := repk_val (k := k) rk
  refine ⟨_, .k ea', ?_⟩
  have kk := kq_back ((E1.trans E2).trans E3) kq
  rcases q3 with ⟨d, hd, q3⟩ | ⟨hn, q3⟩
  · obtain ⟨v, ev, rv⟩ := h1 d hd
    rw [ev]
    exact kq_tr kk E3.ok rv q3
  · rw [h2 hn]
    exact kq z H3 G3 sz ((E1.trans E2).trans E3) (r3.back fun _ h => E1.dom (E2.dom h)) q3
/-- d[k] += n of an own dict of ints -/
@[simp] def gAugD (f : Int → Int → Int) (i : Nat) (gk ge : GE) : GS := fun D S => ∃ kvs0, S[i]? = some (some (.own (.dic kvs0))) ∧ gk S fun y => ∃ k n, keyD y.d = some k ∧ valD kvs0 k = some (.int n) ∧ ge S fun sv => ∃ b, sv.d = .int b ∧ kvs0.length < sizeLine ∧ D.nx (S.set i (some (.own (.dic (putD kvs0 k (.int (f n b)))))))
theorem vs_augD {rd : V → V → Hp → VK → Prop} {fI : Int → Int → Int} {op : Operator} (hu : X.A.units + 1 < cLine) (hop : InOp X op rd) (hrd : ∀ (i j : Int) (H : Hp) (Q : VK), Q (.int (fI i j)) H → rd (.int i) (.int j) H Q) {e ke : Expr} {ge gk : GE} {p tpos pos : Pos} {x : Str} (i : Nat) (hk : VE X EX ke gk) (he : VE X EX e ge)
    (hN : X.N[i]? = some x := by rfl) (hv : Vis X.env.scope x := by first | exact Or.inl rfl | exact Or.inr (Or.inl rfl) | exact Or.inr (Or.inr rfl)) (hd : (x == ("__debug__" : Str)) = false := by decide) (hcd : (x == ("__classdict__" : Str)) = false := by decide)
    (ha : ∀ ov iv new, augStore ke ov iv new = (do holding [new, ov, iv] (setItem ov iv new); release [new, ov, iv] []; pure .next) := by intro _ _ _; rfl) :
    VS X EX (.AugAssign (.Subscript (.Name x p) ke tpos) op e pos) (gAugD fI i gk ge) := by
  refine ⟨fun G0 H0 tk => psMono (ps_daug hu (pe_var hN hv hd hcd) (hk.pe G0 H0 tk) (he.pe G0 H0 tk) hop ha) fun D σ H ⟨G, S, DV, R, q, k⟩ => ?_⟩
  obtain ⟨kvs, e0, q⟩ := q
  obtain ⟨u, e1, r⟩ := R.slot i _ e0
  refine ⟨u, e1, G, S, _, R, q, fun y H1 G1 sy E1 r1 q1 => ?_⟩
  obtain ⟨kk, n, hk, hval, q1⟩ := q1
  have r1' := r.ext E1
  obtain ⟨a, ws, rfl, ea, rv⟩ := r1'.dic E1.ok rfl
  have ek := r1.key hk
  subst ek
  obtain ⟨v, ev, rn⟩ := (repk_val (k := kk) rv).1 _ hval
  have en : v = .int n := rn
  subst en
  refine ⟨a, _, rfl, by rw [← ev]; exact .k ea, G1, S, _, R.go E1, q1, fun y2 H2 G2 s2 E2 r2 q2 => ?_⟩
  obtain ⟨b, hb, hl, q2⟩ := q2
  have eb := r2.int hb
  subst eb
  refine hrd _ _ _ _ ?_
  have R2 := (R.go E1).go E2
  obtain ⟨a', ws2, ea', ea2, rv2⟩ := (r1'.ext E2).dic E2.ok rfl
  cases ea'
  refine ⟨_, .k ea2 (by rw [repk_len rv2]; exact hl), ?_⟩
  exact k.nx _ _ G2 _ (R2.write (a := a) (d' := .dic _) e0 e1 ⟨_, upd_same, repk_put (y := .int (fI n b)) rv2 rfl⟩) (fun b o h => E2.frz b o (E1.frz b o h)) q2
theorem rd_add (i j : Int) (H : Hp) (Q : VK) (q : Q (.int (i + j)) H) : rAdd (.int i) (.int j) H Q := ⟨i, j, rfl, rfl, q⟩
theorem rd_sub (i j : Int) (H : Hp) (Q : VK) (q : Q (.int (i - j)) H) : rSub (.int i) (.int j) H Q := ⟨i, j, rfl, rfl, q⟩
end
end VT

namespace VT
open PySem PySem.Spec PyProof.Rows L2

/-! ### C(e, .., k = v, ..) -/
theorem arr_up {α : Type} (a : α) (l : List α) : ∀ ix : List Nat, arr (ix.map (· + 1)) (a :: l) = arr ix l
  | [] => rfl
  | i :: ix => by
    have ih := arr_up a l ix
    unfold arr at ih ⊢
    rw [List.map_cons, List.filterMap_cons, List.filterMap_cons, List.getElem?_cons_succ, ih]
theorem arr_zero {α : Type} (a : α) (l : List α) (ix : List Nat) : arr (0 :: ix.map (· + 1)) (a :: l) = a :: arr ix l := by
  have ih := arr_up a l ix
  unfold arr at ih ⊢
  rw [List.filterMap_cons, List.getElem?_cons_zero, ih]
section
variable {X : Cx} {EX : EXT} {k n : Nat} {f C : Addr} {fd : FuncData} {ps ks : List Str} {F : FSp} {dd : List D} {dvs : List V} {x : Str} {p pos : Pos} {e : Expr} {es : List Expr} {ga gk : GA} {kws : List Keyword} {ix : List Nat}
theorem makeK_end {m : Nat} {G0 : Gh} {H0 : Hp} {σ : L2.St} {H : Hp} {Q : VK} (hw : Wrts dd dvs) (tk : Lk X EX G0 H0) (E : XK) (h : TV G0 H0 (gCallK F n m ix dd ga gk) σ H Q) :
    tMakeK C n m (spInit X.K C F) (fun vs zs => arr (0 :: ix.map (· + 1)) (vs ++ zs ++ dvs)) E (TAV G0 H0 ga) (TAV G0 H0 gk) σ H Q := by
  obtain ⟨G, S, Qs, R, q, kq⟩ := h
  refine ⟨G, S, _, R, q, fun vs H1 G1 svs E1 r1 q1 => ?_⟩
  refine ⟨G1, S, _, R.go E1, q1, fun zs H2 G2 szs E2 r2 q2 => ?_⟩
  obtain ⟨l1, l2, q2⟩ := q2
  refine ⟨r1.length.trans l1, r2.length.trans l2, fun xa dx hx hdx hne => ?_⟩
  obtain ⟨a1, a2⟩ := (r1.ext E2).toArg
  obtain ⟨b1, b2⟩ := r2.toArg
  have dt : ∀ sv ∈ dd.map SV.tr, sv.isArg := fun sv h => by obtain ⟨d, _, rfl⟩ := List.mem_map.mp h; trivial
  have ab : ∀ sv ∈ svs.map SV.arg ++ szs.map SV.arg, sv.isArg := fun sv h => (List.mem_append.mp h).elim (a2 sv) (b2 sv)
  obtain ⟨c1, c2⟩ := (((a1.append b1 a2).append hw.repl ab).arr (fun sv h => (List.mem_append.mp h).elim (ab sv) (dt sv)) ix)
  refine ⟨G2, H2, xa, dx, _, _, Qs, rfl, hx, hdx, hne, ⟨E2.ok, E2.tt.trans (tk.tt R E1)⟩, arr_zero _ _ _, c1, c2, q2, fun H' G' fs E' r' q' => ⟨rfl, ?_⟩⟩
  obtain ⟨G3, E3, _, r3⟩ := obj_freeze E' r'
  exact kq _ H' G3 (.tr (.ins C (frzF fs))) ((E1.trans E2).trans E3) r3 q'
theorem ve_makeK (M : Mk X.K C f) (Fn : FnOk X.prog X.w X.K X.mg X.base CX0 k f fd ps (spInit X.K C F)) (hr : Room (k + 1) X.A) (hg : Gl X x) (hm : X.mg x = some (.ref C)) (hb : KBi X.K fd ps (n + 1) ks (0 :: ix.map (· + 1)) dvs) (hw : Wrts dd dvs)
    (ha : VA X EX (e :: es) ga) (hkw : VKw X EX kws gk) (hall : (backToKw pos (keywordEach kws X.env)).all (·.1.isSome) = true := by rfl) (hks : (backToKw pos (keywordEach kws X.env)).filterMap (·.1) = ks := by rfl)
    (hdb : (x == ("__debug__" : Str)) = false := by decide) (he : starEach (e :: es) X.env = (false, eval e X.env) :: starEach es X.env := by rfl)
    (hpl : ((backTo pos (starEach (e :: es) X.env)).any (·.1) || (backToKw pos (keywordEach kws X.env)).any (·.1.isNone)) = false := by rfl) :
    VE X EX (.Call (.Name x p) (e :: es) kws pos) (gCallK F n ks.length ix dd ga gk) := by
  obtain ⟨ds, rd, hto⟩ := hb.to
  exact ⟨fun G0 H0 tk => peMono (pe_makeK M Fn hr hg hm (g := fun us ws => arr (0 :: ix.map (· + 1)) (us ++ ws ++ ds)) (gV := fun vs zs => arr (0 :: ix.map (· + 1)) (vs ++ zs ++ dvs)) ⟨hto, fun r1 r2 => vals_arr _ ((r1.append r2).append rd)⟩ pass0 (ha.pa G0 H0 tk) (hkw.pk G0 H0 tk) hall hks hdb he hpl) fun σ H Q h => makeK_end hw tk E0 h⟩
end
end VT

namespace VT
open PySem PySem.Spec PyProof.Rows L2

/-! ### {k: v for tg in it if t} -/
def DcW (gg : GG) (gt : GT) (gk ge : GE) (vs : List Nat) (S : S) (Q : SV → Prop) (ds : List D) : Prop := ∃ W : List D → List (Key × D) → Prop, W ds [] ∧ (∀ acc, W [] acc → Q (.own (.dic acc))) ∧
  ∀ d r acc, W (d :: r) acc → gg d (wipeS S vs) fun S2 => gt S2 fun b => if b = true then gk S2 fun sk => ∃ k, keyD sk.d = some k ∧ ge S2 fun sv => ∃ y, sv = .tr y ∧ acc.length < sizeLine ∧ W r (putD acc k y) else W r acc
def gDc (gi : GI) (gg : GG) (gt : GT) (gk ge : GE) (vs : List Nat) : GE := fun S Q => gi S (DcW gg gt gk ge vs S Q)
@[simp] theorem gDc_eq (gi : GI) (gg : GG) (gt : GT) (gk ge : GE) (vs : List Nat) (S : S) (Q : SV → Prop) : gDc gi gg gt gk ge vs S Q = gi S (DcW gg gt gk ge vs S Q) := rfl
theorem gDc_t {gi : GI} {gg : GG} {gt : GT} {gk ge : GE} {vs : List Nat} {G0 : Gh} {H0 : Hp} {σ : L2.St} {H : Hp} {Q : VK} (h : TV G0 H0 (gDc gi gg gt gk ge vs) σ H Q) : tDc (TIV true G0 H0 gi) (TGV G0 H0 vs gg) (TTV G0 H0 gt) (TV G0 H0 gk) (TV G0 H0 ge) vs σ H Q := by
  obtain ⟨G, S, Qs, R, q, k⟩ := h
  refine ⟨G, S, _, R, q, fun J H1 G1 ds E1 Y q1 => ?_⟩
  obtain ⟨W, w0, wd, ws⟩ := q1
  intro D hD
  have R1 := R.go E1
  refine ⟨fun i m H2 => ∃ G2 acc vsD, Ext G1 H1 G2 H2 ∧ H2 D = some (.dK vsD) ∧ G2.F D = none ∧ G2.pb ≠ some D ∧ repk G2.F acc vsD ∧ W (ds.drop i) acc ∧ m = ds.length - i ∧ i ≤ ds.length, ⟨ds.length, G1, [], [], ext_new E1.ok hD _, upd_same, E1.ok.nF hD, E1.ok.npb hD, rfl, w0, by simp, Nat.zero_le _⟩, ?_⟩
  rintro i m H2 ⟨G2, acc, vsD, E2, e2, f2, b2, ra, w, rfl, hi⟩
  by_cases hlt : i < ds.length
  · obtain ⟨y1, y2⟩ := Y G2 H2 E2
    have hd : ds[i]? = some ds[i] := List.getElem?_eq_getElem hlt
    obtain ⟨go, yl⟩ := y2 i _ hd
    rw [List.drop_eq_getElem_cons hlt] at w
    refine .inr ⟨go, fun H' => ∃ m', m' < ds.length - i ∧ ∃ G2 acc vsD, Ext G1 H1 G2 H' ∧ H' D = some (.dK vsD) ∧ G2.F D = none ∧ G2.pb ≠ some D ∧ repk G2.F acc vsD ∧ W (ds.drop (i + 1)) acc ∧ m' = ds.length - (i + 1) ∧ i + 1 ≤ ds.length, fun H' z => z, fun x H3 yx => ?_⟩
    obtain ⟨G3, E3, rx⟩ := yl x H3 yx
    refine ⟨G3, wipeS S vs, ds[i], _, ((R1.go E2).go E3).wipe vs, rx, ws _ _ _ w, fun σ2 S2 R2 off q2 => ⟨off.wiped, ?_⟩⟩
    refine ⟨G3, S2, _, R2, q2, fun b H4 G4 E4 q4 => ?_⟩
    have ne2 : H2 D ≠ none := by rw [e2]; simp
    have E24 := E3.trans E4
    have e4 : H4 D = some (.dK vsD) := E24.same _ _ e2 b2 nofun
    cases b with
    | false =>
      rw [if_neg Bool.false_ne_true] at q4
      refine iteF ?_
      exact ⟨_, by omega, G4, acc, vsD, E2.trans E24, e4, E24.nF f2 ne2, E24.npb b2 ne2, repk.mono E24.frz _ _ ra, q4, rfl, by omega⟩
    | true =>
      rw [if_pos rfl] at q4
      refine iteT ?_
      refine ⟨G4, S2, _, R2.go E4, q4, fun y H5 G5 sk E5 r5 q5 => ?_⟩
      obtain ⟨kk, hk, q5⟩ := q5
      have ek := r5.key hk
      subst ek
      refine ⟨G5, S2, _, (R2.go E4).go E5, q5, fun z H6 G6 sv E6 r6 q6 => ?_⟩
      obtain ⟨y, rfl, hz, q6⟩ := q6
      have E26 := (E24.trans E5).trans E6
      have e6 : H6 D = some (.dK vsD) := E26.same _ _ e2 b2 nofun
      have rz := repk.mono E26.frz _ _ ra
      refine ⟨vsD, kk, rfl, e6, by rw [repk_len rz]; exact hz, _, by omega, G6, putD acc kk y, putK vsD kk z, ext_write (E2.trans E26) hD (E26.nF f2 ne2) (E26.npb b2 ne2) _ (.dK e6), upd_same, E26.nF f2 ne2, E26.npb b2 ne2, repk_put rz r6, q6, rfl, by omega⟩
  · have e : i = ds.length := by omega
    subst e
    rw [List.drop_length] at w
    obtain ⟨y1, _⟩ := Y G2 H2 E2
    exact .inl ⟨y1 _ (Nat.le_refl _), k _ _ G2 (.own (.dic acc)) (E1.trans E2) ⟨D, rfl, E1.dom hD, f2, b2, vsD, e2, ra⟩ (wd _ w)⟩
section
variable {X : Cx} {EX : EXT}
theorem ve_dc {kx vx tg iter : Expr} {ifs : List Expr} {scope : Scope} {own : List (Str × Nat)} {pos : Pos} {gi : GI} {gg : GG} {gt : GT} {gk ge : GE} (hc : X.calm = true) (hN : X.N.Nodup) (hi : VI true X EX tg iter gi) (ok : BlkOk X.N X.env.scope scope own)
    (hg : ∀ (s : Shared) (H : Hp) (C : Addr) (cl : List (Str × Addr)) (fp : List Addr), VG (X.blk s H scope (compEnvC scope cl C X.env) fp) tg (own.map (·.2)) gg) (ht : ∀ (s : Shared) (H : Hp) (C : Addr) (cl : List (Str × Addr)) (fp : List Addr), VCs (X.blk s H scope (compEnvC scope cl C X.env) fp) E0T ifs gt)
    (hk : ∀ (s : Shared) (H : Hp) (C : Addr) (cl : List (Str × Addr)) (fp : List Addr), VE (X.blk s H scope (compEnvC scope cl C X.env) fp) E0T kx gk)
    (he : ∀ (s : Shared) (H : Hp) (C : Addr) (cl : List (Str × Addr)) (fp : List Addr), VE (X.blk s H scope (compEnvC scope cl C X.env) fp) E0T vx ge) (hs : ∀ x, foldedSetIterable iter X.env x = pure x := by intro _; rfl) :
    VE X EX (.DictComp kx vx [⟨tg, iter, ifs, 0⟩] scope pos) (gDc gi gg gt gk ge (own.map (·.2))) :=
  ⟨fun G0 H0 tk => peMono (pe_dc hc hN (hi.pi G0 H0 tk) ok (fun s H C cl fp => (hg s H C cl fp).pg G0 H0) (fun s H C cl fp => (ht s H C cl fp).pts G0 H0 (tk.blk rfl)) (fun s H C cl fp => (hk s H C cl fp).pe G0 H0 (tk.blk rfl)) (fun s H C cl fp => (he s H C cl fp).pe G0 H0 (tk.blk rfl)) hs) fun σ H Q h => gDc_t h⟩
end
end VT

namespace VT
open PySem PySem.Spec PyProof.Rows L2

/-! ### a look at the fragment behind the top, whatever is looked at -/
def hookV {β : Type} (n : Nat) (o : PySem.W.Frag → β) (v : β) : PySem.W.Hook where
  α := β
  obs := fun s => o (He.frG s.heap.get? (He.asD s.heap.get? n))
  val := fun _ => v
  says := fun _ h => ∃ K : PySem.W.Frag, K.In h ∧ o K = v
  of := fun _ _ e => ⟨_, He.frG_in, e⟩
  keeps := fun _ _ _ ⟨K, hK, c⟩ k => ⟨K, PySem.W.Frag.In.keeps hK k, c⟩
/-- .. over the tree's heap -/
theorem hookV_eq {β : Type} {n : Nat} {o : PySem.W.Frag → β} {v : β} {g : Addr → Option Obj} {s : Shared} (h : ∀ a, g a = s.heap.get? a) : o (He.frG g (He.asD g n)) = (hookV n o v).obs s := by
  have e : g = s.heap.get? := funext h
  rw [e]
  rfl
/-! ### properties -/
/-- the getter behind a property object -/
def prG (K : PySem.W.Frag) (p : Addr) : Addr := match PySem.W.recIn K p "property" with
  | some (.ref g :: _) => g
  | _ => 0
def prHas (K : PySem.W.Frag) (p : Addr) : Bool := match PySem.W.recIn K p "property" with
  | some (.ref _ :: _) => true
  | _ => false
def prB (K : PySem.W.Frag) (C : Addr) (m : Str) : Bool := decide (PySem.W.findIn K (.ref C) m = some (some (.ref (He.ma K C m)))) && (decide (PySem.W.specialIn K (.ref (He.ma K C m)) "__get__" = some (some (.builtin "property.__get__"))) &&
  (decide (PySem.W.takesIn K (.ref (He.ma K C m)) = some true) && prHas K (He.ma K C m)))
theorem prB_ok {K : PySem.W.Frag} {C : Addr} {m : Str} (h : prB K C m = true) : PropOf K C m (He.ma K C m) (prG K (He.ma K C m)) := by
  unfold prB at h
  rw [Bool.and_eq_true, Bool.and_eq_true, Bool.and_eq_true] at h
  obtain ⟨h1, h2, h3, h4⟩ := h
  refine ⟨of_decide_eq_true h1, of_decide_eq_true h2, of_decide_eq_true h3, ?_⟩
  unfold prHas at h4
  unfold prG
  split at h4
  · rename_i g rest e
    rw [e]
    exact ⟨rest, rfl⟩
  · cases h4
end VT

namespace VT
open PySem PySem.Spec PyProof.Rows L2

/-! ### a def at any address -/
def fnA (K : PySem.W.Frag) (a : Addr) : He.FnW := match K.lookup a with
  | some ⟨_, _, .func fd, _⟩ => some (fd.name, fd.qualname, fd.params, fd.body, fd.scope, fd.globals, fd.closure, fd.builtins)
  | _ => none
def okA (K : PySem.W.Frag) (d : He.DefD) (a : Addr) : Bool := PySem.W.keepIn K (.ref a) && (match K.lookup a with
  | some ⟨_, _, .func fd, _⟩ => PySem.W.codeIn K fd.code d.qual && (He.dflB K fd.defaults (d.dvs K) && He.kwdB K fd.kwdefaults (d.kws K))
  | _ => false)
theorem funA {K : PySem.W.Frag} {d : He.DefD} {a : Addr} (e : fnA K a = d.val) (c : okA K d a = true) : ∃ fd, FunD K d.name d.qual d.params d.body d.scope (d.dvs K) (d.kws K) a fd := by
  unfold okA at c
  rw [Bool.and_eq_true] at c
  obtain ⟨kp, c2⟩ := c
  unfold fnA at e
  cases q : K.lookup a with
  | none => rw [q] at c2; cases c2
  | some ob =>
    obtain ⟨oc, od, dt, osl⟩ := ob
    rw [q] at c2 e
    cases dt with
    | func fd =>
      obtain ⟨m1, m2, m3, m4, m5, m6, m7, m8, m9, m10, m11, m12, m13, m14, m15⟩ := fd
      have e2 : (some (m1, m2, m3, m4, m5, m6, m7, m15) : He.FnW) = some (d.name, d.qual, d.params, .stmts d.body, d.scope, mainGlobals, [], builtinsNs) := e
      simp only [Option.some.injEq, Prod.mk.injEq] at e2
      obtain ⟨rfl, rfl, rfl, rfl, rfl, rfl, rfl, rfl⟩ := e2
      have c3 : (PySem.W.codeIn K m13 d.qual && (He.dflB K m8 (d.dvs K) && He.kwdB K m9 (d.kws K))) = true := c2
      rw [Bool.and_eq_true, Bool.and_eq_true] at c3
      obtain ⟨k1, k3, k4⟩ := c3
      exact ⟨_, ⟨oc, od, m8, m9, m10, m11, m12, m13, m14, osl, rfl, q, k1, He.dflB_ok k3, He.kwdB_ok k4⟩, kp⟩
    | _ => cases c2
end VT

namespace VT
open PySem PySem.Spec PyProof.Rows L2

/-! ### defs, whatever they close over; how calls bind -/
structure FG (K : PySem.W.Frag) (x qual : Str) (params : Arguments) (body : List Stmt) (scope : Scope) (cl : List (Str × Addr)) (dvs : List V) (kws : List (Str × V)) (f : Addr) (fd : FuncData) : Prop where
  ex : ∃ (osl : Array (Option Value)) (od an : Option Addr) (oc dV kV doc pm cdv ct : Value),
    fd = PySem.W.fnX x qual params body scope cl dV kV doc pm an cdv ct ∧ K.lookup f = some ⟨oc, od, .func fd, osl⟩ ∧ PySem.W.codeIn K cdv qual = true ∧ DflV K dV dvs ∧ KwdV K kV kws
  kp : PySem.W.keepIn K (.ref f) = true
section
variable {K : PySem.W.Frag} {x qual : Str} {params : Arguments} {body : List Stmt} {scope : Scope} {cl : List (Str × Addr)} {dvs : List V} {kws : List (Str × V)} {f : Addr} {fd : FuncData} {ps ks : List Str} {n : Nat} {ix : List Nat}
theorem FG.of (F : FunD K x qual params body scope dvs kws f fd) : FG K x qual params body scope [] dvs kws f fd := by
  obtain ⟨⟨oc, od, dV, kV, doc, pm, an, cdv, ct, osl, e1, e2, e3, e4, e5⟩, kp⟩ := F
  exact ⟨⟨osl, od, an, oc, dV, kV, doc, pm, cdv, ct, e1, e2, e3, e4, e5⟩, kp⟩
/-- no default is needed -/
theorem FG.kbA (F : FG K x qual params body scope cl [] kws f fd)
    (h : ∀ (kV doc pm cdv ct : Value) (an : Option Addr) (us ws : List Value), us.length = n → ws.length = ks.length → bindArgs (PySem.W.fnX x qual params body scope cl .none kV doc pm an cdv ct) ⟨us, ks.zip ws⟩ = pure (ps.zip (arr ix (us ++ ws)))) : KBi K fd ps n ks ix [] := by
  obtain ⟨osl, od, an, oc, dV, kV, doc, pm, cdv, ct, rfl, lk, hcd, hD, hK⟩ := F.ex
  rcases hD with ⟨_, rfl⟩ | ⟨e, _⟩
  · exact ⟨[], .nil, fun s us ws _ h1 h2 => by rw [List.append_nil]; exact .of_eq (h kV doc pm cdv ct an us ws h1 h2)⟩
  · exact absurd rfl e
/-- the keyword-only parameters ms lack -/
theorem FG.kbD (ms : List (Str × V)) (F : FG K x qual params body scope cl [] kws f fd) (hk : kws ≠ []) (hms : ∀ q ∈ ms, q ∈ kws)
    (h : ∀ (D : Addr) (doc pm cdv ct : Value) (an : Option Addr) (us ws mv : List Value), us.length = n → ws.length = ks.length → mv.length = ms.length →
      KwChain D ((ms.map (·.1)).zip mv) (bindArgs (PySem.W.fnX x qual params body scope cl .none (.ref D) doc pm an cdv ct) ⟨us, ks.zip ws⟩) (ps.zip (arr ix (us ++ ws ++ mv)))) : KBi K fd ps n ks ix (ms.map (·.2)) := by
  obtain ⟨osl, od, an, oc, dV, kV, doc, pm, cdv, ct, rfl, lk, hcd, hD, hK⟩ := F.ex
  rcases hD with ⟨_, rfl⟩ | ⟨e, _⟩
  · rcases hK with e | ⟨D, rfl, hq⟩
    · exact absurd e hk
    · obtain ⟨mv, hl, rk, hks⟩ := kwd_vals (ms := ms) fun q hm => hq q (hms q hm)
      exact ⟨mv, rk, fun s us ws X l1 l2 => BindsTo.of_looks fun M => KwChain.looks X hks (h D doc pm cdv ct an us ws mv l1 l2 hl)⟩
  · exact absurd rfl e
/-- positional defaults from the j-th on, and ms -/
theorem FG.kbT (j : Nat) (ms : List (Str × V)) (F : FG K x qual params body scope cl dvs kws f fd) (hd : dvs ≠ []) (hms : ∀ q ∈ ms, q ∈ kws)
    (h : ∀ (T D : Addr) (kV doc pm cdv ct : Value) (an : Option Addr) (us ws its mv : List Value), us.length = n → ws.length = ks.length → its.length = dvs.length → mv.length = ms.length → (ms ≠ [] → kV = .ref D) →
      ∃ k, bindArgs (PySem.W.fnX x qual params body scope cl (.ref T) kV doc pm an cdv ct) ⟨us, ks.zip ws⟩ = seqItems? (.ref T) >>= k ∧ KwChain D ((ms.map (·.1)).zip mv) (k (some its.toArray)) (ps.zip (arr ix (us ++ ws ++ (its.drop j ++ mv))))) : KBi K fd ps n ks ix (dvs.drop j ++ ms.map (·.2)) := by
  obtain ⟨osl, od, an, oc, dV, kV, doc, pm, cdv, ct, rfl, lk, hcd, hD, hK⟩ := F.ex
  rcases hD with ⟨e, _⟩ | ⟨_, T, o, its, m, rfl, lT, oT, rT⟩
  · exact absurd e hd
  · by_cases hm : ms = []
    · subst hm
      refine ⟨its.drop j ++ [], (rT.drop j).append .nil, fun s us ws X l1 l2 => ?_⟩
      obtain ⟨k, e1, e2⟩ := h T 0 kV doc pm cdv ct an us ws its [] l1 l2 rT.length.symm rfl fun z => absurd rfl z
      refine BindsTo.of_looks fun M => ?_
      rw [e1]
      exact looks_items X lT oT (KwChain.looks X (by intro q z; cases z) e2)
    · rcases hK with e | ⟨D, rfl, hq⟩
      · exact (hm (List.eq_nil_iff_forall_not_mem.mpr fun q hq => by have := hms q hq; rw [e] at this; cases this)).elim
      · obtain ⟨mv, hl, rk, hks⟩ := kwd_vals (ms := ms) fun q hm => hq q (hms q hm)
        refine ⟨its.drop j ++ mv, (rT.drop j).append rk, fun s us ws X l1 l2 => ?_⟩
        obtain ⟨k, e1, e2⟩ := h T D (.ref D) doc pm cdv ct an us ws its mv l1 l2 rT.length.symm hl fun _ => rfl
        refine BindsTo.of_looks fun M => ?_
        rw [e1]
        exact looks_items X lT oT (KwChain.looks X hks e2)
end

/-! ### promises of defs that may raise -/
abbrev XP := Addr → List (Str × D) → Prop
abbrev FXp := List SV → (SV → Prop) → XP → Prop
@[simp] def lift (F : FSp) : FXp := fun svs Q _ => F svs Q
/-- an exception in the air, as it is told -/
def XOf (G : Gh) (H : Hp) (Qx : XP) : XK := fun cls d H' => ∃ C dx fs ws G', cls = .ref C ∧ d = some dx ∧ Ext G H G' H' ∧ G'.F dx = some (.xd ws) ∧ repf G'.F fs ws ∧ Qx C fs
def spX (K : PySem.W.Frag) (F : FXp) : Sp := fun vs H Q E => ∃ G svs Qs Qx, (OkG G H ∧ G.T = TabsOf K) ∧ RepL H H G H vs svs ∧ (∀ sv ∈ svs, sv.isArg) ∧ F svs Qs Qx ∧
  (∀ v H' G' sv, Ext G H G' H' → RepV H H G' H' v sv → sv.isRet → Qs sv → Q v H') ∧ ∀ cls d H', XOf G H Qx cls d H' → E cls d H'
structure FnX (P : Program) (w : World) (K : PySem.W.Frag) (mg : Str → Option Value) (base : Heap) (d : He.DefD) (f : Addr) (k : Nat) (ps : List Str) (F : FXp) : Prop where
  ex : ∃ fd cl, FG K d.name d.qual d.params d.body d.scope cl (d.dvs K) (d.kws K) f fd ∧ FnOk P w K mg base (L2.CX P w) k f fd ps (spX K F)
section
variable {P : Program} {w : World} {K : PySem.W.Frag} {mg : Str → Option Value} {base : Heap} {d : He.DefD} {f : Addr} {j k : Nat} {N ps : List Str} {F F' : FXp} {g : EXT → GS}
theorem FnX.mono (h : FnX P w K mg base d f j ps F) (hj : j ≤ k) : FnX P w K mg base d f k ps F := by
  obtain ⟨fd, cl, hf, hk⟩ := h
  exact ⟨fd, cl, hf, hk.mono hj⟩
theorem FnX.imp (h : FnX P w K mg base d f k ps F) (hF : ∀ svs Q Qx, F' svs Q Qx → F svs Q Qx) : FnX P w K mg base d f k ps F' := by
  obtain ⟨fd, cl, hf, hk⟩ := h
  exact ⟨fd, cl, hf, hk.imp fun vs H Q E ⟨G, svs, Qs, Qx, ok, r, ha, q, z⟩ => ⟨G, svs, Qs, Qx, ok, r, ha, hF _ _ _ q, z⟩⟩
theorem FnV.x {F : FSp} (h : FnV P w K mg base d k ps F) : FnX P w K mg base d (He.fAd K d.at_) k ps (lift F) := by
  obtain ⟨⟨fd, hf, hk⟩, hm⟩ := h
  refine ⟨fd, [], .of hf, ⟨fun vs H Q E ⟨G, svs, Qs, Qx, ok, r, ha, q, z, _⟩ => hk.len vs H Q E ⟨G, svs, Qs, ok, r, ha, q, z⟩, fun A outer s H args us vs Q E hr e0 hb rv ⟨G, svs, Qs, Qx, ok, r, ha, q, z, _⟩ => ?_⟩⟩
  refine codeAny_mono (hk.run A outer s H args us vs Q E hr e0 hb rv ⟨G, svs, Qs, ok, r, ha, q, z⟩) fun r s' hq => ?_
  cases r with
  | error e => exact False.elim hq
  | ok fl =>
    cases fl with
    | ret u => exact hq
    | next => exact hq
    | brk => exact hq
    | cont => exact hq
theorem fnx_ok (hf : ∃ fd, FunD K d.name d.qual d.params d.body d.scope (d.dvs K) (d.kws K) f fd) (Sc : FnScope N ps d.scope)
    (hbody : ∀ (EX : EXT) (cdv : Value) (A : Around) (outer : List Env) (s : Shared) (H : Hp) (E : XK), Room k (A.deeper (envOfC d.qual d.scope s.heap.objs.size f cdv)) → VSs (cxOf (L2.CX P w) P w K mg base N d.qual d.scope f cdv A outer s H E) EX d.body (g EX))
    (len : ∀ svs Qs Qx, F svs Qs Qx → svs.length = ps.length) (spec : ∀ svs Qs Qx, F svs Qs Qx → g (fun C fs _ => Qx C fs) { nx := fun _ => Qs (.tr .non), rt := Qs } (startS N svs)) : FnX P w K mg base d f (k + 1) ps F := by
  obtain ⟨fd, hf⟩ := hf
  refine ⟨fd, [], .of hf, hf.ok Sc (fun vs H Q E ⟨G, svs, Qs, Qx, ok, r, ha, h, z⟩ => r.length.trans (len _ _ _ h)) (fun cdv A outer s H vs Q E hr h => ?_)⟩
  obtain ⟨G, svs, Qs, Qx, ok, r, ha, h, z, zx⟩ := h
  have tk : Lk (cxOf (L2.CX P w) P w K mg base N d.qual d.scope f cdv A outer s H E) (fun C fs _ => Qx C fs) G H :=
    ⟨(takes_of rfl rfl rfl rfl).imp fun cls d σ H' ⟨G', S, C, dx, fs, ws, e1, e2, R, e3, e4, q⟩ => zx _ _ _ ⟨C, dx, fs, ws, G', e1, e2, R.ext, e3, e4, q⟩, ok.2⟩
  refine ⟨TSV G H (g _), (hbody _ cdv A outer s H E hr).pss _ _ tk, ?_⟩
  refine ⟨_, startS N svs, _, Rel.start ok.1 r ha, spec svs Qs Qx h, fun σ' H' G' S' R' _ q => ?_, fun v H' G' sv E' r' ir q => z v H' G' sv E' r' ir q, fun σ' H' G' S' R' _ q => q.elim, fun σ' H' G' S' R' _ q => q.elim⟩
  exact z .non H' G' (.tr .non) R'.ext rfl trivial q
end

/-! ### a call, at what it is told -/
section
variable {X : Cx} {EX : EXT} {G0 G : Gh} {H0 H : Hp} {pins : List (Addr × Obj)} {σ : L2.St} {S : S} {s : Shared} {k n : Nat} {f C : Addr} {fd : FuncData} {ps ks : List Str} {F : FXp} {vs zs : List V} {us ws : List Value} {svs : List SV} {Qs : SV → Prop} {Qx : XP} {Q : VK} {ix : List Nat}
theorem xof_take (tk : Lk X EX G0 H0) (R : Rel G0 H0 G H σ S) (kx : ∀ C fs, Qx C fs → EX C fs S) (cls : Value) (d : Option Addr) (H' : Hp) (h : XOf G H Qx cls d H') : WV EX G0 H0 cls d σ H' := by
  obtain ⟨C, dx, fs, ws, G', e1, e2, E', e3, e4, q⟩ := h
  exact ⟨G', S, C, dx, fs, ws, e1, e2, R.go E', e3, e4, kx C fs q⟩
theorem run_cx {args : Args} (Fn : FnOk X.prog X.w X.K X.mg X.base (L2.CX X.prog X.w) k f fd ps (spX X.K F)) (hr : Room k X.A) (tk : Lk X EX G0 H0) (I : Inv X pins σ H s) (R : Rel G0 H0 G H σ S) (rl : RepL H H G H vs svs) (ha : ∀ sv ∈ svs, sv.isArg) (hF : F svs Qs Qx)
    (hb : BindsTo s fd args (ps.zip us)) (rv : Vals vs us) (kq : ∀ v H' G' sv, Ext G H G' H' → RepV H H G' H' v sv → sv.isRet → Qs sv → Q v H') (kx : ∀ C fs, Qx C fs → EX C fs S) :
    codeAny (model X.prog X.w) X.A (.call (.ref f) args) (fun r s' => match r with | .ok (.ret u) => EP X pins σ Q u s' | .ok _ => False | .error e => X.xe e s') s := by
  refine codeAny_mono (Fn.run X.A X.stack s H args us vs Q (XOf G H Qx) hr I.env0 hb rv ⟨G, svs, Qs, Qx, ⟨R.ok, tk.tt R (.refl R.ok)⟩, rl, ha, hF, kq, fun _ _ _ z => z⟩) fun r s' hq => ?_
  cases r with
  | error e => exact tk.takes e s' (XE.of_call I (xof_take tk R kx) hq)
  | ok fl =>
    cases fl with
    | ret u => exact I.after hq
    | next => exact False.elim hq
    | brk => exact False.elim hq
    | cont => exact False.elim hq
theorem call_of_code {fv : Value} {pos : List Value} {kw : List (Str × Value)} (h : codeAny (model X.prog X.w) X.A (.call fv ⟨pos, kw⟩) (fun r s' => match r with | .ok (.ret u) => EP X pins σ Q u s' | .ok _ => False | .error e => X.xe e s') s) : wpAny (model X.prog X.w) X.A (call fv pos kw) (EP X pins σ Q) X.xe s := by
  refine wpAny_call (codeAny_mono h fun r s' hq => ?_)
  cases r with
  | error e => exact hq
  | ok fl =>
    cases fl with
    | ret u => exact hq
    | next => exact False.elim hq
    | brk => exact False.elim hq
    | cont => exact False.elim hq
end
end VT

namespace VT
open PySem PySem.Spec PyProof.Rows L2

/-! ### arguments, positional and by keywords, then the call -/
/-- what the reader of a value that is called needs -/
def Keeps (X : Cx) (fv : Value) (P : Heap → Prop) : Prop := ∀ h, P h → ∃ k, (k = Keeper.frame ∨ k = Keeper.machine ∨ k = Keeper.boundFrame) ∧ PySem.W.Looks (model X.prog X.w) h (keeperOf fv) k
theorem keepsK {X : Cx} {fv : Value} (h : PySem.W.keepIn X.K fv = true) : Keeps X fv X.K.In := fun _ k => PySem.W.keeps_K h _ k
section
variable {X : Cx} {EX : EXT} {G0 G : Gh} {H0 H : Hp} {pins : List (Addr × Obj)} {σ : L2.St} {S : S} {s : Shared} {e : Expr} {es : List Expr} {kws : List Keyword} {ga gk : GA} {fv : Value} {first : List Value} {P : Heap → Prop} {pos : Pos} {ks : List Str} {Z : List SV → List SV → Prop} {Qv : Value → Shared → Prop}
theorem args_run (hP : Keeps X fv P) (ha : VA X EX (e :: es) ga) (hkw : VKw X EX kws gk) (hall : (backToKw pos (keywordEach kws X.env)).all (·.1.isSome) = true) (hks : (backToKw pos (keywordEach kws X.env)).filterMap (·.1) = ks)
    (he : starEach (e :: es) X.env = (false, eval e X.env) :: starEach es X.env) (hpl : ((backTo pos (starEach (e :: es) X.env)).any (·.1) || (backToKw pos (keywordEach kws X.env)).any (·.1.isNone)) = false)
    (tk : Lk X EX G0 H0) (I : Inv X pins σ H s) (R : Rel G0 H0 G H σ S) (q : ga S fun svs => gk S fun kvs => Z svs kvs)
    (hc : ∀ (us ws : List Value) (vs zs : List V) (svs kvs : List SV) (G1 G2 : Gh) (H1 H2 : Hp) (s2 : Shared), Ext G H G1 H1 → RepL H0 H G1 H1 vs svs → Ext G1 H1 G2 H2 → RepL H0 H1 G2 H2 zs kvs → Z svs kvs → Inv X pins σ H2 s2 → Vals vs us → Vals zs ws →
      P s2.heap ∧ wpAny (model X.prog X.w) X.A (call fv (first ++ us) (ks.zip ws)) Qv X.xe s2) :
    wpAny (model X.prog X.w) X.A (callWith pos fv first (backTo pos (starEach (e :: es) X.env)) (backToKw pos (keywordEach kws X.env))) Qv X.xe s := by
  refine PySem.W.callWith_of hpl hP (evalArgs_kw2 hall ?_ he)
  refine thn ((ha.pa G0 H0 tk).run pos pins s σ H (fun vs H1 => ∃ G1 svs, Ext G H G1 H1 ∧ RepL H0 H G1 H1 vs svs ∧ gk S fun kvs => Z svs kvs) I ⟨G, S, _, R, q, fun vs H1 G1 svs E1 r1 q1 => ⟨G1, svs, E1, r1, q1⟩⟩) fun us s1 ⟨vs, H1, I1, rv, G1, svs, E1, r1, q1⟩ => ?_
  refine thn ((hkw.pk G0 H0 tk).run pos pins s1 σ H1 (fun zs H2 => ∃ G2 kvs, Ext G1 H1 G2 H2 ∧ RepL H0 H1 G2 H2 zs kvs ∧ Z svs kvs) I1 ⟨G1, S, _, R.go E1, q1, fun zs H2 G2 kvs E2 r2 q2 => ⟨G2, kvs, E2, r2, q2⟩⟩) fun ws s2 ⟨zs, H2, I2, rz, G2, kvs, E2, r2, q2⟩ => ?_
  have z := hc us ws vs zs svs kvs G1 G2 H1 H2 s2 E1 r1 E2 r2 q2 I2 rv rz
  refine ⟨z.1, ?_⟩
  rw [hks]
  exact z.2
theorem args_run0 (hP : Keeps X fv P) (hkw : VKw X EX kws gk) (hall : (backToKw pos (keywordEach kws X.env)).all (·.1.isSome) = true) (hks : (backToKw pos (keywordEach kws X.env)).filterMap (·.1) = ks)
    (hpl : ((backTo pos (starEach [] X.env)).any (·.1) || (backToKw pos (keywordEach kws X.env)).any (·.1.isNone)) = false)
    (tk : Lk X EX G0 H0) (I : Inv X pins σ H s) (R : Rel G0 H0 G H σ S) (q : gk S fun kvs => Z [] kvs)
    (hc : ∀ (ws : List Value) (zs : List V) (kvs : List SV) (G2 : Gh) (H2 : Hp) (s2 : Shared), Ext G H G2 H2 → RepL H0 H G2 H2 zs kvs → Z [] kvs → Inv X pins σ H2 s2 → Vals zs ws →
      P s2.heap ∧ wpAny (model X.prog X.w) X.A (call fv (first ++ []) (ks.zip ws)) Qv X.xe s2) :
    wpAny (model X.prog X.w) X.A (callWith pos fv first (backTo pos (starEach [] X.env)) (backToKw pos (keywordEach kws X.env))) Qv X.xe s := by
  refine PySem.W.callWith_of hpl hP (evalArgs_kw2_nil hall ?_)
  refine thn ((hkw.pk G0 H0 tk).run pos pins s σ H (fun zs H2 => ∃ G2 kvs, Ext G H G2 H2 ∧ RepL H0 H G2 H2 zs kvs ∧ Z [] kvs) I ⟨G, S, _, R, q, fun zs H2 G2 kvs E2 r2 q2 => ⟨G2, kvs, E2, r2, q2⟩⟩) fun ws s2 ⟨zs, H2, I2, rz, G2, kvs, E2, r2, q2⟩ => ?_
  have z := hc ws zs kvs G2 H2 s2 E2 r2 q2 I2 rz
  refine ⟨z.1, ?_⟩
  rw [hks]
  exact z.2
end

/-! ### f(..) -/
@[simp] def gCX (EX : EXT) (F : FXp) (n m : Nat) (ix : List Nat) (dd : List D) (ga gk : GA) : GE := fun S Q => ga S fun svs => gk S fun kvs => svs.length = n ∧ kvs.length = m ∧ F (arr ix (svs.map SV.arg ++ kvs.map SV.arg ++ dd.map SV.tr)) Q fun C fs => EX C fs S
section
variable {X : Cx} {EX : EXT} {G0 G G1 G2 : Gh} {H0 H H1 H2 : Hp} {pins : List (Addr × Obj)} {σ : L2.St} {S : S} {k n : Nat} {f : Addr} {fd : FuncData} {ps ks : List Str} {F : FXp} {dd : List D} {dvs : List V} {x : Str} {p pos : Pos} {e : Expr} {es : List Expr} {ga gk : GA} {kws : List Keyword} {ix : List Nat} {vs zs : List V} {svs kvs : List SV} {Qs : SV → Prop} {Q : VK}
/-- the arguments of a call, as the callee holds them -/
theorem args_at (hw : Wrts dd dvs) (E2 : Ext G1 H1 G2 H2) (r1 : RepL H0 H G1 H1 vs svs) (r2 : RepL H0 H1 G2 H2 zs kvs) : RepL H2 H2 G2 H2 (arr ix (vs ++ zs ++ dvs)) (arr ix (svs.map SV.arg ++ kvs.map SV.arg ++ dd.map SV.tr)) ∧ ∀ sv ∈ arr ix (svs.map SV.arg ++ kvs.map SV.arg ++ dd.map SV.tr), sv.isArg := by
  obtain ⟨a1, a2⟩ := (r1.ext E2).toArg
  obtain ⟨b1, b2⟩ := r2.toArg
  have dt : ∀ sv ∈ dd.map SV.tr, sv.isArg := fun sv h => by obtain ⟨d, _, rfl⟩ := List.mem_map.mp h; trivial
  have ab : ∀ sv ∈ svs.map SV.arg ++ kvs.map SV.arg, sv.isArg := fun sv h => (List.mem_append.mp h).elim (a2 sv) (b2 sv)
  exact ((a1.append b1 a2).append hw.repl ab).arr (fun sv h => (List.mem_append.mp h).elim (ab sv) (dt sv)) ix
theorem kq_call (R : Rel G0 H0 G H σ S) (E : Ext G H G1 H1) (kq : KQ H0 G H Qs Q) : ∀ v H' G' sv, Ext G1 H1 G' H' → RepV H1 H1 G' H' v sv → sv.isRet → Qs sv → Q v H' := fun v H' G' sv E' r' ir q' =>
  kq v H' G' sv (E.trans E') (RepV.call (fun b z => E.dom z) ir r') q'
variable {d : He.DefD}
theorem ve_cx (Fn : FnX X.prog X.w X.K X.mg X.base d f k ps F) (hr : Room k X.A) (hm : X.mg x = some (.ref f)) (hb : ∀ fd cl, FG X.K d.name d.qual d.params d.body d.scope cl (d.dvs X.K) (d.kws X.K) f fd → KBi X.K fd ps n ks ix dvs) (hw : Wrts dd dvs) (hg : Gl X x)
    (ha : VA X EX (e :: es) ga) (hkw : VKw X EX kws gk) (hall : (backToKw pos (keywordEach kws X.env)).all (·.1.isSome) = true := by rfl) (hks : (backToKw pos (keywordEach kws X.env)).filterMap (·.1) = ks := by rfl)
    (hdb : (x == ("__debug__" : Str)) = false := by decide) (he : starEach (e :: es) X.env = (false, eval e X.env) :: starEach es X.env := by rfl)
    (hpl : ((backTo pos (starEach (e :: es) X.env)).any (·.1) || (backToKw pos (keywordEach kws X.env)).any (·.1.isNone)) = false := by rfl) :
    VE X EX (.Call (.Name x p) (e :: es) kws pos) (gCX EX F n ks.length ix dd ga gk) := by
  obtain ⟨fd, cl, hf, hF⟩ := Fn.ex
  obtain ⟨ds, rd, hto⟩ := (hb fd cl hf).to
  refine ⟨fun G0 H0 tk => ⟨fun pins s σ H Q I h => ?_⟩⟩
  obtain ⟨G, S, Qs, R, q, kq⟩ := h
  refine wpAny_Call_Name_kw (ld_glob I hg hm ?_ hdb)
  refine args_run (first := []) (keepsK hf.kp) ha hkw hall hks he hpl tk I R q fun us ws vs zs svs kvs G1 G2 H1 H2 s2 E1 r1 E2 r2 ⟨l1, l2, q2⟩ I2 rv rz => ⟨I2.kIn, ?_⟩
  obtain ⟨c1, c2⟩ := args_at (ix := ix) hw E2 r1 r2
  exact call_of_code (run_cx hF hr tk I2 ((R.go E1).go E2) c1 c2 q2 (hto s2 us ws I2.kIn (rv.length.symm.trans (r1.length.trans l1)) (rz.length.symm.trans (r2.length.trans l2))) (vals_arr ix ((rv.append rz).append rd)) (kq_call R (E1.trans E2) kq) fun _ _ z => z)
theorem ve_cx0 (Fn : FnX X.prog X.w X.K X.mg X.base d f k ps F) (hr : Room k X.A) (hm : X.mg x = some (.ref f)) (hb : ∀ fd cl, FG X.K d.name d.qual d.params d.body d.scope cl (d.dvs X.K) (d.kws X.K) f fd → KBi X.K fd ps 0 ks ix dvs) (hw : Wrts dd dvs) (hg : Gl X x)
    (hkw : VKw X EX kws gk) (hall : (backToKw pos (keywordEach kws X.env)).all (·.1.isSome) = true := by rfl) (hks : (backToKw pos (keywordEach kws X.env)).filterMap (·.1) = ks := by rfl)
    (hdb : (x == ("__debug__" : Str)) = false := by decide)
    (hpl : ((backTo pos (starEach [] X.env)).any (·.1) || (backToKw pos (keywordEach kws X.env)).any (·.1.isNone)) = false := by rfl) :
    VE X EX (.Call (.Name x p) [] kws pos) (gCX EX F 0 ks.length ix dd gaNil gk) := by
  obtain ⟨fd, cl, hf, hF⟩ := Fn.ex
  obtain ⟨ds, rd, hto⟩ := (hb fd cl hf).to
  refine ⟨fun G0 H0 tk => ⟨fun pins s σ H Q I h => ?_⟩⟩
  obtain ⟨G, S, Qs, R, q, kq⟩ := h
  refine wpAny_Call_Name_kw (ld_glob I hg hm ?_ hdb)
  refine args_run0 (first := []) (Z := fun svs kvs => svs.length = 0 ∧ kvs.length = ks.length ∧ F (arr ix (svs.map SV.arg ++ kvs.map SV.arg ++ dd.map SV.tr)) Qs fun C fs => EX C fs S) (keepsK hf.kp) hkw hall hks hpl tk I R q fun ws zs kvs G2 H2 s2 E2 r2 ⟨_, l2, q2⟩ I2 rz => ⟨I2.kIn, ?_⟩
  obtain ⟨c1, c2⟩ := args_at (ix := ix) (vs := []) (svs := []) (H := H) hw E2 .nil r2
  exact call_of_code (run_cx hF hr tk I2 (R.go E2) c1 c2 q2 (hto s2 [] ws I2.kIn rfl (rz.length.symm.trans (r2.length.trans l2))) (vals_arr ix ((Vals.append (xs := []) (us := []) .nil rz).append rd)) (kq_call R E2 kq) fun _ _ z => z)
end
end VT

namespace VT
open PySem PySem.Spec PyProof.Rows L2

/-! ### __init__ that may raise -/
def spIniX (K : PySem.W.Frag) (C : Addr) (F : FXp) : Sp := fun vs H Q E => ∃ G H1 x dx vs' svs Qs Qx, H = upd (upd H1 dx (.own x)) x (.ins C dx []) ∧ H1 x = none ∧ H1 dx = none ∧ dx ≠ x ∧ (OkG G H1 ∧ G.T = TabsOf K) ∧ vs = .ref x :: vs' ∧ RepL H1 H1 G H1 vs' svs ∧ (∀ sv ∈ svs, sv.isArg) ∧ F svs Qs Qx ∧
  (∀ H' G' fs, Ext G H1 G' H' → RepV H1 H1 G' H' (.ref x) (.obj x C fs) → Qs (.tr (.ins C (frzF fs))) → Q .non H') ∧ ∀ cls d H', XOf G H1 Qx cls d H' → E cls d H'
structure IniX (P : Program) (w : World) (K : PySem.W.Frag) (mg : Str → Option Value) (base : Heap) (d : He.DefD) (C f : Addr) (k : Nat) (ps : List Str) (F : FXp) : Prop where
  ex : ∃ fd cl, FG K d.name d.qual d.params d.body d.scope cl (d.dvs K) (d.kws K) f fd ∧ FnOk P w K mg base (L2.CX P w) k f fd ps (spIniX K C F)
section
variable {P : Program} {w : World} {K : PySem.W.Frag} {mg : Str → Option Value} {base : Heap} {d : He.DefD} {C f : Addr} {j k : Nat} {N ps : List Str} {F F' : FXp} {g : EXT → GS}
theorem IniX.mono (h : IniX P w K mg base d C f j ps F) (hj : j ≤ k) : IniX P w K mg base d C f k ps F := by
  obtain ⟨fd, cl, hf, hk⟩ := h
  exact ⟨fd, cl, hf, hk.mono hj⟩
theorem IniX.imp (h : IniX P w K mg base d C f k ps F) (hF : ∀ svs Q Qx, F' svs Q Qx → F svs Q Qx) : IniX P w K mg base d C f k ps F' := by
  obtain ⟨fd, cl, hf, hk⟩ := h
  exact ⟨fd, cl, hf, hk.imp fun vs H Q E ⟨G, H1, x, dx, vs', svs, Qs, Qx, e1, e2, e3, e4, ok, ev, r, ha, q, z⟩ => ⟨G, H1, x, dx, vs', svs, Qs, Qx, e1, e2, e3, e4, ok, ev, r, ha, hF _ _ _ q, z⟩⟩
/-- what the body of an __init__ must come to -/
abbrev iniE (C xa : Addr) (Qs : SV → Prop) : VEnds := { nx := fun S => ∃ fs, S[0]? = some (some (.obj xa C fs)) ∧ Qs (.tr (.ins C (frzF fs))), rt := fun _ => False }
theorem inix_ok (hf : ∃ fd, FunD K d.name d.qual d.params d.body d.scope (d.dvs K) (d.kws K) f fd) (Sc : FnScope N ps d.scope)
    (hbody : ∀ (EX : EXT) (cdv : Value) (A : Around) (outer : List Env) (s : Shared) (H : Hp) (E : XK), Room k (A.deeper (envOfC d.qual d.scope s.heap.objs.size f cdv)) → VSs (cxOf (L2.CX P w) P w K mg base N d.qual d.scope f cdv A outer s H E) EX d.body (g EX))
    (len : ∀ svs Qs Qx, F svs Qs Qx → svs.length + 1 = ps.length) (spec : ∀ xa svs Qs Qx, F svs Qs Qx → g (fun C fs _ => Qx C fs) (iniE C xa Qs) (startS N (.obj xa C [] :: svs))) : IniX P w K mg base d C f (k + 1) ps F := by
  obtain ⟨fd, hf⟩ := hf
  refine ⟨fd, [], .of hf, hf.ok Sc (fun vs H Q E ⟨G, H1, xa, dx, vs', svs, Qs, Qx, _, _, _, _, _, ev, r, _, h, _⟩ => by rw [ev, List.length_cons, r.length]; exact len _ _ _ h) (fun cdv A outer s H vs Q E hr h => ?_)⟩
  obtain ⟨G, H1, xa, dx, vs', svs, Qs, Qx, eH, hx, hd, hne, ok, ev, r, ha, hF, z, zx⟩ := h
  have tk : Lk (cxOf (L2.CX P w) P w K mg base N d.qual d.scope f cdv A outer s H E) (fun C fs _ => Qx C fs) G H1 :=
    ⟨(takes_of rfl rfl rfl rfl).imp fun cls d σ H' ⟨G', S, C, dx, fs, ws, e1, e2, R, e3, e4, q⟩ => zx _ _ _ ⟨C, dx, fs, ws, G', e1, e2, R.ext, e3, e4, q⟩, ok.2⟩
  refine ⟨TSV G H1 (g _), (hbody _ cdv A outer s H E hr).pss _ _ tk, ?_⟩
  subst eH ev
  refine ⟨G, _, _, Rel.startI (N := N) ok.1 hx hd hne r ha, spec xa svs Qs Qx hF, fun σ' H' G' S' R' _ q => ?_, fun v H' G' sv E' r' ir q => q.elim, fun σ' H' G' S' R' _ q => q.elim, fun σ' H' G' S' R' _ q => q.elim⟩
  obtain ⟨fs, e0, q⟩ := q
  obtain ⟨v, ev, rv⟩ := R'.slot 0 _ e0
  have e1 : v = .ref xa := by
    obtain ⟨a, _, _, e, _, _, _, _, _, _, hq⟩ := rv
    rw [e, hq]
  rw [e1] at rv
  exact z H' G' fs R'.ext rv q
end
section
variable {X : Cx} {EX : EXT} {G0 G G1 G2 : Gh} {H0 H H1 H2 : Hp} {pins : List (Addr × Obj)} {σ : L2.St} {S : S} {s : Shared} {k n : Nat} {f C : Addr} {fd : FuncData} {ps ks : List Str} {F : FXp} {dd : List D} {dvs : List V} {x m : Str} {p pos apos : Pos} {e o : Expr} {es : List Expr} {ga gk : GA} {go : GE} {kws : List Keyword} {ix : List Nat} {vs : List V} {us ws : List Value} {svs : List SV} {Qs : SV → Prop} {Qx : XP} {Q : VK} {d : He.DefD}
/-- C(..) at what it is told: the object is frozen -/
theorem run_mx (M : Mk X.K C f) (Fn : FnOk X.prog X.w X.K X.mg X.base (L2.CX X.prog X.w) k f fd ps (spIniX X.K C F)) (hr : Room (k + 1) X.A) (tk : Lk X EX G0 H0) (I : Inv X pins σ H s) (R : Rel G0 H0 G H σ S) (rl : RepL H H G H vs svs) (ha : ∀ sv ∈ svs, sv.isArg) (hF : F svs Qs Qx) {us' : List Value}
    (hb : ∀ u, BindsTo { s with heap := (s.heap.push PySem.W.emptyDict).push (PySem.W.instObj C s.heap.objs.size) } fd ⟨u :: us, ks.zip ws⟩ (ps.zip (u :: us'))) (rv : Vals vs us') (kq : ∀ v H' G' sv, Ext G H G' H' → RepV H H G' H' v sv → sv.isRet → Qs sv → Q v H') (kx : ∀ C fs, Qx C fs → EX C fs S) :
    wpAny (model X.prog X.w) X.A (call (.ref C) us (ks.zip ws)) (EP X pins σ Q) X.xe s := by
  have hx : H (s.heap.objs.size + 1) = none := I.hok.fresh (Nat.le_succ _)
  have hd : H s.heap.objs.size = none := I.hok.fresh (Nat.le_refl _)
  have hne : s.heap.objs.size ≠ s.heap.objs.size + 1 := Nat.ne_of_lt (Nat.lt_succ_self _)
  have I2 := Inv.made (C := C) I
  obtain ⟨Em, rm⟩ := ext_made (C := C) R.ok hx hd hne
  refine wpAny_call (make_map (f := f) I.kIn M.makes M.init (beq_iff_eq.mp M.fn) (codeAny_mono (Fn.run _ X.stack _ _ ⟨Value.ref (s.heap.objs.size + 1) :: us, ks.zip ws⟩ (Value.ref (s.heap.objs.size + 1) :: us') (V.ref (s.heap.objs.size + 1) :: vs)
    (fun v H2 => v = .non ∧ Q (.ref (s.heap.objs.size + 1)) H2) (XOf G H Qx) (hr.make C us (ks.zip ws)) (I2.env0.make C us (ks.zip ws)) (hb _) (.cons rfl rv) ⟨G, H, _, _, vs, svs, Qs, Qx, rfl, hx, hd, hne, ⟨R.ok, tk.tt R (.refl R.ok)⟩, rfl, rl, ha, hF, fun H' G' fs E' r' q' => ⟨rfl, ?_⟩, fun _ _ _ z => z⟩) fun r s' hq' => ?_))
  · obtain ⟨G2, E2, _, r2⟩ := obj_freeze E' r'
    exact kq _ H' G2 (.tr (.ins C (frzF fs))) E2 r2 trivial q'
  cases r with
  | error e =>
    exact tk.takes e s' (XE.of_call I2 (fun cls d H' ⟨C', dx, fs, ws, G', e1, e2, E', e3, e4, q⟩ => ⟨G', S, C', dx, fs, ws, e1, e2, R.go E', e3, e4, kx C' fs q⟩) hq')
  | ok fl =>
    cases fl with
    | ret u =>
      obtain ⟨v, H', I3, rv, ev, q3⟩ := I2.after hq'
      subst ev
      exact ⟨rv, ⟨V.ref (s.heap.objs.size + 1), H', I3, rfl, q3⟩⟩
    | next => exact False.elim hq'
    | brk => exact False.elim hq'
    | cont => exact False.elim hq'
end
end VT

namespace VT
open PySem PySem.Spec PyProof.Rows L2

/-! ### C(..), o.m(..) -/
theorem arr_self {α : Type} (a : α) (l : List α) (ix : List Nat) : arr (0 :: ix.map (· + 1)) (a :: l) = a :: arr ix l := arr_zero a l ix
/-- one class that a method's object may be of -/
structure MAlt (X : Cx) (m : Str) (k n : Nat) (ks : List Str) (ix : List Nat) (dd : List D) (C : Addr) (F : FXp) : Prop where
  cls : Cls X.K C
  ex : ∃ f d ps dvs, Meth X.K C m f ∧ FnX X.prog X.w X.K X.mg X.base d f k ps F ∧ (∀ fd cl, FG X.K d.name d.qual d.params d.body d.scope cl (d.dvs X.K) (d.kws X.K) f fd → KBi X.K fd ps (n + 1) ks (0 :: ix.map (· + 1)) dvs) ∧ Wrts dd dvs
/-- alts: the classes and what the method answers there -/
def gMX (EX : EXT) (m : Str) (alts : List (Addr × FXp)) (n l : Nat) (ix : List Nat) (dd : List D) (go : GE) (ga gk : GA) : GE := fun S Q => go S fun so => ∃ C fs F, so.ins? = some (C, fs) ∧ (C, F) ∈ alts ∧ fs.lookup m = none ∧
  ga S fun svs => gk S fun kvs => svs.length = n ∧ kvs.length = l ∧ F (so.arg :: arr ix (svs.map SV.arg ++ kvs.map SV.arg ++ dd.map SV.tr)) Q fun C fs => EX C fs S
section
variable {X : Cx} {EX : EXT} {k n : Nat} {f C : Addr} {ps ks : List Str} {F : FXp} {dd : List D} {dvs : List V} {x m : Str} {p pos apos : Pos} {e o : Expr} {es : List Expr} {ga gk : GA} {go : GE} {kws : List Keyword} {ix : List Nat} {d : He.DefD} {alts : List (Addr × FXp)}
theorem ve_mkx (M : Mk X.K C f) (Fn : IniX X.prog X.w X.K X.mg X.base d C f k ps F) (hr : Room (k + 1) X.A) (hm : X.mg x = some (.ref C)) (hb : ∀ fd cl, FG X.K d.name d.qual d.params d.body d.scope cl (d.dvs X.K) (d.kws X.K) f fd → KBi X.K fd ps (n + 1) ks (0 :: ix.map (· + 1)) dvs) (hw : Wrts dd dvs) (hg : Gl X x)
    (ha : VA X EX (e :: es) ga) (hkw : VKw X EX kws gk) (hps : ∃ p0 r, ps = p0 :: r := by exact ⟨_, _, rfl⟩) (hall : (backToKw pos (keywordEach kws X.env)).all (·.1.isSome) = true := by rfl) (hks : (backToKw pos (keywordEach kws X.env)).filterMap (·.1) = ks := by rfl)
    (hdb : (x == ("__debug__" : Str)) = false := by decide) (he : starEach (e :: es) X.env = (false, eval e X.env) :: starEach es X.env := by rfl)
    (hpl : ((backTo pos (starEach (e :: es) X.env)).any (·.1) || (backToKw pos (keywordEach kws X.env)).any (·.1.isNone)) = false := by rfl) :
    VE X EX (.Call (.Name x p) (e :: es) kws pos) (gCX EX F n ks.length ix dd ga gk) := by
  obtain ⟨fd, cl, hf, hF⟩ := Fn.ex
  obtain ⟨ds, rd, hto⟩ := (hb fd cl hf).to
  refine ⟨fun G0 H0 tk => ⟨fun pins s σ H Q I h => ?_⟩⟩
  obtain ⟨G, S, Qs, R, q, kq⟩ := h
  refine wpAny_Call_Name_kw (ld_glob I hg hm ?_ hdb)
  refine args_run (first := []) (keepsK M.kp) ha hkw hall hks he hpl tk I R q fun us ws vs zs svs kvs G1 G2 H1 H2 s2 E1 r1 E2 r2 ⟨l1, l2, q2⟩ I2 rv rz => ⟨I2.kIn, ?_⟩
  obtain ⟨c1, c2⟩ := args_at (ix := ix) hw E2 r1 r2
  refine run_mx M hF hr tk I2 ((R.go E1).go E2) c1 c2 q2 (us' := arr ix (us ++ ws ++ ds)) (fun u => ?_) (vals_arr ix ((rv.append rz).append rd)) (kq_call R (E1.trans E2) kq) fun _ _ z => z
  have h3 := hto { s2 with heap := (s2.heap.push PySem.W.emptyDict).push (PySem.W.instObj C s2.heap.objs.size) } (u :: us) ws (Inv.made (C := C) I2).kIn (by rw [List.length_cons, rv.length.symm.trans (r1.length.trans l1)]) (rz.length.symm.trans (r2.length.trans l2))
  rw [show (u :: us) ++ ws ++ ds = u :: (us ++ ws ++ ds) from rfl, arr_self] at h3
  exact h3
theorem ve_mkx0 (M : Mk X.K C f) (Fn : IniX X.prog X.w X.K X.mg X.base d C f k ps F) (hr : Room (k + 1) X.A) (hm : X.mg x = some (.ref C)) (hb : ∀ fd cl, FG X.K d.name d.qual d.params d.body d.scope cl (d.dvs X.K) (d.kws X.K) f fd → KBi X.K fd ps (0 + 1) ks (0 :: ix.map (· + 1)) dvs) (hw : Wrts dd dvs) (hg : Gl X x)
    (hkw : VKw X EX kws gk) (hall : (backToKw pos (keywordEach kws X.env)).all (·.1.isSome) = true := by rfl) (hks : (backToKw pos (keywordEach kws X.env)).filterMap (·.1) = ks := by rfl)
    (hdb : (x == ("__debug__" : Str)) = false := by decide)
    (hpl : ((backTo pos (starEach [] X.env)).any (·.1) || (backToKw pos (keywordEach kws X.env)).any (·.1.isNone)) = false := by rfl) :
    VE X EX (.Call (.Name x p) [] kws pos) (gCX EX F 0 ks.length ix dd gaNil gk) := by
  obtain ⟨fd, cl, hf, hF⟩ := Fn.ex
  obtain ⟨ds, rd, hto⟩ := (hb fd cl hf).to
  refine ⟨fun G0 H0 tk => ⟨fun pins s σ H Q I h => ?_⟩⟩
  obtain ⟨G, S, Qs, R, q, kq⟩ := h
  refine wpAny_Call_Name_kw (ld_glob I hg hm ?_ hdb)
  refine args_run0 (first := []) (Z := fun svs kvs => svs.length = 0 ∧ kvs.length = ks.length ∧ F (arr ix (svs.map SV.arg ++ kvs.map SV.arg ++ dd.map SV.tr)) Qs fun C fs => EX C fs S) (keepsK M.kp) hkw hall hks hpl tk I R q fun ws zs kvs G2 H2 s2 E2 r2 ⟨_, l2, q2⟩ I2 rz => ⟨I2.kIn, ?_⟩
  obtain ⟨c1, c2⟩ := args_at (ix := ix) (vs := []) (svs := []) (H := H) hw E2 .nil r2
  refine run_mx M hF hr tk I2 (R.go E2) c1 c2 q2 (us' := arr ix ([] ++ ws ++ ds)) (fun u => ?_) (vals_arr ix ((Vals.append (xs := []) (us := []) .nil rz).append rd)) (kq_call R E2 kq) fun _ _ z => z
  have h3 := hto { s2 with heap := (s2.heap.push PySem.W.emptyDict).push (PySem.W.instObj C s2.heap.objs.size) } [u] ws (Inv.made (C := C) I2).kIn rfl (rz.length.symm.trans (r2.length.trans l2))
  rw [show [u] ++ ws ++ ds = u :: ([] ++ ws ++ ds) from rfl, arr_self] at h3
  exact h3
/-- the object and the arguments, as the callee holds them -/
theorem self_at {H0 Ha H1 H2 : Hp} {G1 G2 : Gh} {v : V} {sv : SV} {vs : List V} {svs : List SV} (r : RepV H0 Ha G1 H1 v sv) (E : Ext G1 H1 G2 H2) (c1 : RepL H2 H2 G2 H2 vs svs) (c2 : ∀ sv ∈ svs, sv.isArg) : RepL H2 H2 G2 H2 (v :: vs) (sv.arg :: svs) ∧ ∀ s ∈ sv.arg :: svs, s.isArg := by
  obtain ⟨a1, a2⟩ := (r.ext E).toArg
  refine ⟨.cons a1 c1 fun b o => (a2.none o).elim, fun s h => ?_⟩
  rcases List.mem_cons.mp h with rfl | h
  · exact a2
  · exact c2 s h
theorem ve_mtx {pl : Sem Bool} (hal : ∀ C F, (C, F) ∈ alts → MAlt X m k n ks ix dd C F) (hr : Room k X.A) (ho : VE X EX o go) (ha : VA X EX (e :: es) ga) (hkw : VKw X EX kws gk) (hall : (backToKw pos (keywordEach kws X.env)).all (·.1.isSome) = true := by rfl)
    (hks : (backToKw pos (keywordEach kws X.env)).filterMap (·.1) = ks := by rfl) (he : starEach (e :: es) X.env = (false, eval e X.env) :: starEach es X.env := by rfl)
    (hpl : ((backTo pos (starEach (e :: es) X.env)).any (·.1) || (backToKw pos (keywordEach kws X.env)).any (·.1.isNone)) = false := by rfl)
    (ht : eval (.Call (.Attribute o m apos) (e :: es) kws pos) X.env = (do
      let ov ← eval o X.env
      standAt apos.atName
      let (f, first) ← holding [ov] (getMethod ov m pl)
      callWith pos f first (backTo pos (starEach (e :: es) X.env)) (backToKw pos (keywordEach kws X.env))) := by rfl) :
    VE X EX (.Call (.Attribute o m apos) (e :: es) kws pos) (gMX EX m alts n ks.length ix dd go ga gk) := by
  refine ⟨fun G0 H0 tk => ⟨fun pins s σ H Q I h => ?_⟩⟩
  obtain ⟨G, S, Qs, R, q, kq⟩ := h
  refine PySem.W.methodCall_KW (pl := pl) (thn ((ho.pe G0 H0 tk).run pins s σ H (fun v H1 => ∃ G1 so, Ext G H G1 H1 ∧ RepV H0 H G1 H1 v so ∧ ∃ C fs F, so.ins? = some (C, fs) ∧ (C, F) ∈ alts ∧ fs.lookup m = none ∧
    ga S fun svs => gk S fun kvs => svs.length = n ∧ kvs.length = ks.length ∧ F (so.arg :: arr ix (svs.map SV.arg ++ kvs.map SV.arg ++ dd.map SV.tr)) Qs fun C fs => EX C fs S) I ⟨G, S, _, R, q, fun v H1 G1 so E1 r1 q1 => ⟨G1, so, E1, r1, q1⟩⟩) fun u s1 ⟨v, H1, I1, rv1, Ga, so, Ea, ra, C, fs, F, hi, hA, hn, q1⟩ => ?_) ht
  obtain ⟨hc, f, d, ps, dvs, hmt, Fn, hb, hw⟩ := hal C F hA
  obtain ⟨fd, cl, hf, hF⟩ := Fn.ex
  obtain ⟨ds, rd, hto⟩ := (hb fd cl hf).to
  obtain ⟨a, dx, wf, ev, ea, hl⟩ := ra.insNone Ea.ok hi hn
  subst ev
  obtain rfl : u = Value.ref a := rv1
  refine getmeth_ok I1 ea hc hmt hl ?_
  refine args_run (first := [.ref a]) (keepsK hmt.kp) ha hkw hall hks he hpl tk I1 (R.go Ea) q1 fun us ws vs zs svs kvs G1 G2 H1' H2 s2 E1 r1 E2 r2 ⟨l1, l2, q2⟩ I2 rv rz => ⟨I2.kIn, ?_⟩
  obtain ⟨c1, c2⟩ := args_at (ix := ix) hw E2 r1 r2
  obtain ⟨e1, e2⟩ := self_at ra (E1.trans E2) c1 c2
  have h3 := hto s2 (.ref a :: us) ws I2.kIn (by rw [List.length_cons, rv.length.symm.trans (r1.length.trans l1)]) (rz.length.symm.trans (r2.length.trans l2))
  rw [show (Value.ref a :: us) ++ ws ++ ds = Value.ref a :: (us ++ ws ++ ds) from rfl, arr_self] at h3
  exact call_of_code (run_cx hF hr tk I2 (((R.go Ea).go E1).go E2) e1 e2 q2 h3 (.cons rfl (vals_arr ix ((rv.append rz).append rd))) (kq_call R (Ea.trans (E1.trans E2)) kq) fun _ _ z => z)
theorem ve_mtx0 {pl : Sem Bool} (hal : ∀ C F, (C, F) ∈ alts → MAlt X m k 0 ks ix dd C F) (hr : Room k X.A) (ho : VE X EX o go) (hkw : VKw X EX kws gk) (hall : (backToKw pos (keywordEach kws X.env)).all (·.1.isSome) = true := by rfl)
    (hks : (backToKw pos (keywordEach kws X.env)).filterMap (·.1) = ks := by rfl)
    (hpl : ((backTo pos (starEach [] X.env)).any (·.1) || (backToKw pos (keywordEach kws X.env)).any (·.1.isNone)) = false := by rfl)
    (ht : eval (.Call (.Attribute o m apos) [] kws pos) X.env = (do
      let ov ← eval o X.env
      standAt apos.atName
      let (f, first) ← holding [ov] (getMethod ov m pl)
      callWith pos f first (backTo pos (starEach [] X.env)) (backToKw pos (keywordEach kws X.env))) := by rfl) :
    VE X EX (.Call (.Attribute o m apos) [] kws pos) (gMX EX m alts 0 ks.length ix dd go gaNil gk) := by
  refine ⟨fun G0 H0 tk => ⟨fun pins s σ H Q I h => ?_⟩⟩
  obtain ⟨G, S, Qs, R, q, kq⟩ := h
  refine PySem.W.methodCall_KW (pl := pl) (thn ((ho.pe G0 H0 tk).run pins s σ H (fun v H1 => ∃ G1 so, Ext G H G1 H1 ∧ RepV H0 H G1 H1 v so ∧ ∃ C fs F, so.ins? = some (C, fs) ∧ (C, F) ∈ alts ∧ fs.lookup m = none ∧
    gaNil S fun svs => gk S fun kvs => svs.length = 0 ∧ kvs.length = ks.length ∧ F (so.arg :: arr ix (svs.map SV.arg ++ kvs.map SV.arg ++ dd.map SV.tr)) Qs fun C fs => EX C fs S) I ⟨G, S, _, R, q, fun v H1 G1 so E1 r1 q1 => ⟨G1, so, E1, r1, q1⟩⟩) fun u s1 ⟨v, H1, I1, rv1, Ga, so, Ea, ra, C, fs, F, hi, hA, hn, q1⟩ => ?_) ht
  obtain ⟨hc, f, d, ps, dvs, hmt, Fn, hb, hw⟩ := hal C F hA
  obtain ⟨fd, cl, hf, hF⟩ := Fn.ex
  obtain ⟨ds, rd, hto⟩ := (hb fd cl hf).to
  obtain ⟨a, dx, wf, ev, ea, hl⟩ := ra.insNone Ea.ok hi hn
  subst ev
  obtain rfl : u = Value.ref a := rv1
  refine getmeth_ok I1 ea hc hmt hl ?_
  refine args_run0 (first := [.ref a]) (Z := fun svs kvs => svs.length = 0 ∧ kvs.length = ks.length ∧ F (so.arg :: arr ix (svs.map SV.arg ++ kvs.map SV.arg ++ dd.map SV.tr)) Qs fun C fs => EX C fs S) (keepsK hmt.kp) hkw hall hks hpl tk I1 (R.go Ea) q1 fun ws zs kvs G2 H2 s2 E2 r2 ⟨_, l2, q2⟩ I2 rz => ⟨I2.kIn, ?_⟩
  obtain ⟨c1, c2⟩ := args_at (ix := ix) (vs := []) (svs := []) (H := H1) hw E2 .nil r2
  obtain ⟨e1, e2⟩ := self_at ra E2 c1 c2
  have h3 := hto s2 [.ref a] ws I2.kIn rfl (rz.length.symm.trans (r2.length.trans l2))
  rw [show [Value.ref a] ++ ws ++ ds = Value.ref a :: ([] ++ ws ++ ds) from rfl, arr_self] at h3
  exact call_of_code (run_cx hF hr tk I2 ((R.go Ea).go E2) e1 e2 q2 h3 (.cons rfl (vals_arr ix ((Vals.append (xs := []) (us := []) .nil rz).append rd))) (kq_call R (Ea.trans E2) kq) fun _ _ z => z)
end
@[simp] theorem gMX_eq (EX : EXT) (m : Str) (alts : List (Addr × FXp)) (n l : Nat) (ix : List Nat) (dd : List D) (go : GE) (ga gk : GA) (S : S) (Q : SV → Prop) : gMX EX m alts n l ix dd go ga gk S Q = go S fun so => ∃ C fs F, so.ins? = some (C, fs) ∧ (C, F) ∈ alts ∧ fs.lookup m = none ∧
  ga S fun svs => gk S fun kvs => svs.length = n ∧ kvs.length = l ∧ F (so.arg :: arr ix (svs.map SV.arg ++ kvs.map SV.arg ++ dd.map SV.tr)) Q fun C fs => EX C fs S := rfl
end VT

namespace VT
open PySem PySem.Spec PyProof.Rows L2

@[simp] theorem sd_tz (ds : List D) : (SV.d (SV.tz ds)) = .tup ds := rfl
@[simp] theorem slook_tz (ds : List D) : (SV.look (SV.tz ds)) = .tz ds := rfl
@[simp] theorem slet_tz (ds : List D) : (SV.let_ (SV.tz ds)) = .tr (.tup ds) := rfl
@[simp] theorem sok_tz (ds : List D) : (SV.ok (SV.tz ds)) = True := rfl
@[simp] theorem sarg_tz (ds : List D) : (SV.arg (SV.tz ds)) = .tr (.tup ds) := rfl
@[simp] theorem sisret_tz (ds : List D) : (SV.isRet (SV.tz ds)) = False := rfl
@[simp] theorem sstays_tz (c : Bool) (ds : List D) : (SV.stays c (SV.tz ds)) = True := rfl
/-! ### bool(x) -/
def gBoolOf : List D → (SV → Prop) → Prop
  | [.bl b], Q => Q (.tr (.bl b))
  | [.int i], Q => Q (.tr (.bl (i != 0)))
  | [.lst xs], Q => Q (.tr (.bl (!xs.isEmpty)))
  | _, _ => False
@[simp] theorem gBoolOf_bl (b : Bool) (Q : SV → Prop) : gBoolOf [.bl b] Q = Q (.tr (.bl b)) := rfl
@[simp] theorem gBoolOf_int (i : Int) (Q : SV → Prop) : gBoolOf [.int i] Q = Q (.tr (.bl (i != 0))) := rfl
@[simp] theorem gBoolOf_lst (xs : List D) (Q : SV → Prop) : gBoolOf [.lst xs] Q = Q (.tr (.bl (!xs.isEmpty))) := rfl
section
variable {X : Cx} {EX : EXT}
theorem cw_bool : CallW X (.type "bool") gBoolOf := by
  intro H0 Hs G H vs svs Qs Q ok r q k
  unfold gBoolOf at q
  split at q
  · rename_i b h
    obtain ⟨v, sv, rfl, rfl, e, rv⟩ := repl1 r h
    cases rv.bl e
    exact ⟨_, call_bool1, .inr ⟨b, rfl, kq_tr (d := .bl _) k ok rfl q⟩⟩
  · rename_i i h
    obtain ⟨v, sv, rfl, rfl, e, rv⟩ := repl1 r h
    cases rv.int e
    exact ⟨_, call_bool1, .inl ⟨i, rfl, kq_tr (d := .bl _) k ok rfl q⟩⟩
  · rename_i xs h
    obtain ⟨v, sv, rfl, rfl, e, rv⟩ := repl1 r h
    obtain ⟨a, ws, rfl, ea, rw_⟩ := rv.lst ok e
    refine ⟨_, call_boolL, a, ws, rfl, .of ea, ?_⟩
    rw [isEmpty_len rw_.length]
    exact kq_tr (d := .bl _) k ok rfl q
  · exact q.elim
end
/-! ### tuple(x), the new object known -/
theorem kq_tz {H0 : Hp} {G : Gh} {H : Hp} {Qs : SV → Prop} {Q : VK} {p : Addr} {o : Obj} {ds : List D} {vs : List V} (k : KQ H0 G H Qs Q) (ok : OkG G H) (hp : H p = none) (ho : o.dict = none) (r : reps G.F ds vs) (q : Qs (.tz ds)) : Q (.ref p) (upd H p (.frz o (.tup vs))) :=
  k _ _ ⟨upd G.F p (.frz o (.tup vs)), G.pb, G.T⟩ (.tz ds) (ext_frz ok hp _) ⟨p, o, vs, rfl, ho, upd_same, reps.mono (upd_mono (ok.nF hp)) _ _ r⟩ q
section
variable {prog : Program} {w : World} {A : Around} {E : Value → Shared → Prop} {s : Shared}
theorem new_tupS {x : Str} {t : Tok} {Q1 : Value → Shared → Prop} (hh : A.handled = none) (hn : x.cps.size ≤ sizeLine)
    (h : ∀ (s' : Shared) (acc : Array Value), (∀ b o, s.heap.get? b = some o → s'.heap.get? b = some o) → s'.gens = s.gens → s'.drawn = s.drawn → s'.os = s.os → ItemsOf (SignAt x) acc x.cps.size →
      Q1 (.ref s'.heap.objs.size) { s' with heap := s'.heap.push { cls := .type "tuple", data := .seq acc } }) :
    codeAny (model prog w) A (.call (.builtin "tuple.__new__") ⟨[.type "tuple", .str x t], []⟩) (wants Q1 E) s := by
  refine codeAny_of_tree ?_
  show wpAny _ A.in1 (do checkBuiltinCall "tuple.__new__" ⟨[.type "tuple", .str x t], []⟩; again (.builtin "tuple.__new__" ⟨[.type "tuple", .str x t], []⟩)) _ _ s
  refine wpAny_bind (wpAny_of_eq (F.newCall_tuple_1 _) (wpAny_pure ⟨plainId_quiet F.plain_tuple_new _, codeAny_builtin F.entry_tuple_new ?_⟩))
  rw [Around.under_plainId F.plain_tuple_new _]
  have z1 := sub_tuple_self
  have z2 := init_tuple_lookup
  have z3 := madeHere_tuple
  have z4 : A.in1.handled = none := hh
  have z5 : s.TypeIs (.str x t) "str" := rfl
  wp_walk using wpAny_typeOf z5, wpAny_collect_str (A := A.in1) z4 x t
  intro s' acc hk hg hd hos hacc
  show wpAny _ _ (Builtin.Tuple.tupleExact acc.toList.toArray >>= fun v => ret v) _ _ _
  unfold Builtin.Tuple.tupleExact
  refine wpAny_bind (wpAny_newObj_type ?_ (by show acc.toList.toArray.size ≤ sizeLine; simp only [Array.toArray_toList]; rw [hacc.1]; exact hn))
  refine wpAny_pure ?_
  rw [Array.toArray_toList]
  exact h s' acc hk hg hd hos hacc
theorem call_tupS {x : Str} {t : Tok} {Q : Value → Shared → Prop} (hh : A.handled = none) (hn : x.cps.size ≤ sizeLine)
    (h : ∀ (s' : Shared) (acc : Array Value), (∀ b o, s.heap.get? b = some o → s'.heap.get? b = some o) → s'.gens = s.gens → s'.drawn = s.drawn → s'.os = s.os → ItemsOf (SignAt x) acc x.cps.size →
      Q (.ref s'.heap.objs.size) { s' with heap := s'.heap.push { cls := .type "tuple", data := .seq acc } }) :
    wpAny (model prog w) A (call (.type "tuple") [.str x t]) Q E s := by
  refine callType_codes (Q₁ := fun obj s₁ => s₁.TypeIs obj "tuple" ∧ Q obj s₁) F.called_tuple (F.typeCall_tuple_1 _) F.entry_object_init
    (new_tupS (A := A.in1) hh hn fun s' acc hk hg hd hos hacc => ⟨⟨_, Heap.get?_push_size _ rfl, rfl⟩, h s' acc hk hg hd hos hacc⟩) fun obj s1 h1 => ?_
  exact ⟨h1.1, F.args_object_init_2 obj _, object_init_meets F.called_tuple.init.lookup F.called_tuple.made (by decide) prog w A.in1 _ s1 ⟨h1.1, rfl, h1.2⟩⟩
end
theorem signs_rel {x : Str} {acc : Array Value} (h : ItemsOf (SignAt x) acc x.cps.size) : Vals (x.cps.toList.map fun c => V.str ⟨#[c]⟩) acc.toList := by
  refine vals_of_at (by simp [h.1]) fun j y u e1 e2 => ?_
  have e3 : acc[j]? = some u := by simpa using e2
  obtain ⟨c, tk, hc, rfl⟩ := h.2 j u e3
  have e4 : x.cps.toList[j]? = some c := by simpa using hc
  rw [List.getElem?_map, e4] at e1
  cases e1
  exact ⟨tk, rfl⟩
section
variable {X : Cx} {EX : EXT}
theorem call_tupL : CallR X (.type "tuple") (fun xs H Q => ∃ p ys, xs = [.ref p] ∧ H p = some (.lst ys) ∧ ∀ l o, H l = none → o.dict = none → Q (.ref l) (upd H l (.frz o (.tup ys)))) := by
  intro pins s σ H xs us Q I r h
  obtain ⟨p, ys, rfl, hq, q⟩ := h
  obtain ⟨u, rfl, rx⟩ := vals1 r
  cases rx
  obtain ⟨its, r', pl, hz⟩ := I.list (.of hq)
  have hlen := r'.length
  refine call_tuple_list pl.isList (fun h' kp => ?_) (by simp only [List.size_toArray] <;> omega)
  have I1 : Inv X pins σ H { s with heap := h' } := I.kept (t' := s.toks) kp
  exact ⟨.ref h'.objs.size, _, I1.laid (t' := s.toks) (o := .frz { cls := .type "tuple", data := .seq its.toArray } (.tup ys)) (fun b o e => Heap.get?_push_of_some _ e) (Nat.le_refl _) ⟨Heap.get?_push_size _ rfl, hz, its, r', IsTup.new _ _⟩, rfl, q _ _ (I1.hok.fresh (Nat.le_refl _)) rfl⟩
theorem call_tupT (hc : X.calm = true) : CallR X (.type "tuple") (fun xs H Q => ∃ x : Str, xs = [.str x] ∧ x.length ≤ sizeLine ∧ ∀ l o, H l = none → o.dict = none → Q (.ref l) (upd H l (.frz o (.tup (x.cps.toList.map fun c => V.str ⟨#[c]⟩))))) := by
  intro pins s σ H xs us Q I r h
  obtain ⟨x, rfl, hx, q⟩ := h
  obtain ⟨u, rfl, rx⟩ := vals1 r
  obtain ⟨t, rfl⟩ := rx
  refine call_tupS (I.ok.hd hc) hx fun s' acc hk hg hd hos hacc => ?_
  obtain ⟨hp, g, d, tk, os⟩ := s'
  obtain ⟨hp0, g0, d0, tk0, os0⟩ := s
  simp only at hg hd hos
  subst hg hd hos
  have I1 : Inv X pins σ H _ := I.kept (t' := tk) hk
  have rv := signs_rel hacc
  refine ⟨.ref hp.objs.size, _, I1.laid (t' := tk) (o := .frz { cls := .type "tuple", data := .seq acc } (.tup (x.cps.toList.map fun c => V.str ⟨#[c]⟩))) (fun b o e => Heap.get?_push_of_some _ e) (Nat.le_refl _) ⟨Heap.get?_push_size _ rfl, ?_, acc.toList, rv, ?_⟩, rfl, q _ _ (I1.hok.fresh (Nat.le_refl _)) rfl⟩
  · rw [List.length_map, Array.length_toList]; exact hx
  · rw [Array.toArray_toList]; exact IsTup.new _ _
def gTupZ : List D → (SV → Prop) → Prop
  | [.lst xs], Q => Q (.tz xs)
  | [.str z], Q => Q (.tz (z.cps.toList.map fun c => .str ⟨#[c]⟩))
  | _, _ => False
theorem reps_signs {F : Hp} {z : Str} (h : okS z) : reps F (z.cps.toList.map fun c => D.str ⟨#[c]⟩) (z.cps.toList.map fun c => V.str ⟨#[c]⟩) := by
  have go : ∀ l : List Nat, (∀ c ∈ l, c < 0x110000) → reps F (l.map fun c => D.str ⟨#[c]⟩) (l.map fun c => V.str ⟨#[c]⟩) := by
    intro l
    induction l with
    | nil => intro _; rfl
    | cons c l ih =>
      intro hc
      refine ⟨_, _, rfl, ⟨rfl, ?_, by show 1 ≤ sizeLine; decide⟩, ih fun d hd => hc d (List.mem_cons_of_mem _ hd)⟩
      have := hc c (List.mem_cons_self ..)
      show (#[c] : Array Nat).all (· < 0x110000) = true
      simp [this]
  refine go _ fun c hc => ?_
  have h1 : z.cps.all (· < 0x110000) = true := h.1
  rw [Array.all_eq_true_iff_forall_mem] at h1
  have := h1 c (by simpa using hc)
  simpa using this
theorem cw_tupZ (hc : X.calm = true) : CallW X (.type "tuple") gTupZ := by
  intro H0 Hs G H vs svs Qs Q ok r q k
  unfold gTupZ at q
  split at q
  · rename_i xs h
    obtain ⟨v, sv, rfl, rfl, e, rv⟩ := repl1 r h
    obtain ⟨a, ws, rfl, ea, rw_⟩ := rv.lst ok e
    exact ⟨_, call_tupL, a, ws, rfl, ea, fun p o hp ho => kq_tz k ok hp ho rw_ q⟩
  · rename_i z h
    obtain ⟨v, sv, rfl, rfl, e, rv⟩ := repl1 r h
    obtain ⟨rfl, hz⟩ := rv.str e
    exact ⟨_, call_tupT hc, z, rfl, hz.2, fun p o hp ho => kq_tz k ok hp ho (reps_signs hz) q⟩
  · exact q.elim
@[simp] theorem gTupZ_lst (xs : List D) (Q : SV → Prop) : gTupZ [.lst xs] Q = Q (.tz xs) := rfl
@[simp] theorem gTupZ_str (z : Str) (Q : SV → Prop) : gTupZ [.str z] Q = Q (.tz (z.cps.toList.map fun c => .str ⟨#[c]⟩)) := rfl
/-! ### t.index(x) of a known tuple -/
theorem pe_tmeth {o e : Expr} {es : List Expr} {to : TE} {t : TA} {name : Str} {apos cpos : Pos} {id : String} {r : V → List V → Hp → VK → Prop} (slot : Slot "tuple" name id) (hty : typeOf (.builtin id) = pure (.type "method_descriptor")) (hm : MtR X id r) (ho : PE X o to) (ha : PA X (e :: es) t)
    (hb : attributeBase o name X.env (eval o X.env) = eval o X.env)
    (hf : ((backTo cpos (starEach (e :: es) X.env)).all (fun x => !x.1) && (backToKw cpos (keywordEach [] X.env)).all (fun x => x.1.isSome) && decide ((e :: es).length + ([] : List Keyword).length + (if ([] : List Keyword).isEmpty then 0 else 1) < 30)) = true)
    (hl : (apos.endLine == cpos.line) = true) (hs : starEach (e :: es) X.env = (false, eval e X.env) :: starEach es X.env) (hpl : (backTo cpos (starEach es X.env)).any (·.1) = false) :
    PE X (.Call (.Attribute o name apos) (e :: es) [] cpos) (fun σ H Q => to σ H fun x H1 => (∃ p ob ws, x = .ref p ∧ ob.dict = none ∧ H1 p = some (.frz ob (.tup ws))) ∧ t σ H1 fun xs H2 => r x xs H2 Q) := by
  refine ⟨fun pins s σ H Q I h => wpAny_Call_method_late hb hf hl rfl (thn (ho.run pins s σ H _ I h) fun v s1 ⟨x, H1, I1, r1, ⟨p, ob, ws, ex, hd, hp⟩, q1⟩ => ?_)⟩
  subst ex
  obtain rfl : v = Value.ref p := r1
  obtain ⟨e1, _, its, _, o2, e2, hc2, _⟩ := I1.hok p _ hp
  refine ⟨"tuple", id, PySem.F.plainAttrs_tuple, slot, hty, ⟨o2, e2, hc2⟩, fun a ea => ?_, ?_⟩
  · cases ea
    exact ⟨ob, e1, hd⟩
  have hA := ha.run cpos pins s1 σ H1 _ I1 q1
  rw [hs] at hA ⊢
  refine Calls.callWith_builtin (by show (false || (backTo cpos (starEach es X.env)).any (·.1)) = false; rw [hpl] <;> rfl) (Calls.evalArgs_plain ?_)
  exact thn hA fun us s2 ⟨vs, H2, I2, r2, q2⟩ => hm pins s2 σ H2 (.ref p) vs (.ref p) us Q I2 rfl r2 q2
def gTix (go : GE) (ga : GA) : GE := fun S Q => go S fun so => ∃ ds, so = .tz ds ∧ ga S fun svs => ∃ z ys j, svs.map SV.d = [.str z] ∧ strsD ds = some ys ∧ ys[j]? = some z ∧ (∀ m, m < j → ys[m]? ≠ some z) ∧ Q (.tr (.int (j : Nat)))
theorem ve_tix {o e : Expr} {go : GE} {ga : GA} {apos cpos : Pos} (ho : VE X EX o go) (ha : VA X EX [e] ga) (hb : attributeBase o "index" X.env (eval o X.env) = eval o X.env := by rfl)
    (hf : ((backTo cpos (starEach [e] X.env)).all (fun x => !x.1) && (backToKw cpos (keywordEach [] X.env)).all (fun x => x.1.isSome) && decide ([e].length + ([] : List Keyword).length + (if ([] : List Keyword).isEmpty then 0 else 1) < 30)) = true := by rfl)
    (hl : (apos.endLine == cpos.line) = true := by rfl) (hs : starEach [e] X.env = (false, eval e X.env) :: starEach [] X.env := by rfl) :
    VE X EX (.Call (.Attribute o "index" apos) [e] [] cpos) (gTix go ga) := by
  refine ⟨fun G0 H0 tk => peMono (pe_tmeth PySem.F.slot_tuple_index PySem.F.type_tuple_index mt_tup_index (ho.pe G0 H0 tk) (ha.pa G0 H0 tk) hb hf hl hs rfl) fun σ H Q ⟨G, S, Qs, R, q, k⟩ => ?_⟩
  refine ⟨G, S, _, R, q, fun v H1 G1 so E1 r1 q1 => ?_⟩
  obtain ⟨ds, rfl, q1⟩ := q1
  obtain ⟨a, ob, ws, rfl, hd, hF, rr⟩ := r1
  refine ⟨⟨a, ob, ws, rfl, hd, E1.ok.sub _ _ hF⟩, G1, S, _, R.go E1, q1, fun vs H2 G2 svs E2 r2 q2 => ?_⟩
  obtain ⟨z, ys, j, hz, hy, h1, h2, q2⟩ := q2
  obtain ⟨v, sv, rfl, rfl, e, rv⟩ := repl1 r2 hz
  obtain ⟨rfl, _⟩ := rv.str e
  rw [strsD_eq hy] at rr
  rw [rr.map_str.1] at hF
  exact ⟨a, ys, z, j, rfl, rfl, .inl (.inr ⟨ob, E2.ok.sub _ _ (E2.frz _ _ hF)⟩), h1, h2, kq_tr (d := .int _) (kq_back (E1.trans E2) k) E2.ok rfl q2⟩
@[simp] theorem gTix_eq (go : GE) (ga : GA) (S : S) (Q : SV → Prop) : gTix go ga S Q = go S fun so => ∃ ds, so = .tz ds ∧ ga S fun svs => ∃ z ys j, svs.map SV.d = [.str z] ∧ strsD ds = some ys ∧ ys[j]? = some z ∧ (∀ m, m < j → ys[m]? ≠ some z) ∧ Q (.tr (.int (j : Nat))) := rfl
end
end VT

namespace VT
open PySem PySem.Spec PyProof.Rows L2

/-! ### f'..' -/
theorem okS_ofString (x : String) (h : (Str.ofString x).length ≤ sizeLine) : okS (Str.ofString x) := by
  refine ⟨?_, h⟩
  show (Str.ofString x).cps.all (· < 0x110000) = true
  rw [Array.all_eq_true_iff_forall_mem]
  intro c hc
  have hc : c ∈ (Str.ofString x).cps.toList := by simpa using hc
  have e : (Str.ofString x).cps.toList = x.toList.map Char.toNat := by
    unfold Str.ofString
    exact cpsOfBytes_string x
  rw [e] at hc
  obtain ⟨d, _, rfl⟩ := List.mem_map.mp hc
  have hv := d.valid
  have : d.toNat < 0x110000 := by
    rcases hv with h | ⟨_, h⟩
    · have : d.toNat < 0xd800 := h
      omega
    · exact h
  simpa using this
def gFmtD : D → (SV → Prop) → Prop
  | .str z, Q => Q (.tr (.str z))
  | .int i, Q => i.natAbs.log2 < 1920 ∧ Q (.tr (.str (Str.ofString (toString i))))
  | _, _ => False
@[simp] theorem gFmtD_str (z : Str) (Q : SV → Prop) : gFmtD (.str z) Q = Q (.tr (.str z)) := rfl
@[simp] theorem gFmtD_int (i : Int) (Q : SV → Prop) : gFmtD (.int i) Q = (i.natAbs.log2 < 1920 ∧ Q (.tr (.str (Str.ofString (toString i))))) := rfl
@[simp] def gFmt (g : GE) : GE := fun S Q => g S fun sv => gFmtD sv.d Q
abbrev GJ := S → Str → (Str → Prop) → Prop
@[simp] def gjNil : GJ := fun _ acc Q => Q acc
@[simp] def gjCons (g : GE) (gj : GJ) : GJ := fun S acc Q => g S fun sv => ∃ z, sv.d = .str z ∧ (acc ++ z).length ≤ sizeLine ∧ gj S (acc ++ z) Q
@[simp] def gJs (gj : GJ) : GE := fun S Q => gj S Str.empty fun out => Q (.tr (.str out))
structure VJ (X : Cx) (EX : EXT) (es : List Expr) (g : GJ) : Prop where
  pj : ∀ G0 H0, Lk X EX G0 H0 → ∃ ts, PJ X es ts ∧ ∀ (acc : Str) (σ : L2.St) (H : Hp) (Q : Str → Hp → Prop) (G : Gh) (S : S) (Qs : Str → Prop), okS acc → Rel G0 H0 G H σ S → g S acc Qs → (∀ out H' G', okS out → Ext G H G' H' → Qs out → Q out H') → tJs ts acc σ H Q
section
variable {X : Cx} {EX : EXT} {e : Expr} {es : List Expr} {ge : GE} {gj : GJ} {pos : Pos}
theorem ve_fmt (he : VE X EX e ge) : VE X EX (.FormattedValue e (-1) none pos) (gFmt ge) := by
  refine ⟨fun G0 H0 tk => peMono (pe_fmt (he.pe G0 H0 tk)) fun σ H Q ⟨G, S, Qs, R, q, k⟩ => ?_⟩
  refine ⟨G, S, _, R, q, fun v H1 G1 sv E1 r1 q1 => ?_⟩
  cases hd : sv.d with
  | str z =>
    rw [hd] at q1
    obtain ⟨rfl, hz⟩ := r1.str hd
    exact .inl ⟨z, rfl, hz.2, kq_tr (d := .str _) (kq_back E1 k) E1.ok ⟨rfl, hz⟩ q1⟩
  | int i =>
    rw [hd] at q1
    cases r1.int hd
    exact .inr ⟨i, rfl, q1.1, kq_tr (d := .str _) (kq_back E1 k) E1.ok ⟨rfl, okS_ofString _ (int_text_fits q1.1)⟩ q1.2⟩
  | _ => rw [hd] at q1; exact q1.elim
theorem vj_nil : VJ X EX [] gjNil := ⟨fun G0 H0 tk => ⟨[], .nil, fun acc σ H Q G S Qs ha R q k => k acc H G ha (.refl R.ok) q⟩⟩
theorem vj_cons (he : VE X EX e ge) (hr : VJ X EX es gj) : VJ X EX (e :: es) (gjCons ge gj) := ⟨fun G0 H0 tk => by
  obtain ⟨ts, ht, hk⟩ := hr.pj G0 H0 tk
  refine ⟨_ :: ts, .cons (he.pe G0 H0 tk) ht, fun acc σ H Q G S Qs ha R q k => ?_⟩
  refine ⟨G, S, _, R, q, fun v H1 G1 sv E1 r1 q1 => ?_⟩
  obtain ⟨z, hz, hl, q1⟩ := q1
  obtain ⟨rfl, oz⟩ := r1.str hz
  exact ⟨z, rfl, hl, hk (acc ++ z) σ H1 Q G1 S Qs ⟨strOk_append ha.1 oz.1, hl⟩ (R.go E1) q1 fun out H' G' ho E' q' => k out H' G' ho (E1.trans E') q'⟩⟩
theorem ve_js {v1 v2 : Expr} {rest : List Expr} (h : VJ X EX (v1 :: v2 :: rest) gj) : VE X EX (.JoinedStr (v1 :: v2 :: rest) pos) (gJs gj) := ⟨fun G0 H0 tk => by
  obtain ⟨ts, ht, hk⟩ := h.pj G0 H0 tk
  refine peMono (pe_joined ht) fun σ H Q ⟨G, S, Qs, R, q, k⟩ => ?_
  exact hk Str.empty σ H _ G S _ ⟨by decide +kernel, Nat.zero_le _⟩ R q fun out H' G' ho E' q' => kq_tr (d := .str _) (kq_back E' k) E'.ok ⟨rfl, ho⟩ q'⟩
end
/-! ### dict(pairs) -/
def mergeD (kvs more : List (Key × D)) : List (Key × D) := more.foldl (fun acc kv => putD acc kv.1 kv.2) kvs
@[simp] theorem mergeD_nil (kvs : List (Key × D)) : mergeD kvs [] = kvs := rfl
@[simp] theorem mergeD_cons (kvs more : List (Key × D)) (k : Key) (d : D) : mergeD kvs ((k, d) :: more) = mergeD (putD kvs k d) more := rfl
theorem repk_merge {F : Hp} : ∀ {more : List (Key × D)} {ms : List (Key × V)} {kvs : List (Key × D)} {ws : List (Key × V)}, repk F more ms → repk F kvs ws → repk F (mergeD kvs more) (mergeK ws ms)
  | [], _, _, _, e, r => by rw [show _ = _ from e]; exact r
  | (k, d) :: more, _, kvs, ws, ⟨v, t, e, rv, q⟩, r => by
    rw [e]
    exact repk_merge (kvs := putD kvs k d) (ws := putK ws k v) q (repk_put r rv)
def pairsD : List D → Option (List (Key × D))
  | [] => some []
  | .tup [k, d] :: r => match keyD k, pairsD r with
    | some k, some m => some ((k, d) :: m)
    | _, _ => none
  | _ => none
theorem key_rep {F : Hp} {d : D} {v : V} {k : Key} (r : rep F d v) (e : keyD d = some k) : v = kV k := by
  cases d with
  | int i => cases e; exact r
  | str x => cases e; exact r.1
  | _ => cases e
theorem pairs_at {K : PySem.W.Frag} {F H : Hp} (hF : ∀ b o, F b = some o → H b = some o) : ∀ {xs : List D} {kds : List (Key × D)} {ws : List V}, pairsD xs = some kds → reps F xs ws → ∃ ps kvs, ws = ps.map V.ref ∧ repk F kds kvs ∧ Paired (fun p (kv : Key × V) => SqT K H p [kV kv.1, kv.2]) ps kvs
  | [], _, _, h, r => by
    cases h
    rw [show _ = _ from r]
    exact ⟨[], [], rfl, rfl, .nil⟩
  | x :: xs, kds, ws, h, ⟨v, t, e, rx, rr⟩ => by
    unfold pairsD at h
    split at h
    · rename_i h1
      cases h1
    · rename_i k d r h1
      cases h1
      split at h
      · rename_i kk m hk hm
        cases h
        obtain ⟨ps, kvs, rfl, h2, h3⟩ := pairs_at hF hm rr
        obtain ⟨a, vs, rfl, ea, w1, r1, rfl, hw1, w2, r2, rfl, hw2, e3⟩ := rx
        rw [show r2 = [] from e3, key_rep hw1 hk] at ea
        exact ⟨a :: ps, (kk, w2) :: kvs, by rw [e]; rfl, ⟨w2, kvs, rfl, hw2, h2⟩, .cons (.inl (rdUp hF ea)) h3⟩
      · cases h
    · cases h
def gDictP : List D → (SV → Prop) → Prop
  | [.lst xs], Q => ∃ kds, pairsD xs = some kds ∧ Q (.own (.dic (mergeD [] kds)))
  | _, _ => False
@[simp] theorem gDictP_lst (xs : List D) (Q : SV → Prop) : gDictP [.lst xs] Q = ∃ kds, pairsD xs = some kds ∧ Q (.own (.dic (mergeD [] kds))) := rfl
section
variable {X : Cx} {EX : EXT}
theorem cw_dictP (hc : X.calm = true) : CallW X (.type "dict") gDictP := by
  intro H0 Hs G H vs svs Qs Q ok r q k
  unfold gDictP at q
  split at q
  · rename_i xs h
    obtain ⟨kds, hk, q⟩ := q
    obtain ⟨v, sv, rfl, rfl, e, rv⟩ := repl1 r h
    obtain ⟨a, ws, rfl, ea, rw_⟩ := rv.lst ok e
    obtain ⟨ps, kvs, rfl, h2, h3⟩ := pairs_at (K := X.K) ok.sub hk rw_
    exact ⟨_, call_dictP hc, a, ps, kvs, rfl, .of ea, h3, fun p hp => kq_dic k ok hp (repk_merge h2 (show repk G.F [] [] from rfl)) q⟩
  · exact q.elim
/-! ### {k: v, ..} -/
abbrev GP := S → (List (Key × D) → Prop) → Prop
@[simp] def gpNil : GP := fun _ Q => Q []
@[simp] def gpCons (gk gv : GE) (gp : GP) : GP := fun S Q => gk S fun sk => ∃ k, keyD sk.d = some k ∧ gv S fun sv => ∃ d, sv = .tr d ∧ gp S fun kds => Q ((k, d) :: kds)
@[simp] def gDisp (gp : GP) : GE := fun S Q => gp S fun kds => kds.length ≤ 15 ∧ Q (.own (.dic (mergeD [] kds)))
structure VP (X : Cx) (EX : EXT) (pos : Pos) (keys : List (Option Expr)) (values : List Expr) (g : GP) : Prop where
  pp : ∀ G0 H0, Lk X EX G0 H0 → ∃ trs, PPs X pos keys values trs ∧ ∀ (σ : L2.St) (H : Hp) (Q : List (V × V) → Hp → Prop) (G : Gh) (S : S) (Qs : List (Key × D) → Prop), Rel G0 H0 G H σ S → g S Qs →
    (∀ kds kvs H' G', Ext G H G' H' → repk G'.F kds kvs → Qs kds → Q (kvs.map fun kv => (kV kv.1, kv.2)) H') → tPairs trs σ H Q
variable {pos : Pos} {ke ve : Expr} {keys : List (Option Expr)} {values : List Expr} {gk gv : GE} {gp : GP}
theorem vp_nil : VP X EX pos [] [] gpNil := ⟨fun G0 H0 tk => ⟨[], pps_nil, fun σ H Q G S Qs R q k => k [] [] H G (.refl R.ok) rfl q⟩⟩
theorem vp_cons (hk : VE X EX ke gk) (hv : VE X EX ve gv) (hr : VP X EX pos keys values gp) : VP X EX pos (some ke :: keys) (ve :: values) (gpCons gk gv gp) := ⟨fun G0 H0 tk => by
  obtain ⟨trs, ht, hn⟩ := hr.pp G0 H0 tk
  refine ⟨_ :: trs, pps_cons (hk.pe G0 H0 tk) (hv.pe G0 H0 tk) ht, fun σ H Q G S Qs R q k => ?_⟩
  refine ⟨G, S, _, R, q, fun x H1 G1 sk E1 r1 q1 => ?_⟩
  obtain ⟨kk, hkk, q1⟩ := q1
  have ek := r1.key hkk
  subst ek
  refine ⟨G1, S, _, R.go E1, q1, fun y H2 G2 sv E2 r2 q2 => ?_⟩
  obtain ⟨d, rfl, q2⟩ := q2
  refine hn σ H2 _ G2 S _ ((R.go E1).go E2) q2 fun kds kvs H' G' E' rk q' => ?_
  exact k ((kk, d) :: kds) ((kk, y) :: kvs) H' G' ((E1.trans E2).trans E') ⟨y, kvs, rfl, rep.mono E'.frz _ _ r2, rk⟩ q'⟩
theorem ve_disp (h : VP X EX pos keys values gp) (hall : keys.all (·.isSome) = true := by rfl) (hl : keys.length = values.length := by rfl) (h0 : keys ≠ [] := by simp) (h15 : keys.length ≤ 15 := by decide) : VE X EX (.Dict keys values pos) (gDisp gp) := ⟨fun G0 H0 tk => by
  obtain ⟨trs, ht, hn⟩ := h.pp G0 H0 tk
  refine peMono (pe_disp ht hall hl h0 h15) fun σ H Q ⟨G, S, Qs, R, q, k⟩ p hp => ?_
  have E1 := ext_new R.ok hp (.dK [])
  refine hn σ _ _ G S _ (R.go E1) q fun kds kvs H' G' E' rk ⟨hz, q'⟩ => ?_
  have hF : G.F p = none := R.ok.nF hp
  have hb : G.pb ≠ some p := R.ok.npb hp
  have e2 : H' p = some (.dK []) := E'.same p _ upd_same hb nofun
  have hF' : G'.F p = none := E'.nF hF (by rw [upd_same]; nofun)
  have hb' : G'.pb ≠ some p := E'.npb hb (by rw [upd_same]; nofun)
  refine ⟨e2, kvs, rfl, by rw [repk_len rk]; exact hz, ?_⟩
  refine k _ _ G' (.own (.dic (mergeD [] kds))) (ext_write (E1.trans E') hp hF' hb' _ (.dK e2)) ⟨p, rfl, hp, hF', hb', _, upd_same, repk_merge rk (show repk G'.F [] [] from rfl)⟩ q'⟩
end
end VT

namespace VT
open PySem PySem.Spec PyProof.Rows L2

/-! ### self.f, y = a, b -/
def tgF (K : PySem.W.Frag) (to : TE) (f : Str) : TG := fun v σ H Q => to σ H fun o H1 => ∃ a C dx fs, o = .ref a ∧ H1 a = some (.ins C dx fs) ∧ Cls K C ∧ NoAttr K C f ∧ fs.length < 1000 ∧ Q σ (upd H1 a (.ins C dx (putF f v fs)))
section
variable {X : Cx} {EX : EXT} {o : Expr} {to : TE} {f x y : Str} {p py pos' pos pt pt2 : Pos} {kt k2 : Nat} {a b : Expr} {ga : GA}
theorem pg_fld (ho : PE X o to) (ha : ∀ v, assign (.Attribute o f pos') X.env v = (do
      let ov ← holding [v] (eval o X.env)
      standAt pos'.atName
      holding [v, ov] (setAttr ov f v)
      release [v, ov] []) := by intro _; rfl) : PG X (.Attribute o f pos') (tgF X.K to f) := by
  refine ⟨fun pins s σ H v u Q I r h => ?_⟩
  rw [ha]
  refine wpAny_bind (wpAny_holding (thn (ho.run pins s σ H _ I h) fun ov s1 ⟨z, H1, I1, r1, a, C, dx, fs, ez, ea, c, n, l, q1⟩ => ?_))
  subst ez
  obtain rfl : ov = Value.ref a := r1
  refine wpAny_bind (wpAny_standAt (wpAny_bind (wpAny_holding (setattr_ok I1 ea c n l r fun s2 I2 => ?_))))
  exact wpAny_release ⟨σ, _, I2, q1⟩
def gParF (i : Nat) (f : Str) (j : Nat) (Cs : List Addr) (ga : GA) : GS := fun D S => ga S fun svs => ∃ sv d x q C fs, svs = [sv, .tr d] ∧ sv.fv = some x ∧ S[i]? = some (some (.obj q C fs)) ∧ C ∈ Cs ∧ fs.length < 1000 ∧ D.nx ((S.set i (some (.obj q C (fput f x fs)))).set j (some (.tr d)))
@[simp] theorem gParF_eq (i : Nat) (f : Str) (j : Nat) (Cs : List Addr) (ga : GA) (D : VEnds) (S : S) : gParF i f j Cs ga D S = ga S fun svs => ∃ sv d x q C fs, svs = [sv, .tr d] ∧ sv.fv = some x ∧ S[i]? = some (some (.obj q C fs)) ∧ C ∈ Cs ∧ fs.length < 1000 ∧ D.nx ((S.set i (some (.obj q C (fput f x fs)))).set j (some (.tr d))) := rfl
theorem vs_parF (hc : X.calm = true) (hN : X.N.Nodup) (i j : Nat) (Cs : List Addr) (hcs : ∀ C ∈ Cs, Cls X.K C ∧ NoAttr X.K C f) (ha : VA X EX [a, b] ga) (hi : X.N[i]? = some x := by rfl) (hj : X.N[j]? = some y := by rfl)
    (hv : Vis X.env.scope x := by first | exact Or.inl rfl | exact Or.inr (Or.inl rfl) | exact Or.inr (Or.inr rfl)) (hd : (x == ("__debug__" : Str)) = false := by decide) (hcd : (x == ("__classdict__" : Str)) = false := by decide)
    (hy : Loc X.env.scope y := by first | exact Or.inl rfl | exact Or.inr rfl) (hf : X.fn y = true ∨ X.env.scope.names.lookup y = some .local := by first | exact .inl rfl | exact .inr rfl)
    (h1 : (assignEach [.Attribute (.Name x p) f pos', .Name y py] X.env).length = 2 := by rfl) (h2 : (assignEach [.Attribute (.Name x p) f pos', .Name y py] X.env).findIdx? (·.1) = none := by rfl)
    (h4 : (assignEach (.Attribute (.Name x p) f pos' :: [.Name y py]) X.env).map (·.2) = assign (.Attribute (.Name x p) f pos') X.env :: (assignEach [.Name y py] X.env).map (·.2) := by rfl)
    (h5 : (assignEach (.Name y py :: []) X.env).map (·.2) = assign (.Name y py) X.env :: (assignEach [] X.env).map (·.2) := by rfl)
    (hat : ∀ v, assign (.Attribute (.Name x p) f pos') X.env v = (do
      let ov ← holding [v] (eval (.Name x p) X.env)
      standAt pos'.atName
      holding [v, ov] (setAttr ov f v)
      release [v, ov] []) := by intro _; rfl)
    (hw : swappedStores [.Tuple [.Attribute (.Name x p) f pos', .Name y py] kt pt] (.Tuple [a, b] k2 pt2) X.env = pure none := by rfl)
    (hs : swapsWithSole [.Tuple [.Attribute (.Name x p) f pos', .Name y py] kt pt] (.Tuple [a, b] k2 pt2) pos.line X.env = pure false := by rfl)
    (h3 : (assignEach [.Tuple [.Attribute (.Name x p) f pos', .Name y py] kt pt] X.env).map (·.2) = [assign (.Tuple [.Attribute (.Name x p) f pos', .Name y py] kt pt) X.env] := by rfl) :
    VS X EX (.Assign [.Tuple [.Attribute (.Name x p) f pos', .Name y py] kt pt] (.Tuple [a, b] k2 pt2) pos) (gParF i f j Cs ga) := by
  refine ⟨fun G0 H0 tk => psMono (ps_asg (pe_tup (ha.pa G0 H0 tk)) (pg_tup (n := 2) hc (pgs_cons (pg_fld (pe_var hi hv hd hcd) hat) (pgs_cons (pg_name hN hj hy hf) pgs_nil h5) h4) h1 h2) hs hw h3) fun D σ H ⟨G, S, DV, R, q, k⟩ => ?_⟩
  refine ⟨G, S, _, R, q, fun vs H1 G1 svs E1 r1 q1 => ?_⟩
  obtain ⟨sv, d, x, q, C, fs, rfl, hx, e, hC, hl, q1⟩ := q1
  obtain ⟨v, w, rfl⟩ := repl_pair r1
  refine ⟨by show 2 ≤ sizeLine; decide, fun t ht => ?_⟩
  have E2 := ext_new E1.ok ht (.tup [v, w])
  have E := E1.trans E2
  have r2 := r1.ext E2
  obtain ⟨rv, rw_⟩ : RepV H0 H G1 (upd H1 t (.tup [v, w])) v sv ∧ RepV H0 H G1 (upd H1 t (.tup [v, w])) w (.tr d) := by
    cases r2 with
    | cons a b _ => cases b with
      | cons b _ _ => exact ⟨a, b⟩
  obtain ⟨u, eu, ru⟩ := (R.go E).slot i _ e
  obtain ⟨a, dx, ws, rfl, ea, ed, ma, md, nd, rf, hq⟩ := ru
  have R3 := R.fset (f := f) E rv hx e eu ea
  refine ⟨t, [v, w], rfl, .of upd_same, rfl, ?_⟩
  refine ⟨v, [w], rfl, _, eu, a, C, dx, ws, rfl, ea, (hcs C hC).1, (hcs C hC).2, by rw [rf.len]; exact hl, w, [], rfl, ?_⟩
  exact (show gNil [] _ _ D.nx from ⟨rfl, k.nx _ _ _ _ (R3.set (Hs := H0) j (sv := .tr d) rw_ trivial (fun _ z => z) (fun _ _ _ _ _ _ _ o => o.elim)) E.frz q1⟩)
end
end VT

namespace VT
open PySem PySem.Spec PyProof.Rows L2

/-! ### what a law's text looks at ahead of its run -/
structure Lks where
  fa : List He.Fa
  fn : List He.DefD
  pr : List (Str × Str × He.DefD) := []
  bs : List (PySem.W.Frag → Bool) := []
def prAt (K : PySem.W.Frag) (p : Str × Str × He.DefD) : Addr := prG K (He.ma K (He.ga K p.1) p.2.1)
def Lks.seen (L : Lks) (K : PySem.W.Frag) : Bool × List He.FnW :=
  ((L.fa.all fun f => f.ok K) && ((L.fn.all fun d => d.ok K) && ((L.pr.all fun p => prB K (He.ga K p.1) p.2.1 && okA K p.2.2 (prAt K p)) && L.bs.all fun b => b K)), (L.fn.map fun d => He.fnW K d.at_) ++ L.pr.map fun p => fnA K (prAt K p))
def Lks.due (L : Lks) : Bool × List He.FnW := (true, L.fn.map He.DefD.val ++ L.pr.map fun p => p.2.2.val)
def Lks.Ok (L : Lks) (K : PySem.W.Frag) : Prop := L.seen K = L.due
section
variable {L : Lks} {K : PySem.W.Frag}
theorem Lks.Ok.all (c : L.Ok K) : (∀ f ∈ L.fa, f.ok K = true) ∧ (∀ d ∈ L.fn, d.ok K = true) ∧ (∀ p ∈ L.pr, prB K (He.ga K p.1) p.2.1 = true ∧ okA K p.2.2 (prAt K p) = true) ∧ ∀ b ∈ L.bs, b K = true := by
  have c1 : (L.seen K).1 = true := congrArg (fun z : Bool × List He.FnW => z.1) c
  unfold Lks.seen at c1
  simp only [Bool.and_eq_true, List.all_eq_true] at c1
  exact c1
theorem Lks.Ok.fact (c : L.Ok K) (i : Nat) {f : He.Fa} (h : L.fa[i]? = some f := by rfl) : f.ok K = true := c.all.1 f (List.mem_of_getElem? h)
theorem Lks.Ok.bool (c : L.Ok K) (i : Nat) {b : PySem.W.Frag → Bool} (h : L.bs[i]? = some b := by rfl) : b K = true := c.all.2.2.2 b (List.mem_of_getElem? h)
theorem Lks.Ok.fns (c : L.Ok K) : (L.fn.map fun d => He.fnW K d.at_) = L.fn.map He.DefD.val ∧ (L.pr.map fun p => fnA K (prAt K p)) = L.pr.map fun p => p.2.2.val := by
  have c2 : (L.seen K).2 = L.due.2 := congrArg (fun z : Bool × List He.FnW => z.2) c
  exact List.append_inj c2 (by simp)
theorem Lks.Ok.fun_ (c : L.Ok K) (i : Nat) {d : He.DefD} (h : L.fn[i]? = some d := by rfl) : ∃ fd, FunD K d.name d.qual d.params d.body d.scope (d.dvs K) (d.kws K) (He.fAd K d.at_) fd := by
  have e := congrArg (fun l => l[i]?) c.fns.1
  simp only [List.getElem?_map, h] at e
  exact He.DefD.funD (Option.some.inj e) (c.all.2.1 d (List.mem_of_getElem? h))
theorem Lks.Ok.prop (c : L.Ok K) (i : Nat) {p : Str × Str × He.DefD} (h : L.pr[i]? = some p := by rfl) : PropOf K (He.ga K p.1) p.2.1 (He.ma K (He.ga K p.1) p.2.1) (prAt K p) ∧ ∃ fd, FunD K p.2.2.name p.2.2.qual p.2.2.params p.2.2.body p.2.2.scope (p.2.2.dvs K) (p.2.2.kws K) (prAt K p) fd := by
  have e := congrArg (fun l => l[i]?) c.fns.2
  simp only [List.getElem?_map, h] at e
  obtain ⟨h1, h2⟩ := c.all.2.2.1 p (List.mem_of_getElem? h)
  exact ⟨prB_ok h1, funA (Option.some.inj e) h2⟩
end
/-! ### rows of one, two, three -/
theorem in1 {α : Type} {P : α → Prop} {a : α} (h : P a) : ∀ x ∈ [a], P x := fun x hx => by
  obtain rfl := List.mem_singleton.mp hx
  exact h
theorem in2 {α : Type} {P : α → Prop} {a b : α} (h : P a) (k : P b) : ∀ x ∈ [a, b], P x := fun x hx => by
  rcases List.mem_cons.mp hx with rfl | hx
  · exact h
  · exact in1 k x hx
theorem in3 {α : Type} {P : α → Prop} {a b c : α} (h : P a) (k : P b) (l : P c) : ∀ x ∈ [a, b, c], P x := fun x hx => by
  rcases List.mem_cons.mp hx with rfl | hx
  · exact h
  · exact in2 k l x hx
section
variable {X : Cx} {m : Str} {k n : Nat} {ks : List Str} {ix : List Nat} {dd : List D}
theorem alt1 {C : Addr} {F : FXp} (h : MAlt X m k n ks ix dd C F) : ∀ C' F', (C', F') ∈ [(C, F)] → MAlt X m k n ks ix dd C' F' := fun C' F' hx => by
  cases List.mem_singleton.mp hx
  exact h
theorem alt2 {C D : Addr} {F G : FXp} (h : MAlt X m k n ks ix dd C F) (h2 : MAlt X m k n ks ix dd D G) : ∀ C' F', (C', F') ∈ [(C, F), (D, G)] → MAlt X m k n ks ix dd C' F' := fun C' F' hx => by
  rcases List.mem_cons.mp hx with e | hx
  · cases e
    exact h
  · exact alt1 h2 C' F' hx
end
theorem hu1 {A : Around} {k : Nat} (hr : Room k A) : A.units + 1 < cLine := by have := hr.un; omega
/-- a global's def that may raise -/
structure FnG (P : Program) (w : World) (K : PySem.W.Frag) (mg : Str → Option Value) (base : Heap) (d : He.DefD) (k : Nat) (ps : List Str) (F : FXp) : Prop where
  x : FnX P w K mg base d (He.fAd K d.at_) k ps F
  mg : mg d.name = some (.ref (He.fAd K d.at_))
theorem FnV.g {P : Program} {w : World} {K : PySem.W.Frag} {mg : Str → Option Value} {base : Heap} {d : He.DefD} {k : Nat} {ps : List Str} {F : FSp} (h : FnV P w K mg base d k ps F) : FnG P w K mg base d k ps (lift F) := ⟨h.x, h.mg⟩
/-- a property's getter -/
structure PrV (P : Program) (w : World) (K : PySem.W.Frag) (mg : Str → Option Value) (base : Heap) (C : Addr) (m : Str) (k : Nat) (F : FSp) : Prop where
  ex : ∃ pa f fd ps, PropOf K C m pa f ∧ FnOk P w K mg base CX0 k f fd ps (spV K F) ∧ Binds K fd ps []
theorem prv_ok {P : Program} {w : World} {K : PySem.W.Frag} {mg : Str → Option Value} {base : Heap} {C pa f : Addr} {m : Str} {k : Nat} {d : He.DefD} {N : List Str} {p0 : Str} {F : FSp} {g : GS}
    (hp : PropOf K C m pa f ∧ ∃ fd, FunD K d.name d.qual d.params d.body d.scope (d.dvs K) (d.kws K) f fd) (hd : d.dfl = []) (Sc : FnScope N [p0] d.scope)
    (hb : ∀ (kV doc pm : Value) (an : Option Addr) (cdv ct : Value) (us : List Value), us.length = 1 → bindArgs (PySem.W.fnOf d.name d.qual d.params d.body d.scope .none kV doc pm an cdv ct) ⟨us, []⟩ = pure ([p0].zip us))
    (hbody : ∀ (f : Addr) (cdv : Value) (A : Around) (outer : List Env) (s : Shared) (H : Hp) (E : XK), Room k (A.deeper (envOfC d.qual d.scope s.heap.objs.size f cdv)) → VSs (cxOf CX0 P w K mg base N d.qual d.scope f cdv A outer s H E).nox E0T d.body g)
    (len : ∀ svs Qs, F svs Qs → svs.length = [p0].length) (spec : ∀ svs Qs, F svs Qs → g { nx := fun _ => Qs (.tr .non), rt := Qs } (startS N svs)) : PrV P w K mg base C m (k + 1) F := by
  obtain ⟨hp, fd, hf⟩ := hp
  have hk := fn_ok hf Sc (fun cdv A outer s H E hr => hbody _ cdv A outer s H E hr) len spec
  have e1 : d.dvs K = [] := by unfold He.DefD.dvs; rw [hd]; rfl
  rw [e1] at hf
  exact ⟨pa, f, fd, [p0], hp, hk, hf.bindsN hb⟩
theorem ve_prp {X : Cx} {EX : EXT} {C : Addr} {m : Str} {k : Nat} {F : FSp} {o : Expr} {go : GE} {pos : Pos} (he : VE X EX o go) (c : Cls X.K C) (h : PrV X.prog X.w X.K X.mg X.base C m k F) (hr : Room (k + 1) X.A)
    (hab : attributeBase o m X.env (eval o X.env) = eval o X.env := by rfl) : VE X EX (.Attribute o m pos) (gProp C F go) := by
  obtain ⟨pa, f, fd, ps, hp, hk, hb⟩ := h
  exact ve_prop he c hp hk hr hb hab
/-- a method: the statement inside a class -/
def clsBody : Stmt → List Stmt
  | .ClassDef _ _ _ b _ _ _ _ _ _ _ => b
  | _ => []
end VT

namespace VT
open PySem PySem.Spec PyProof.Rows L2

@[simp] theorem isT_exn (C : Addr) (fs : List (Str × D)) (T : Ty) : (D.exn C fs).isT T = false := by cases T <;> rfl
@[simp] theorem dat_exn (C : Addr) (fs : List (Str × D)) : (D.exn C fs).dat = false := rfl
@[simp] theorem items_exn (C : Addr) (fs : List (Str × D)) : (D.exn C fs).items = none := rfl
@[simp] theorem kind_exn (C : Addr) (fs : List (Str × D)) : (D.exn C fs).kind = none := rfl
@[simp] theorem isNon_exn (C : Addr) (fs : List (Str × D)) : (D.exn C fs).isNon = false := rfl
/-- a loop over a row of known make -/
theorem forW_as {α : Type} {gg : GG} {gb : GS} {D : VEnds} {S : S} {as : List α} (g : α → VT.D) (I : List α → VT.S → Prop) (h0 : I as S) (hN : ∀ S', I [] S' → D.nx S')
    (hs : ∀ a r S1, I (a :: r) S1 → ∀ N : VT.S → Prop, (∀ S', I r S' → N S') → gg (g a) S1 fun S2 => gb { nx := N, rt := D.rt, bk := D.nx, ct := N } S2) {ds : List VT.D} (hd : ds = as.map g) : ForW gg gb D S ds := by
  subst hd
  refine ⟨fun r S => ∃ ras, r = ras.map g ∧ I ras S, ⟨as, rfl, h0⟩, fun S' ⟨ras, e, i⟩ => ?_, fun d r S1 ⟨ras, e, i⟩ => ?_⟩
  · have : ras = [] := by
      cases ras with
      | nil => rfl
      | cons a r => cases e
    subst this
    exact hN _ i
  · cases ras with
    | nil => cases e
    | cons a r =>
      cases e
      exact hs a r S1 i _ fun S h => ⟨r, rfl, h⟩
/-! ### written texts are told apart -/
@[simp] theorem ofS_inj (a b : String) : (Str.ofString a = Str.ofString b) ↔ a = b := by
  constructor
  · intro h
    rw [Str.ofString_eq_toList, Str.ofString_eq_toList] at h
    have h1 : a.toList.map Char.toNat = b.toList.map Char.toNat := by
      have := congrArg (fun z : Str => z.cps.toList) h
      simpa using this
    have h2 : a.toList = b.toList := List.map_inj_right (fun x y e => Char.ext (UInt32.toNat_inj.mp e)) |>.mp h1
    exact String.ext (by simpa using h2)
  · rintro rfl
    rfl
@[simp] theorem ofS_beq (a b : String) : (Str.ofString a == Str.ofString b) = (a == b) := by
  rw [Bool.eq_iff_iff, beq_iff_eq, beq_iff_eq, ofS_inj]
@[simp] theorem fput_nil (f : Str) (x : FV) : fput f x [] = [(f, x)] := rfl
@[simp] theorem fput_cons (f g : Str) (x y : FV) (r : List (Str × FV)) : fput f x ((g, y) :: r) = if g = f then (g, x) :: r else (g, y) :: fput f x r := rfl
/-- a dict by its keys, texts -/
def mapD (ns : List Str) (f : Str → D) : List (Key × D) := ns.map fun n => (.inr n, f n)
@[simp] theorem mapD_nil (f : Str → D) : mapD [] f = [] := rfl
@[simp] theorem mapD_len (ns : List Str) (f : Str → D) : (mapD ns f).length = ns.length := by simp [mapD]
theorem valD_map (f : Str → D) (n : Str) : ∀ ns : List Str, valD (mapD ns f) (.inr n) = if n ∈ ns then some (f n) else none
  | [] => rfl
  | m :: ns => by
    have ih := valD_map f n ns
    unfold valD mapD at ih ⊢
    rw [List.map_cons, List.find?_cons]
    by_cases h : m = n
    · subst h
      simp
    · have h1 : ¬ ((Sum.inr m : Key) = .inr n) := fun z => h (by cases z; rfl)
      simp only [h1, decide_false]
      rw [ih]
      have h2 : n ≠ m := fun z => h z.symm
      simp [h2]
theorem valD_mem {f : Str → D} {n : Str} {ns : List Str} (h : n ∈ ns) : valD (mapD ns f) (.inr n) = some (f n) := by rw [valD_map, if_pos h]
theorem putD_mem {f : Str → D} {n : Str} {y : D} {ns : List Str} (h : n ∈ ns) : putD (mapD ns f) (.inr n) y = mapD ns fun m => if m = n then y else f m := by
  unfold putD mapD
  have e : ((ns.map fun n => ((.inr n : Key), f n)).any fun kv => decide (kv.1 = .inr n)) = true := by
    rw [List.any_eq_true]
    exact ⟨(.inr n, f n), List.mem_map.mpr ⟨n, h, rfl⟩, by simp⟩
  rw [if_pos e, List.map_map]
  refine List.map_congr_left fun m _ => ?_
  by_cases hm : m = n
  · subst hm
    simp
  · have h1 : ¬ ((Sum.inr m : Key) = .inr n) := fun z => hm (by cases z; rfl)
    simp only [Function.comp_apply, if_neg h1, if_neg hm]
theorem putD_new {f : Str → D} {n : Str} {ns : List Str} (h : n ∉ ns) : putD (mapD ns f) (.inr n) (f n) = mapD (ns ++ [n]) f := by
  unfold putD mapD
  have e : ((ns.map fun n => ((.inr n : Key), f n)).any fun kv => decide (kv.1 = .inr n)) = false := by
    rw [List.any_eq_false]
    intro kv hk
    obtain ⟨m, hm, rfl⟩ := List.mem_map.mp hk
    simp
    rintro rfl
    exact h hm
  rw [if_neg (by rw [e]; decide), List.map_append]
  rfl
theorem mapD_congr {f g : Str → D} {ns : List Str} (h : ∀ n ∈ ns, f n = g n) : mapD ns f = mapD ns g := by
  unfold mapD
  exact List.map_congr_left fun n hn => by rw [h n hn]
/-- the first of a list, read -/
theorem atI_some {α : Type} {xs : List α} {i : Nat} {x : α} (h : xs[i]? = some x) : atI xs (i : Int) = some x := by rw [atN]; exact h
theorem atI_last {α : Type} {xs : List α} {x : α} : atI (xs ++ [x]) (-1) = some x := by
  unfold atI ixN
  rw [if_neg (by decide), if_pos (by simp; omega)]
  have e : ((-1 : Int) + ((xs ++ [x]).length : Nat)).toNat = xs.length := by simp; omega
  show (xs ++ [x])[((-1 : Int) + ((xs ++ [x]).length : Nat)).toNat]? = some x
  rw [e]
  simp
theorem cutD_to {α : Type} {xs : List α} {k : Nat} (h : k ≤ xs.length) : cutD xs none (some (k : Int)) = xs.take k := by
  unfold cutD
  rw [HT.sIx_nat, HT.sIx_none, Nat.min_eq_left h]
  rfl
theorem cutD_from {α : Type} {xs : List α} {k : Nat} (h : k ≤ xs.length) : cutD xs (some (k : Int)) none = xs.drop k := by
  unfold cutD
  rw [HT.sIx_nat, HT.sIx_none, Nat.min_eq_left h]
  exact List.take_of_length_le (by simp)
/-- {n: f n for n in ns}, different names -/
theorem dcW_names {gg : GG} {gt : GT} {gk ge : GE} {vs : List Nat} {S : S} {Q : SV → Prop} {ns : List Str} (f : Str → D) (hd : ns.Nodup) (hl : ns.length < sizeLine)
    (hs : ∀ n ∈ ns, ∀ (B : Key → D → Prop) (E : Prop), B (.inr n) (f n) → gg (.str n) (wipeS S vs) fun S2 => gt S2 fun b => if b = true then gk S2 fun sk => ∃ k, keyD sk.d = some k ∧ ge S2 fun sv => ∃ y, sv = .tr y ∧ B k y else E)
    (q : Q (.own (.dic (mapD ns f)))) : DcW gg gt gk ge vs S Q (ns.map .str) := by
  refine ⟨fun r acc => ∃ a b, ns = a ++ b ∧ r = b.map .str ∧ acc = mapD a f, ⟨[], ns, rfl, rfl, rfl⟩, fun acc ⟨a, b, e1, e2, e3⟩ => ?_, fun d r acc ⟨a, b, e1, e2, e3⟩ => ?_⟩
  · cases b with
    | nil =>
      rw [List.append_nil] at e1
      subst e1 e3
      exact q
    | cons x b => cases e2
  · cases b with
    | nil => cases e2
    | cons n b =>
      cases e2
      have hn : n ∈ ns := by rw [e1]; simp
      have ha : n ∉ a := by
        rw [e1, List.nodup_append] at hd
        intro h
        exact hd.2.2 n h n (by simp) rfl
      refine hs n hn (fun k y => acc.length < sizeLine ∧ ∃ a' b', ns = a' ++ b' ∧ b.map D.str = b'.map D.str ∧ putD acc k y = mapD a' f) _ ⟨?_, a ++ [n], b, by rw [e1]; simp, rfl, ?_⟩
      · rw [e3, mapD_len]
        rw [e1, List.length_append] at hl
        omega
      · rw [e3, putD_new ha]
theorem IsA.arg {sv : SV} {d : D} (h : IsA sv d) : IsA sv.arg d := by
  obtain ⟨h1, h2, h3⟩ := h
  cases sv with
  | tr x => exact ⟨rfl, h2, fun _ => trivial⟩
  | own x => cases h1
  | brw x => exact ⟨rfl, h2, fun _ => trivial⟩
  | pk x => cases h3 false
  | tz x => exact ⟨rfl, h2, fun _ => trivial⟩
  | _ => exact (h3 false).elim
/-- a loop with a measure -/
theorem whileW {gc : GT} {gb : GS} {D : VEnds} {S : S} (I : Nat → VT.S → Prop) (m0 : Nat) (h0 : I m0 S)
    (hs : ∀ m S, I m S → ∀ N : VT.S → Prop, (∀ m' S', m' < m → I m' S' → N S') → gc S fun b => if b = true then gb { nx := N, rt := D.rt, bk := D.nx, ct := N } S else D.nx S) : gWhile gc gb D S :=
  ⟨I, ⟨m0, h0⟩, fun m S h => hs m S h _ fun m' S' hm hi => ⟨m', hm, hi⟩⟩
end VT

namespace K12
open PySem PySem.Spec PyProof.Rows L2 VT
def top (i : Nat) : Stmt := PySem.Challenge.pw_heardwire_k12_plans_played.main.body.getD i (.Pass ⟨0, 0, 0, 0⟩)
structure Facts (mg : Str → Option Value) : Prop where
  LookupError : mg "LookupError" = none
  ValueError : mg "ValueError" = none
  abs : mg "abs" = none
  all : mg "all" = none
  any : mg "any" = none
  bool : mg "bool" = none
  dict : mg "dict" = none
  enumerate : mg "enumerate" = none
  int : mg "int" = none
  isinstance : mg "isinstance" = none
  len : mg "len" = none
  list : mg "list" = none
  max : mg "max" = none
  min : mg "min" = none
  property : mg "property" = none
  range : mg "range" = none
  staticmethod : mg "staticmethod" = none
  str : mg "str" = none
  super : mg "super" = none
  tuple : mg "tuple" = none
  zip : mg "zip" = none
  c_MOST_SIGNS : ∃ t, mg "MOST_SIGNS" = some (.int 6 t)
  c_LETTERS : ∃ t, mg "LETTERS" = some (.str "abcdefghijklmnopqrstuvwxyz" t)
  c_MOST_ENTRIES : ∃ t, mg "MOST_ENTRIES" = some (.int 40 t)
  c_MOST_LENGTH : ∃ t, mg "MOST_LENGTH" = some (.int 60 t)
  c_MOST_PLAY : ∃ t, mg "MOST_PLAY" = some (.int 2400 t)
structure CF (K : PySem.W.Frag) (mg : Str → Option Value) : Prop where
  g_Log : mg "Log" = some (.ref (He.ga K "Log"))
  c_Log : Cls K (He.ga K "Log")
  k_Log : Mk K (He.ga K "Log") (He.ma K (He.ga K "Log") "__init__")
  n_Log_own_entries : NoAttr K (He.ga K "Log") "own_entries"
  n_Log_joined : NoAttr K (He.ga K "Log") "joined"
  n_Log_own_ticks : NoAttr K (He.ga K "Log") "own_ticks"
  n_Log_own_messages : NoAttr K (He.ga K "Log") "own_messages"
  m_Log_entries : Meth K (He.ga K "Log") "entries" (He.ma K (He.ga K "Log") "entries")
  m_Log_text : Meth K (He.ga K "Log") "text" (He.ma K (He.ga K "Log") "text")
def d_is_name : He.DefD := ⟨("is_name", none), "is_name", "is_name", defArgs (top 14), defBody (top 14), defScope (top 14), [], []⟩
theorem sc_is_name : FnScope ["value", "sign"] ["value"] d_is_name.scope := ⟨rfl, rfl, rfl, by decide +kernel, rfl, by decide +kernel, by decide +kernel⟩
def d_is_number : He.DefD := ⟨("is_number", none), "is_number", "is_number", defArgs (top 15), defBody (top 15), defScope (top 15), [], []⟩
theorem sc_is_number : FnScope ["value"] ["value"] d_is_number.scope := ⟨rfl, rfl, rfl, by decide +kernel, rfl, by decide +kernel, by decide +kernel⟩
def d_is_within : He.DefD := ⟨("is_within", none), "is_within", "is_within", defArgs (top 16), defBody (top 16), defScope (top 16), [], []⟩
theorem sc_is_within : FnScope ["value", "least", "most"] ["value", "least", "most"] d_is_within.scope := ⟨rfl, rfl, rfl, by decide +kernel, rfl, by decide +kernel, by decide +kernel⟩
def d_is_entry : He.DefD := ⟨("is_entry", none), "is_entry", "is_entry", defArgs (top 21), defBody (top 21), defScope (top 21), [], []⟩
theorem sc_is_entry : FnScope ["value"] ["value"] d_is_entry.scope := ⟨rfl, rfl, rfl, by decide +kernel, rfl, by decide +kernel, by decide +kernel⟩
def d_Log___init__ : He.DefD := ⟨("Log", some "__init__"), "__init__", "Log.__init__", defArgs (((clsBody (top 22)).getD 2 (.Pass ⟨0, 0, 0, 0⟩))), defBody (((clsBody (top 22)).getD 2 (.Pass ⟨0, 0, 0, 0⟩))), defScope (((clsBody (top 22)).getD 2 (.Pass ⟨0, 0, 0, 0⟩))), [.adr (He.dflAt ("Log", some "__init__") 0)], [("joined", .bl false)]⟩
theorem sc_Log___init__ : FnScope ["self", "entries", "joined", "at", "entry", "tick", "name", "length"] ["self", "entries", "joined"] d_Log___init__.scope := ⟨rfl, rfl, rfl, by decide +kernel, rfl, by decide +kernel, by decide +kernel⟩
def d_Log_ticks : He.DefD := ⟨("Log", some "ticks"), "ticks", "Log.ticks", defArgs (((clsBody (top 22)).getD 4 (.Pass ⟨0, 0, 0, 0⟩))), defBody (((clsBody (top 22)).getD 4 (.Pass ⟨0, 0, 0, 0⟩))), defScope (((clsBody (top 22)).getD 4 (.Pass ⟨0, 0, 0, 0⟩))), [], []⟩
theorem sc_Log_ticks : FnScope ["self"] ["self"] d_Log_ticks.scope := ⟨rfl, rfl, rfl, by decide +kernel, rfl, by decide +kernel, by decide +kernel⟩
def d_Log_entries : He.DefD := ⟨("Log", some "entries"), "entries", "Log.entries", defArgs (((clsBody (top 22)).getD 5 (.Pass ⟨0, 0, 0, 0⟩))), defBody (((clsBody (top 22)).getD 5 (.Pass ⟨0, 0, 0, 0⟩))), defScope (((clsBody (top 22)).getD 5 (.Pass ⟨0, 0, 0, 0⟩))), [], []⟩
theorem sc_Log_entries : FnScope ["self"] ["self"] d_Log_entries.scope := ⟨rfl, rfl, rfl, by decide +kernel, rfl, by decide +kernel, by decide +kernel⟩
def d_Log_text : He.DefD := ⟨("Log", some "text"), "text", "Log.text", defArgs (((clsBody (top 22)).getD 10 (.Pass ⟨0, 0, 0, 0⟩))), defBody (((clsBody (top 22)).getD 10 (.Pass ⟨0, 0, 0, 0⟩))), defScope (((clsBody (top 22)).getD 10 (.Pass ⟨0, 0, 0, 0⟩))), [], []⟩
theorem sc_Log_text : FnScope ["self", "parts", "name", "length"] ["self"] d_Log_text.scope := ⟨rfl, rfl, rfl, by decide +kernel, rfl, by decide +kernel, by decide +kernel⟩
def d_is_plan : He.DefD := ⟨("is_plan", none), "is_plan", "is_plan", defArgs (top 26), defBody (top 26), defScope (top 26), [], []⟩
theorem sc_is_plan : FnScope ["value", "last", "row", "one"] ["value"] d_is_plan.scope := ⟨rfl, rfl, rfl, by decide +kernel, rfl, by decide +kernel, by decide +kernel⟩
def d_need_order : He.DefD := ⟨("need_order", none), "need_order", "need_order", defArgs (top 27), defBody (top 27), defScope (top 27), [], []⟩
theorem sc_need_order : FnScope ["order", "name", "at"] ["order"] d_need_order.scope := ⟨rfl, rfl, rfl, by decide +kernel, rfl, by decide +kernel, by decide +kernel⟩
def d_winner_at : He.DefD := ⟨("winner_at", none), "winner_at", "winner_at", defArgs (top 29), defBody (top 29), defScope (top 29), [], []⟩
theorem sc_winner_at : FnScope ["order", "plans", "spots", "tick", "name", "plan"] ["order", "plans", "spots", "tick"] d_winner_at.scope := ⟨rfl, rfl, rfl, by decide +kernel, rfl, by decide +kernel, by decide +kernel⟩
def d_play : He.DefD := ⟨("play", none), "play", "play", defArgs (top 28), defBody (top 28), defScope (top 28), [], [("joined", .bl false)]⟩
theorem sc_play : FnScope ["order", "plans", "ticks", "joined", "name", "spots", "entries", "tick", "winner", "length"] ["order", "plans", "ticks", "joined"] d_play.scope := ⟨rfl, rfl, rfl, by decide +kernel, rfl, by decide +kernel, by decide +kernel⟩
def d__law_letters : He.DefD := ⟨("_law_letters", none), "_law_letters", "_law_letters", defArgs (top 34), defBody (top 34), defScope (top 34), [], []⟩
theorem sc__law_letters : FnScope [] [] d__law_letters.scope := ⟨rfl, rfl, rfl, by decide +kernel, rfl, by decide +kernel, by decide +kernel⟩
def d__law_names : He.DefD := ⟨("_law_names", none), "_law_names", "_law_names", defArgs (top 35), defBody (top 35), defScope (top 35), [], []⟩
theorem sc__law_names : FnScope ["_law_bag_here", "_law_many", "_law_stem", "_law_spot", "_law_base", "_law_step", "_law_more", "_law_found", "_law_k", "_law_sign"] ["_law_bag_here", "_law_many"] d__law_names.scope := ⟨rfl, rfl, rfl, by decide +kernel, rfl, by decide +kernel, by decide +kernel⟩
def d__law_requests : He.DefD := ⟨("_law_requests", none), "_law_requests", "_law_requests", defArgs (top 36), defBody (top 36), defScope (top 36), [], []⟩
theorem sc__law_requests : FnScope ["_law_bag_here", "_law_sender", "_law_ticks_z", "_law_amid", "_law_found", "_law_here", "_law_gap", "_law_k", "_law_lag", "_law_due", "_law_low"] ["_law_bag_here", "_law_sender", "_law_ticks_z", "_law_amid"] d__law_requests.scope := ⟨rfl, rfl, rfl, by decide +kernel, rfl, by decide +kernel, by decide +kernel⟩
def d__law_mixed : He.DefD := ⟨("_law_mixed", none), "_law_mixed", "_law_mixed", defArgs (top 37), defBody (top 37), defScope (top 37), [], []⟩
theorem sc__law_mixed : FnScope ["_law_bag_here", "_law_some", "_law_found", "_law_item"] ["_law_bag_here", "_law_some"] d__law_mixed.scope := ⟨rfl, rfl, rfl, by decide +kernel, rfl, by decide +kernel, by decide +kernel⟩
def d__law_idle_joined : He.DefD := ⟨("_law_idle_joined", none), "_law_idle_joined", "_law_idle_joined", defArgs (top 38), defBody (top 38), defScope (top 38), [], []⟩
theorem sc__law_idle_joined : FnScope ["_law_rows", "_law_found", "_law_row"] ["_law_rows"] d__law_idle_joined.scope := ⟨rfl, rfl, rfl, by decide +kernel, rfl, by decide +kernel, by decide +kernel⟩
def d__law_played : He.DefD := ⟨("_law_played", none), "_law_played", "_law_played", defArgs (top 39), defBody (top 39), defScope (top 39), [], []⟩
theorem sc__law_played : FnScope ["_law_order_z", "_law_plans_z", "_law_ticks_z", "_law_heard", "_law_tick", "_law_done", "_law_who", "_law_k", "_law_able", "_law_size"] ["_law_order_z", "_law_plans_z", "_law_ticks_z"] d__law_played.scope := ⟨rfl, rfl, rfl, by decide +kernel, rfl, by decide +kernel, by decide +kernel⟩
def d_law : He.DefD := ⟨("law", none), "law", "law", defArgs (top 41), defBody (top 41), defScope (top 41), [], []⟩
theorem sc_law : FnScope ["_law_script", "_law_bag_here", "_law_turn", "_law_names_here", "_law_plans_z", "_law_who", "_law_order_z", "_law_ticks_z", "_law_amid", "_law_due", "_law_found", "_law_less", "_law_wide", "_law_full", "_law_rest"] ["_law_script"] d_law.scope := ⟨rfl, rfl, rfl, by decide +kernel, rfl, by decide +kernel, by decide +kernel⟩
def d__law_draw : He.DefD := ⟨("_law_draw", none), "_law_draw", "_law_draw", defArgs (top 32), defBody (top 32), defScope (top 32), [], []⟩
theorem sc__law_draw : FnScope ["_law_bag_here", "_law_many", "_law_cell", "_law_got"] ["_law_bag_here", "_law_many"] d__law_draw.scope := ⟨rfl, rfl, rfl, by decide +kernel, rfl, by decide +kernel, by decide +kernel⟩
def d__law_bag : He.DefD := ⟨("_law_bag", none), "_law_bag", "_law_bag", defArgs (top 31), defBody (top 31), defScope (top 31), [], []⟩
theorem sc__law_bag : FnScope ["_law_script", "_law_cells"] ["_law_script"] d__law_bag.scope := ⟨rfl, rfl, rfl, by decide +kernel, rfl, by decide +kernel, by decide +kernel⟩
def d__law_pick : He.DefD := ⟨("_law_pick", none), "_law_pick", "_law_pick", defArgs (top 33), defBody (top 33), defScope (top 33), [], []⟩
theorem sc__law_pick : FnScope ["_law_bag_here", "_law_some"] ["_law_bag_here", "_law_some"] d__law_pick.scope := ⟨rfl, rfl, rfl, by decide +kernel, rfl, by decide +kernel, by decide +kernel⟩
def d__law_same : He.DefD := ⟨("_law_same", none), "_law_same", "_law_same", defArgs (top 40), defBody (top 40), defScope (top 40), [], []⟩
theorem sc__law_same : FnScope ["_law_found", "_law_due", "_law_a", "_law_b"] ["_law_found", "_law_due"] d__law_same.scope := ⟨rfl, rfl, rfl, by decide +kernel, rfl, by decide +kernel, by decide +kernel⟩
section
variable {P : Program} {w : World} {K : PySem.W.Frag} {mg : Str → Option Value} {base : Heap}
theorem ok_draw (h : DefAt K mg d__law_draw) (T : Facts mg) : FnV P w K mg base d__law_draw 1 ["_law_bag_here", "_law_many"] fDraw := by
  obtain ⟨⟨fd, hf⟩, hm⟩ := h
  refine ⟨⟨fd, hf, hf.ok sc__law_draw (fun vs H Q E ⟨G, svs, Qs, ok, r, ha, ⟨n, e, _⟩, z⟩ => by rw [r.length, e]; rfl) (fun cdv A outer s H vs Q E hr hsp => ?_)⟩, hm⟩
  refine ⟨_, PSs.nox (C8.pss_cut (ps_if (PW.pt (pw_and (pt_cmpR op_eq (pe_ix ix_list (pv 0) pe_int (fun _ _ => rfl)) pe_int (nomark _))
      (pw_and1 (pt_cmpR op_lt (pe_ix ix_list (pv 0) pe_int (fun _ _ => rfl)) (pe_callB call_len_seq (by rfl) T.len PySem.boot_len (pa_cons (pe_ix ix_list (pv 0) pe_int (fun _ _ => rfl)) pa_nil)) (nomark _)))))
      (pss_cons (ps_set (i := 2) sc__law_draw.nd rfl (.inl rfl) (pe_ix ix_list (pe_ix ix_list (pv 0) pe_int (fun _ _ => rfl)) (pe_ix ix_list (pv 0) pe_int (fun _ _ => rfl)) (fun _ _ => rfl)))
      (pss_cons (ps_asg (pe_op op_add (pe_ix ix_list (pv 0) pe_int (fun _ _ => rfl)) pe_int) (pg_sub (pv 0) pe_int set_list))
      (pss_one (ps_if (pt_cmpR op_ge (pe_callB call_abs (by rfl) T.abs (by decide +kernel) (pa_cons (pv 2) pa_nil)) (pe_op op_pow pe_int pe_int) (nomark _))
        (pss_one (ps_asg (pe_callB call_abs (by rfl) T.abs (by decide +kernel) (pa_cons (pv 2) pa_nil)) (pg_sub (pv 0) pe_int set_list)))
        (pss_one (ps_asg (pe_op op_mod (pe_callTy call_int1 (by rfl) T.int (by decide +kernel) (pa_cons (pe_op op_add (pe_op op_add (pe_op op_mul (pe_ix ix_list (pv 0) pe_int (fun _ _ => rfl)) pe_int)
            (pe_op op_mul (pe_op op_mod (pe_callTy call_int1 (by rfl) T.int (by decide +kernel) (pa_cons (pv 2) pa_nil)) pe_int) pe_int)) pe_int) pa_nil)) pe_int) (pg_sub (pv 0) pe_int set_list)))))))
      pss_nil)
    (pss_cons (ps_if (pt_cmpR op_gt (pe_ix ix_list (pv 0) pe_int (fun _ _ => rfl)) pe_int (nomark _))
      (pss_cons (ps_set (i := 3) sc__law_draw.nd rfl (.inl rfl) (pe_op op_mod (pe_callTy call_int1 (by rfl) T.int (by decide +kernel) (pa_cons (pe_ix ix_list (pv 0) pe_int (fun _ _ => rfl)) pa_nil)) (pv 1)))
      (pss_cons (ps_asg (pe_op op_fdivW (pe_ix ix_list (pv 0) pe_int (fun _ _ => rfl)) (pv 1)) (pg_sub (pv 0) pe_int set_list))
      (pss_one (ps_ret (pv 3)))))
      pss_nil)
    (pss_cons (ps_asg (pe_op op_mod (pe_callTy call_int1 (by rfl) T.int (by decide +kernel) (pa_cons (pe_op op_add (pe_op op_add (pe_op op_mul (pe_op op_mul (pe_ix ix_list (pv 0) pe_int (fun _ _ => rfl)) (pe_ix ix_list (pv 0) pe_int (fun _ _ => rfl))) pe_int)
        (pe_op op_mul (pe_ix ix_list (pv 0) pe_int (fun _ _ => rfl)) pe_int)) pe_int) pa_nil)) pe_int) (pg_sub (pv 0) pe_int set_list))
    (pss_one (ps_ret (pe_op op_mod (pe_callTy call_int1 (by rfl) T.int (by decide +kernel) (pa_cons (pe_op op_fdivW (pe_ix ix_list (pv 0) pe_int (fun _ _ => rfl)) pe_int) pa_nil)) (pv 1))))))), ?_⟩
  obtain ⟨G, svs, Qs, ⟨ok, _⟩, rl, ha, ⟨n, rfl, hn, hl, hq⟩, z⟩ := hsp
  obtain ⟨p, rfl, hpb, b0⟩ : ∃ p, vs = [.ref p, .int n] ∧ G.pb = some p ∧ BagAt G H p := by
    cases rl with
    | cons r1 t1 _ => cases t1 with
      | cons r2 t2 _ =>
        cases t2
        obtain ⟨p, rfl, hp⟩ := r1
        have e2 : _ = V.int n := r2
        subst e2
        exact ⟨p, rfl, hp, (ok.bag p hp).1⟩
  obtain ⟨c, ns, i0, r0, m0, e0, ec, hlen, hi0, hr0, hm0, hm1⟩ := b0
  have B0 : BagN G H p c ns i0 r0 m0 := ⟨ok, hpb, e0, ec, hlen, hi0, hr0, hm0, hm1⟩
  have fin : ∀ (H' : Hp) (i r m x : Int), BagN G H' p c ns i r m → (∀ y, y ≠ p → H' y = H y) → 0 ≤ x → x < n → Q (.int x) H' := fun H' i r m x b off h0 h1 =>
    z _ H' G (.tr (.int x)) (B0.ext b off) rfl trivial (hq x h0 h1)
  have sqB : ∀ {H' : Hp} {i r m : Int}, BagN G H' p c ns i r m → SqL K H' p [.ref c, .int i, .int r, .int m] := fun b => .of b.at_
  have sqC : ∀ {H' : Hp} {i r m : Int}, BagN G H' p c ns i r m → SqL K H' c (ns.map V.int) := fun b => .of b.cellsH
  have offp : ∀ {H' : Hp} {o : HO}, (∀ y, y ≠ p → H' y = H y) → ∀ y, y ≠ p → upd H' p o y = H y := fun h y hy => by rw [upd_ne hy]; exact h y hy
  have at0 : ∀ (c : Addr) (i r m : Int), atI ([.ref c, .int i, .int r, .int m] : List V) 0 = some (.ref c) := fun _ _ _ _ => rfl
  have at1 : ∀ (c : Addr) (i r m : Int), atI ([.ref c, .int i, .int r, .int m] : List V) 1 = some (.int i) := fun _ _ _ _ => rfl
  have at2 : ∀ (c : Addr) (i r m : Int), atI ([.ref c, .int i, .int r, .int m] : List V) 2 = some (.int r) := fun _ _ _ _ => rfl
  have at3 : ∀ (c : Addr) (i r m : Int), atI ([.ref c, .int i, .int r, .int m] : List V) 3 = some (.int m) := fun _ _ _ _ => rfl
  refine ⟨fun σ H1 => ∃ a b i r m, σ = [some (.ref p), some (.int n), a, b] ∧ BagN G H1 p c ns i r m ∧ ∀ y, y ≠ p → H1 y = H y, ?_, ?_⟩
  · -- the cells
    refine ⟨_, rfl, p, _, _, _, rfl, rfl, sqB B0, at2 _ _ _ _, rfl, _, rfl, ?_⟩
    refine ite2 (fun _ => ?_) (fun _ => ?_)
    · refine ⟨_, rfl, p, _, _, _, rfl, rfl, sqB B0, at1 _ _ _ _, _, rfl, p, _, _, _, rfl, rfl, sqB B0, at0 _ _ _ _, c, _, rfl, .inl (sqC B0), _, _, rfl, rfl, _, rfl, ?_⟩
      refine ite2 (fun hlt => ?_) (fun _ => ?_)
      · have hlt : i0 < (ns.length : Int) := by
          have := of_decide_eq_true hlt
          rw [List.length_map] at this
          exact this
        obtain ⟨j, rfl⟩ : ∃ j : Nat, i0 = j := ⟨i0.toNat, by omega⟩
        have hj : j < ns.length := by omega
        have hat : atI (ns.map V.int) (j : Int) = some (.int ns[j]) := by
          unfold atI ixN
          rw [if_pos (by omega), if_pos (by rw [List.length_map]; omega)]
          simp [hj]
        have B1 := B0.put (i' := (j : Int) + 1) (r' := r0) (m' := m0) (by omega) hr0 ⟨hm0, hm1⟩
        refine ⟨_, rfl, p, _, _, _, rfl, rfl, sqB B0, at0 _ _ _ _, _, rfl, p, _, _, _, rfl, rfl, sqB B0, at1 _ _ _ _, c, _, _, _, rfl, rfl, sqC B0, hat, ?_⟩
        refine ⟨_, rfl, p, _, _, _, rfl, rfl, sqB B0, at1 _ _ _ _, _, _, rfl, rfl, _, rfl, p, _, _, 1, rfl, rfl, e0, rfl, ?_⟩
        refine ⟨_, rfl, _, rfl, _, _, rfl, rfl, ⟨by decide, by decide, by decide⟩, _, _, rfl, rfl, _, rfl, ?_⟩
        refine ite2 (fun _ => ?_) (fun _ => ?_)
        · refine ⟨_, rfl, _, rfl, _, rfl, p, _, _, 2, rfl, rfl, B1.at_, rfl, ?_⟩
          exact ⟨_, _, _, _, _, rfl, B1.put (by omega) (by split <;> omega) ⟨hm0, hm1⟩, offp (offp fun _ _ => rfl)⟩
        · refine ⟨_, rfl, p, _, _, _, rfl, rfl, sqB B1, at3 _ _ _ _, _, _, rfl, rfl, .inl (by constructor <;> omega), ?_⟩
          refine ⟨_, rfl, .inl ⟨_, rfl, _, _, rfl, rfl, (by show (0 : Int) < 1000081; decide), _, _, rfl, rfl, .inl (by constructor <;> omega), _, _, rfl, rfl, _, _, rfl, rfl, ?_⟩⟩
          refine .inl ⟨_, rfl, _, _, rfl, rfl, (by show (0 : Int) < 2147483543; decide), _, rfl, p, _, _, 3, rfl, rfl, B1.at_, rfl, ?_⟩
          exact ⟨_, _, _, _, _, rfl, B1.put (by omega) hr0 (by constructor <;> omega), offp (offp fun _ _ => rfl)⟩
      · exact ⟨_, _, _, _, _, rfl, B0, fun _ _ => rfl⟩
    · exact ⟨_, _, _, _, _, rfl, B0, fun _ _ => rfl⟩
  · rintro σ H1 ⟨a, b, i, r, m, rfl, B, off⟩
    have hi := B.hi
    have hr' := B.hr
    have hm' := B.hm
    -- the rest of a great cell
    refine ⟨_, rfl, p, _, _, _, rfl, rfl, sqB B, at2 _ _ _ _, _, _, rfl, rfl, _, rfl, ?_⟩
    refine ite2 (fun hpos => ?_) (fun _ => ?_)
    · refine ⟨_, rfl, p, _, _, _, rfl, rfl, sqB B, at2 _ _ _ _, .inl ⟨_, rfl, _, rfl, _, _, rfl, rfl, hn, ?_⟩⟩
      refine ⟨_, rfl, p, _, _, _, rfl, rfl, sqB B, at2 _ _ _ _, _, rfl, _, _, rfl, rfl, ⟨hn, hl⟩, _, rfl, p, _, _, 2, rfl, rfl, B.at_, rfl, ?_⟩
      exact ⟨_, rfl, fin _ i (r / n) m (r % n) (B.put hi (Int.ediv_nonneg hr' (by omega)) hm') (offp off) (Int.emod_nonneg _ (by omega)) (Int.emod_lt_of_pos _ hn)⟩
    -- the mixed number
    have hsq : m * m < 4611686018427387904 := by
      have h1 : m * m ≤ 2147483647 * 2147483647 := Int.mul_le_mul (by omega) (by omega) hm'.1 (by decide)
      omega
    have hsq0 : 0 ≤ m * m := Int.mul_nonneg hm'.1 hm'.1
    refine ⟨_, rfl, p, _, _, _, rfl, rfl, sqB B, at3 _ _ _ _, _, rfl, p, _, _, _, rfl, rfl, sqB B, at3 _ _ _ _, _, _, rfl, rfl, .inl (by constructor <;> omega), _, _, rfl, rfl, .inl (by constructor <;> omega), ?_⟩
    refine ⟨_, rfl, p, _, _, _, rfl, rfl, sqB B, at3 _ _ _ _, _, _, rfl, rfl, .inl (by constructor <;> omega), _, _, rfl, rfl, _, _, rfl, rfl, .inl ⟨_, rfl, ?_⟩⟩
    refine ⟨_, _, rfl, rfl, (by show (0 : Int) < 2147483563; decide), _, rfl, p, _, _, 3, rfl, rfl, B.at_, rfl, ?_⟩
    have B2 := B.put (i' := i) (r' := r) (m' := (m * m * 5 + m * 31013 + 1700021) % 2147483563) hi hr' (by constructor <;> omega)
    refine ⟨_, rfl, p, _, _, _, rfl, rfl, sqB B2, at3 _ _ _ _, _, _, rfl, rfl, ⟨by decide, by decide⟩, .inl ⟨_, rfl, _, rfl, _, _, rfl, rfl, hn, ?_⟩⟩
    exact fin _ i r _ _ B2 (offp off) (Int.emod_nonneg _ (by omega)) (Int.emod_lt_of_pos _ hn)
theorem ok_bag (h : DefAt K mg d__law_bag) (T : Facts mg) : ∃ fd, FunD K "_law_bag" "_law_bag" d__law_bag.params d__law_bag.body d__law_bag.scope [] [] (He.fAd K d__law_bag.at_) fd ∧ FnOk P w K mg base CX0 1 (He.fAd K d__law_bag.at_) fd ["_law_script"] (spBag K) := by
  obtain ⟨⟨fd, hf⟩, hm⟩ := h
  refine ⟨fd, hf, hf.ok sc__law_bag (fun vs H Q E ⟨a, ns, e, _⟩ => by rw [e]; rfl) (fun cdv A outer s H vs Q E hr hsp => ?_)⟩
  refine ⟨_, PSs.nox (pss_cons (ps_set (i := 1) sc__law_bag.nd rfl (.inl rfl) (pe_callTy call_list_of (by rfl) T.list (by decide +kernel) (pa_cons (pe_slice sl_list (pv 0) po_none (po_some pe_int)) pa_nil)))
    (pss_one (ps_ret (pe_lst (pa_cons (pv 1) (pa_cons pe_int (pa_cons pe_int (pa_cons (pe_op op_add pe_int (pe_op op_mul pe_int (pe_callB call_len_seq (by rfl) T.len PySem.boot_len (pa_cons (pv 1) pa_nil)))) pa_nil)))))))), ?_⟩
  obtain ⟨a, ns, rfl, hS, hq⟩ := hsp
  refine ⟨_, rfl, _, rfl, a, _, rfl, hS, fun p hp => ?_⟩
  rw [cut63]
  refine ⟨p, cellsV ns, rfl, .inl (.of upd_same), fun c hc => ?_⟩
  refine ⟨_, rfl, _, rfl, c, _, rfl, .inl (.of upd_same), ?_⟩
  refine ⟨_, _, rfl, rfl, ?_, _, _, rfl, rfl, ?_⟩
  · exact .inl ⟨by decide, by decide⟩
  refine ⟨by show 4 ≤ sizeLine; decide, fun q hq' => ?_⟩
  have hcq : c ≠ q := fun z => by rw [z, upd_same] at hq'; cases hq'
  have hpc : p ≠ c := fun z => by rw [z, upd_same] at hc; cases hc
  rw [upd_ne hpc.symm] at hc
  rw [upd_ne hcq.symm] at hq'
  have hpq : q ≠ p := fun z => by rw [z, upd_same] at hq'; cases hq'
  rw [upd_ne hpq] at hq'
  refine hq _ c q hc hq' (by rw [upd_ne hcq, upd_same]) upd_same fun b o e => ?_
  rw [upd_ne (ne_of_none e hq'), upd_ne (ne_of_none e hc), upd_ne (ne_of_none e hp)]
  exact e
theorem ok_pick (h : DefAt K mg d__law_pick) (T : Facts mg) (c__law_draw : FnV P w K mg base d__law_draw 1 ["_law_bag_here", "_law_many"] fDraw) : FnV P w K mg base d__law_pick 2 ["_law_bag_here", "_law_some"] fPick :=
  fnv_ok h sc__law_pick (fun f cdv A outer s H E hr => (vss_one (vs_ret (ve_ixA (hu1 hr) (ve_name 1) (ve_cv c__law_draw (hr.mono (by omega)) rfl rfl rfl (fun _ _ _ _ _ _ us hl => match us, hl with | [_, _], _ => rfl) (by rfl) (va_cons (ve_name 0) (va_cons (ve_fz (ve_callB cw_len (by rfl) T.len (by decide +kernel) (va_cons (ve_name 1) va_nil))) va_nil))))))) (by rintro svs Qs (⟨_, rfl, _⟩ | ⟨_, rfl, _⟩) <;> rfl) (by
    rintro svs Qs (⟨xs, rfl, h0, h1, q⟩ | ⟨z, rfl, h0, h1, q⟩)
    · simp
      refine ⟨h0, log_lt (by omega), fun r r0 r1 => ?_⟩
      obtain ⟨d, hd, e⟩ := atI_lt r0 r1
      exact ⟨d, e, q d hd⟩
    · simp
      refine ⟨h0, log_lt (by omega), fun r r0 r1 => ?_⟩
      obtain ⟨d, hd, e⟩ := atI_lt (xs := z.cps.toList) r0 r1
      exact ⟨d, e, q d hd⟩)
theorem ok_same (h : DefAt K mg d__law_same) (T : Facts mg) (n : Nat) : FnV P w K mg base d__law_same n ["_law_found", "_law_due"] (fSame n) := by
  induction n with
  | zero => exact (FnV.none h).imp (by rintro svs Q ⟨_, _, a, b, _, _, _, _, _, _, h, _⟩; omega)
  | succ n c__law_same =>
    exact fnv_ok h sc__law_same (fun f cdv A outer s H E hr => (vss_cons (vs_if (vc_tru (ve_isi .list (ve_name 1) (by rfl) T.isinstance (by rfl) T.list (by decide +kernel))) (vss_one (vs_ret (ve_and (ve_isi .list (ve_name 0) (by rfl) T.isinstance (by rfl) T.list (by decide +kernel)) (ve_and (ve_cmp (ow_eq hr.units) (ve_callB cw_len (by rfl) T.len (by decide +kernel) (va_cons (ve_name 0) va_nil)) (ve_callB cw_len (by rfl) T.len (by decide +kernel) (va_cons (ve_name 1) va_nil))) (ve_one (ve_callB (cw_all rfl) (by rfl) T.all (by decide +kernel) (va_cons (ve_lc (own := [("_law_a", 2), ("_law_b", 3)]) rfl sc__law_same.nd (vi_zip (by rfl) T.zip (va_cons (ve_name 0) (va_cons (ve_name 1) va_nil))) (blkOk_by (own := [("_law_a", 2), ("_law_b", 3)]) (N := ["_law_found", "_law_due", "_law_a", "_law_b"]) (sc := d__law_same.scope) (by decide +kernel)) (fun _ _ _ _ _ => (vg_tup rfl (vgs_cons (i := 2) sc__law_same.nd rfl (by first | exact Or.inl rfl | exact Or.inr rfl) (vgs_cons (i := 3) sc__law_same.nd rfl (by first | exact Or.inl rfl | exact Or.inr rfl) vgs_nil)))) (fun _ _ _ _ _ => vcs_nil) (fun _ _ _ _ _ => (ve_fz (ve_cv c__law_same (hr.mono (by omega)) rfl rfl rfl (fun _ _ _ _ _ _ us hl => match us, hl with | [_, _], _ => rfl) (by rfl) (va_cons (ve_name 2) (va_cons (ve_name 3) va_nil)))))) va_nil))))))) vss_nil) (vss_cons (vs_if (vc_tru (ve_isi .tuple (ve_name 1) (by rfl) T.isinstance (by rfl) T.tuple (by decide +kernel))) (vss_one (vs_ret (ve_and (ve_isi .tuple (ve_name 0) (by rfl) T.isinstance (by rfl) T.tuple (by decide +kernel)) (ve_and (ve_cmp (ow_eq hr.units) (ve_callB cw_len (by rfl) T.len (by decide +kernel) (va_cons (ve_name 0) va_nil)) (ve_callB cw_len (by rfl) T.len (by decide +kernel) (va_cons (ve_name 1) va_nil))) (ve_one (ve_callB (cw_all rfl) (by rfl) T.all (by decide +kernel) (va_cons (ve_lc (own := [("_law_a", 2), ("_law_b", 3)]) rfl sc__law_same.nd (vi_zip (by rfl) T.zip (va_cons (ve_name 0) (va_cons (ve_name 1) va_nil))) (blkOk_by (own := [("_law_a", 2), ("_law_b", 3)]) (N := ["_law_found", "_law_due", "_law_a", "_law_b"]) (sc := d__law_same.scope) (by decide +kernel)) (fun _ _ _ _ _ => (vg_tup rfl (vgs_cons (i := 2) sc__law_same.nd rfl (by first | exact Or.inl rfl | exact Or.inr rfl) (vgs_cons (i := 3) sc__law_same.nd rfl (by first | exact Or.inl rfl | exact Or.inr rfl) vgs_nil)))) (fun _ _ _ _ _ => vcs_nil) (fun _ _ _ _ _ => (ve_fz (ve_cv c__law_same (hr.mono (by omega)) rfl rfl rfl (fun _ _ _ _ _ _ us hl => match us, hl with | [_, _], _ => rfl) (by rfl) (va_cons (ve_name 2) (va_cons (ve_name 3) va_nil)))))) va_nil))))))) vss_nil) (vss_cons (vs_if (VW.vc (vw_or (vc_cmp ow_is (ve_name 1) ve_non) (vw_or1 (vc_cmp ow_is (ve_name 0) ve_non)))) (vss_one (vs_ret (ve_and (ve_cmp ow_is (ve_name 1) ve_non) (ve_one (ve_cmp ow_is (ve_name 0) ve_non))))) vss_nil) (vss_cons (vs_if (VW.vc (vw_or (vc_tru (ve_isi .bool (ve_name 1) (by rfl) T.isinstance (by rfl) T.bool (by decide +kernel))) (vw_or1 (vc_tru (ve_isi .bool (ve_name 0) (by rfl) T.isinstance (by rfl) T.bool (by decide +kernel)))))) (vss_one (vs_ret (ve_and (ve_isi .bool (ve_name 1) (by rfl) T.isinstance (by rfl) T.bool (by decide +kernel)) (ve_and (ve_isi .bool (ve_name 0) (by rfl) T.isinstance (by rfl) T.bool (by decide +kernel)) (ve_one (ve_cmp (ow_eq hr.units) (ve_name 0) (ve_name 1))))))) vss_nil) (vss_cons (vs_if (vc_tru (ve_isi .int (ve_name 1) (by rfl) T.isinstance (by rfl) T.int (by decide +kernel))) (vss_one (vs_ret (ve_and (ve_isi .int (ve_name 0) (by rfl) T.isinstance (by rfl) T.int (by decide +kernel)) (ve_one (ve_cmp (ow_eq hr.units) (ve_name 0) (ve_name 1)))))) vss_nil) (vss_one (vs_ret (ve_and (ve_isi .str (ve_name 0) (by rfl) T.isinstance (by rfl) T.str (by decide +kernel)) (ve_one (ve_cmp (ow_eq hr.units) (ve_name 0) (ve_name 1)))))))))))) (by rintro svs Qs ⟨_, _, _, _, rfl, _⟩; rfl) (by
      rintro svs Qs ⟨sa, sb, a, b, rfl, ia, ib, ha, hb, hw, hd, q⟩
      cases b <;> cases a <;> first
        | (simp [D.dat] at ha; done)
        | (simp [D.dat] at hb; done)
        | (simpa [sameD, gSeq, ia.look, ia.d, ib.look, ib.d] using q)
        | skip
      all_goals
        rename_i ys xs
        simp [sameD] at q ha hb hd hw
        simp [gSeq, ia.look, ia.d, ib.look, ib.d]
        split
        · rename_i hl
          have hl : xs.length = ys.length := by omega
          first | rw [zipR_isa ia ib] | rw [zipR_isat ia ib]
          rw [zipD_eq]
          refine lcW_map (fun (p : D × D) => .tup [p.1, p.2]) (fun (p : D × D) => .bl (sameD p.1 p.2)) rfl ?_ (fun p hp R r => ?_) ?_
          · rw [List.length_zip]
            unfold sizeLine
            omega
          · have h1 := List.of_mem_zip (a := p.1) (b := p.2) hp
            simp [gSeq]
            exact ⟨dats_all ha _ h1.1, dats_all hb _ h1.2, wids_all hw.2 _ h1.2, dep_lt_of_mem (by omega) _ h1.2, r⟩
          · simp
            rw [← sames_zip]
            simpa [hl] using q
        · rename_i hl
          have hl : xs.length ≠ ys.length := by omega
          simpa [hl] using q)
end
section
variable {P : Program} {w : World} {K : PySem.W.Frag} {mg : Str → Option Value} {base : Heap}
end
end K12

namespace K12
open PySem PySem.Spec PyProof.Rows L2 VT
def letters : Str := "abcdefghijklmnopqrstuvwxyz"
theorem letters_eq : (Str.ofString "abcdefghijklmnopqrstuvwxyz") = letters := rfl
def isNameS (z : Str) : Bool := decide (1 ≤ z.length) && (decide (z.length ≤ 6) && z.cps.toList.all fun c => decide (c ∈ letters.cps))
def isNameD : D → Bool
  | .str z => isNameS z
  | _ => false
def isNumD : D → Bool
  | .int _ => true
  | _ => false
def inD (d : D) (a b : Int) : Bool := match d with
  | .int i => decide (a ≤ i) && decide (i ≤ b)
  | _ => false
def entryD : D → Bool
  | .tup [a, b] => inD b 1 60 && (a.isNon || isNameD a)
  | _ => false
def fWithin : FSp := fun svs Q => ∃ d a b, svs = [.tr d, .tr (.int a), .tr (.int b)] ∧ d.kind.isSome = true ∧ Q (.tr (.bl (inD d a b)))
@[simp] theorem fWithin_eq (d : D) (a b : Int) (Q : SV → Prop) : fWithin [.tr d, .tr (.int a), .tr (.int b)] Q ↔ d.kind.isSome = true ∧ Q (.tr (.bl (inD d a b))) := by
  constructor
  · rintro ⟨d, a, b, e, h⟩
    cases e
    exact h
  · exact fun h => ⟨d, a, b, rfl, h⟩
def fEntry : FSp := fun svs Q => ∃ d, svs = [.tr d] ∧ d.dat = true ∧ Q (.tr (.bl (entryD d)))
@[simp] theorem fEntry_eq (d : D) (Q : SV → Prop) : fEntry [.tr d] Q ↔ d.dat = true ∧ Q (.tr (.bl (entryD d))) := by simp [fEntry]
def lastD : Option (Int × Int × Int) → D
  | none => .non
  | some (a, b, c) => .tup [.int a, .int b, .int c]
def goP : Option (Int × Int × Int) → List D → Bool
  | _, [] => true
  | l, .tup [.int a, .int b, .int c] :: r => if b < a ∨ c < 1 ∨ 60 < c then false else
    match l with
    | some (a0, b0, _) => if a < a0 ∨ b < b0 then false else goP (some (a, b, c)) r
    | none => goP (some (a, b, c)) r
  | _, _ => false
theorem goP_bad {l : Option (Int × Int × Int)} {d : D} {r : List D} (h : ∀ a b c, d ≠ .tup [.int a, .int b, .int c]) : goP l (d :: r) = false := by
  unfold goP
  split
  · rename_i e
    cases e
  · rename_i a b c r e
    cases e
    exact (h _ _ _ rfl).elim
  · rfl
theorem nums3 {xs : List D} (hl : xs.length = 3) (h : xs.all isNumD = true) : ∃ a b c, xs = [.int a, .int b, .int c] := by
  match xs, hl with
  | [x, y, z], _ =>
    simp at h
    cases x <;> cases y <;> cases z <;> simp [isNumD] at h
    exact ⟨_, _, _, rfl⟩
def planD : D → Bool
  | .lst xs => goP none xs
  | .tup xs => goP none xs
  | _ => false
def fPlan : FSp := fun svs Q => ∃ sv d, svs = [sv] ∧ IsA sv d ∧ (d.dat = true ∨ d = .dic []) ∧ Q (.tr (.bl (planD d)))
@[simp] theorem fPlan_tr (d : D) (Q : SV → Prop) : fPlan [.tr d] Q ↔ (d.dat = true ∨ d = .dic []) ∧ Q (.tr (.bl (planD d))) := by simp [fPlan]
@[simp] theorem fPlan_brw (d : D) (Q : SV → Prop) : fPlan [.brw d] Q ↔ (d.dat = true ∨ d = .dic []) ∧ Q (.tr (.bl (planD d))) := by simp [fPlan]
abbrev Row := Int × Int × Int
def rowD (r : Row) : D := .tup [.int r.1, .int r.2.1, .int r.2.2]
abbrev Ent := Option Str × Int
def whoD : Option Str → D
  | none => .non
  | some z => .str z
def entD (e : Ent) : D := .tup [whoD e.1, .int e.2]
/-- the rows of a name in a dict of plans; none: no key -/
def PlanAt (kvs : List (Key × D)) (n : Str) (rs : List Row) : Prop := (∃ d, valD kvs (.inr n) = some d ∧ (d = .lst (rs.map rowD) ∨ d = .tup (rs.map rowD))) ∨ (valD kvs (.inr n) = none ∧ rs = [])
def able (rows : Str → List Row) (sp : Str → Nat) (t : Int) (n : Str) : Bool := match (rows n)[sp n]? with
  | some r => decide (r.2.1 ≤ t)
  | none => false
def win (ns : List Str) (rows : Str → List Row) (sp : Str → Nat) (t : Int) : Option Str := ns.find? (able rows sp t)
def spD (ns : List Str) (sp : Str → Nat) : List (Key × D) := mapD ns fun n => .int (sp n : Nat)
def fNeed : FSp := fun svs Q => ∃ ns : List Str, svs = [.tr (.tup (ns.map .str))] ∧ (∀ n ∈ ns, isNameS n = true) ∧ ns.Nodup ∧ ns.length ≤ 1000 ∧ Q (.tr .non)
def fWin : FSp := fun svs Q => ∃ (ns : List Str) (sp : SV) (kvs : List (Key × D)) (rows : Str → List Row) (spots : Str → Nat) (t : Int), svs = [.tr (.tup (ns.map .str)), sp, .brw (.dic (spD ns spots)), .tr (.int t)] ∧ IsA sp (.dic kvs) ∧ (∀ n ∈ ns, PlanAt kvs n (rows n)) ∧
  Q (.tr (whoD (win ns rows spots t)))
section
variable {P : Program} {w : World} {K : PySem.W.Frag} {mg : Str → Option Value} {base : Heap}
theorem ok_is_name (h : DefAt K mg d_is_name) (T : Facts mg) : FnV P w K mg base d_is_name 1 ["value"] (f1 fun d => .bl (isNameD d)) :=
  fnv_ok h sc_is_name (fun f cdv A outer s H E hr => (vss_one (vs_ret (ve_and (ve_isi .str (ve_name 0) (by rfl) T.isinstance (by rfl) T.str (by decide +kernel)) (ve_and (ve_chain ow_le ow_le ve_int (ve_callB cw_len (by rfl) T.len (by decide +kernel) (va_cons (ve_name 0) va_nil)) (ve_gint T.c_MOST_SIGNS (by rfl))) (ve_one (ve_callB (cw_all rfl) (by rfl) T.all (by decide +kernel) (va_cons (ve_lc (own := [("sign", 1)]) rfl sc_is_name.nd (vi_seq (ve_name 0)) (blkOk_by (own := [("sign", 1)]) (N := ["value", "sign"]) (sc := d_is_name.scope) (by decide +kernel)) (fun _ _ _ _ _ => (vg_name (i := 1) sc_is_name.nd rfl (by first | exact Or.inl rfl | exact Or.inr rfl))) (fun _ _ _ _ _ => vcs_nil) (fun _ _ _ _ _ => (ve_cmp (ow_in hr.units (hu65 hr)) (ve_name 1) (ve_gstr T.c_LETTERS (by rfl))))) va_nil)))))))) f1_len (by
    rintro svs Qs ⟨d, rfl, hk, q⟩
    cases d <;> first
      | (simp [D.kind] at hk; done)
      | (simpa [isNameD, gSeq] using q)
      | skip
    rename_i z
    simp [gSeq]
    by_cases h1 : 1 ≤ z.length
    · refine .inr ⟨by omega, ?_⟩
      by_cases h2 : z.length ≤ 6
      · refine .inr ⟨by omega, lcW_map (fun c => .str ⟨#[c]⟩) (fun c => .bl (decide (c ∈ letters.cps))) rfl ?_ (fun c hc R r => ?_) ?_⟩
        · have : z.cps.toList.length = z.length := rfl
          rw [this]; unfold sizeLine; omega
        · simp
          exact r
        · simp
          simpa [isNameD, isNameS, h1, h2, List.all_map, Function.comp_def] using q
      · refine .inl ⟨by omega, ?_⟩
        simpa [isNameD, isNameS, h1, h2] using q
    · refine .inl ⟨by omega, ?_⟩
      simpa [isNameD, isNameS, h1] using q)
theorem ok_is_number (h : DefAt K mg d_is_number) (T : Facts mg) : FnV P w K mg base d_is_number 1 ["value"] (f1 fun d => .bl (isNumD d)) :=
  fnv_ok h sc_is_number (fun f cdv A outer s H E hr => (vss_one (vs_ret (ve_and (ve_isi .int (ve_name 0) (by rfl) T.isinstance (by rfl) T.int (by decide +kernel)) (ve_one (ve_not (ve_isi .bool (ve_name 0) (by rfl) T.isinstance (by rfl) T.bool (by decide +kernel)))))))) f1_len (by
    rintro svs Qs ⟨d, rfl, hk, q⟩
    cases d <;> first
      | (simp [D.kind] at hk; done)
      | (simpa [isNumD, gSeq] using q))
theorem ok_is_within (h : DefAt K mg d_is_within) (T : Facts mg) (c_is_number : FnV P w K mg base d_is_number 1 ["value"] (f1 fun d => .bl (isNumD d))) : FnV P w K mg base d_is_within 2 ["value", "least", "most"] fWithin :=
  fnv_ok h sc_is_within (fun f cdv A outer s H E hr => (vss_one (vs_ret (ve_and (ve_cv c_is_number (hr.mono (by omega)) rfl rfl rfl (fun _ _ _ _ _ _ us hl => match us, hl with | [_], _ => rfl) (by rfl) (va_cons (ve_name 0) va_nil)) (ve_one (ve_chain ow_le ow_le (ve_name 1) (ve_name 0) (ve_name 2))))))) (by rintro svs Qs ⟨_, _, _, rfl, _⟩; rfl) (by
    rintro svs Qs ⟨d, a, b, rfl, hk, q⟩
    simp [gSeq, hk]
    cases d <;> simp [isNumD, inD] at q ⊢ <;> try exact q
    rename_i i
    rcases ltge i a with h | h
    · exact .inl ⟨h, by simpa [h, Int.not_le.mpr h] using q⟩
    · exact .inr ⟨h, by simpa [h] using q⟩)
theorem ok_is_entry (h : DefAt K mg d_is_entry) (T : Facts mg) (c_is_name : FnV P w K mg base d_is_name 1 ["value"] (f1 fun d => .bl (isNameD d))) (c_is_within : FnV P w K mg base d_is_within 2 ["value", "least", "most"] fWithin) :
    FnV P w K mg base d_is_entry 3 ["value"] fEntry :=
  fnv_ok h sc_is_entry (fun f cdv A outer s H E hr => (vss_cons (vs_if (VW.vc (vw_or (vc_not (vc_tru (ve_isi .tuple (ve_name 0) (by rfl) T.isinstance (by rfl) T.tuple (by decide +kernel)))) (vw_or (vc_cmp (ow_ne hr.units) (ve_callB cw_len (by rfl) T.len (by decide +kernel) (va_cons (ve_name 0) va_nil)) ve_int) (vw_or1 (vc_not (vc_tru (ve_cv c_is_within (hr.mono (by omega)) rfl rfl rfl (fun _ _ _ _ _ _ us hl => match us, hl with | [_, _, _], _ => rfl) (by rfl) (va_cons (ve_fz (ve_ixA (hu1 hr) (ve_name 0) ve_int)) (va_cons ve_int (va_cons (ve_gint T.c_MOST_LENGTH (by rfl)) va_nil)))))))))) (vss_one (vs_ret ve_bl)) vss_nil) (vss_one (vs_ret (ve_or (ve_cmp ow_is (ve_ixA (hu1 hr) (ve_name 0) ve_int) ve_non) (ve_one (ve_cv c_is_name (hr.mono (by omega)) rfl rfl rfl (fun _ _ _ _ _ _ us hl => match us, hl with | [_], _ => rfl) (by rfl) (va_cons (ve_fz (ve_ixA (hu1 hr) (ve_name 0) ve_int)) va_nil)))))))) (by rintro svs Qs ⟨_, rfl, _⟩; rfl) (by
    rintro svs Qs ⟨d, rfl, hd, q⟩
    refine gSeq_go fun R hR => ?_
    simp [dat_kind hd]
    cases d with
    | tup xs =>
      simp
      by_cases hl : xs.length = 2
      · refine .inl ⟨by omega, ?_⟩
        match xs, hl with
        | [a, b], _ =>
          simp [D.dat] at hd
          simp [dat_kind hd.2]
          simp [entryD] at q
          cases hb : inD b 1 60
          · rw [hb] at q
            exact .inl ⟨rfl, by simpa using q⟩
          · rw [hb] at q
            refine .inr ⟨rfl, ?_⟩
            rw [hR]
            simp
            refine ⟨fun z => by rw [z] at hd; simp [D.dat] at hd, ?_⟩
            by_cases hn : a.isNon = true
            · simpa [hn] using q
            · simp [hn] at q
              simp [hn, dat_kind hd.1]
              exact q
      · refine .inr ⟨by omega, ?_⟩
        have e : entryD (.tup xs) = false := by
          unfold entryD
          split
          · rename_i a b h
            cases h
            exact absurd rfl hl
          · rfl
        rw [e] at q
        exact q
    | _ => first | (simp at hd; done) | (simpa [entryD] using q))
theorem ok_is_plan (h : DefAt K mg d_is_plan) (T : Facts mg) (c_is_number : FnV P w K mg base d_is_number 1 ["value"] (f1 fun d => .bl (isNumD d))) : FnV P w K mg base d_is_plan 2 ["value"] fPlan :=
  fnv_ok h sc_is_plan (fun f cdv A outer s H E hr => (vss_cons (vs_if (vc_not (vc_tru (ve_isi2 .list .tuple (ve_name 0) (by rfl) T.isinstance (by rfl) T.list (by decide +kernel) (by rfl) T.tuple (by decide +kernel)))) (vss_one (vs_ret ve_bl)) vss_nil) (vss_cons (vs_set (i := 1) sc_is_plan.nd rfl (by first | exact Or.inl rfl | exact Or.inr rfl) ve_non) (vss_cons (vs_for (by first | exact PassesOwn.never | exact passes_of rfl) rfl (vi_seq (ve_name 0)) (vg_name (i := 2) sc_is_plan.nd rfl (by first | exact Or.inl rfl | exact Or.inr rfl)) (vss_cons (vs_if (VW.vc (vw_or (vc_not (vc_tru (ve_isi .tuple (ve_name 2) (by rfl) T.isinstance (by rfl) T.tuple (by decide +kernel)))) (vw_or (vc_cmp (ow_ne hr.units) (ve_callB cw_len (by rfl) T.len (by decide +kernel) (va_cons (ve_name 2) va_nil)) ve_int) (vw_or1 (vc_not (vc_tru (ve_callB (cw_all rfl) (by rfl) T.all (by decide +kernel) (va_cons (ve_lc (own := [("one", 3)]) rfl sc_is_plan.nd (vi_seq (ve_name 2)) (blkOk_by (own := [("one", 3)]) (N := ["value", "last", "row", "one"]) (sc := d_is_plan.scope) (by decide +kernel)) (fun _ _ _ _ _ => (vg_name (i := 3) sc_is_plan.nd rfl (by first | exact Or.inl rfl | exact Or.inr rfl))) (fun _ _ _ _ _ => vcs_nil) (fun _ _ _ _ _ => (ve_fz (ve_cv c_is_number (hr.mono (by omega)) rfl rfl rfl (fun _ _ _ _ _ _ us hl => match us, hl with | [_], _ => rfl) (by rfl) (va_cons (ve_name 3) va_nil))))) va_nil)))))))) (vss_one (vs_ret ve_bl)) vss_nil) (vss_cons (vs_if (VW.vc (vw_or (vc_cmp ow_gt (ve_ixA (hu1 hr) (ve_name 2) ve_int) (ve_ixA (hu1 hr) (ve_name 2) ve_int)) (vw_or1 (vc_not (vc_chain ow_le ow_le ve_int (ve_ixA (hu1 hr) (ve_name 2) ve_int) (ve_gint T.c_MOST_LENGTH (by rfl))))))) (vss_one (vs_ret ve_bl)) vss_nil) (vss_cons (vs_if (VW.vc (vw_and (vc_cmp ow_isnot (ve_name 1) ve_non) (vw_and1 (VW.vc (vw_or (vc_cmp ow_lt (ve_ixA (hu1 hr) (ve_name 2) ve_int) (ve_ixA (hu1 hr) (ve_name 1) ve_int)) (vw_or1 (vc_cmp ow_lt (ve_ixA (hu1 hr) (ve_name 2) ve_int) (ve_ixA (hu1 hr) (ve_name 1) ve_int)))))))) (vss_one (vs_ret ve_bl)) vss_nil) (vss_one (vs_set (i := 1) sc_is_plan.nd rfl (by first | exact Or.inl rfl | exact Or.inr rfl) (ve_name 2))))))) (vss_one (vs_ret ve_bl)))))) (by rintro svs Qs ⟨_, _, rfl, _⟩; rfl) (by
    rintro svs Qs ⟨sv, d, rfl, ia, hd, q⟩
    rcases hd with hd | rfl
    · refine gSeq_go fun R hR => ?_
      simp [ia.look, ia.d, ia.st, dat_kind hd]
      split
      · rename_i ht
        obtain ⟨ds, hds, hall, hp⟩ : ∃ ds, d.items = some ds ∧ dats ds = true ∧ planD d = goP none ds := by
          cases d <;> simp at ht <;> exact ⟨_, rfl, hd, rfl⟩
        rw [hp] at q
        rw [hR]
        clear hR R
        refine gSeq_go fun R hR => ?_
        simp
        rw [hR]
        clear hR R
        refine gSeq_go fun R hR => ?_
        simp [ia.look, ia.d, ia.st, hds]
        refine ⟨fun r S => dats r = true ∧ goP none ds = goP none ds ∧ ∃ l y z, S = [some sv, some (.tr (lastD l)), y, z] ∧ goP none ds = goP l r, ⟨hall, rfl, none, _, _, rfl, rfl⟩, ?_, ?_⟩
        · rintro S ⟨_, _, l, y, z, rfl, e⟩
          show R _
          rw [hR]
          rw [e] at q
          simpa [goP] using q
        · rintro d r S ⟨hr, _, l, y, z, rfl, e⟩
          have e' := e
          rw [e] at q
          clear hR
          simp at hr
          simp
          refine gSeq_go fun R2 hR => ?_
          simp [dat_kind hr.1]
          by_cases h3 : ∃ a b c, d = .tup [.int a, .int b, .int c]
          · obtain ⟨a, b, c, rfl⟩ := h3
            simp
            refine lcW_mapD (fun d => .bl (isNumD d)) (by simp) (fun d hd R2 r2 => ?_) ?_
            · simp at hd
              rcases hd with rfl | rfl | rfl <;> simpa using r2
            · simp [isNumD]
              rw [hR]
              clear hR R2
              refine gSeq_go fun R2 hR => ?_
              simp
              by_cases h1 : b < a
              · exact .inr ⟨h1, by simpa [goP, h1] using q⟩
              refine .inl ⟨by omega, ?_⟩
              by_cases h2 : c < 1
              · exact .inl ⟨h2, by simpa [goP, h1, h2] using q⟩
              refine .inr ⟨by omega, ?_⟩
              by_cases h3 : 60 < c
              · exact .inl ⟨h3, by simpa [goP, h1, h2, h3] using q⟩
              refine .inr ⟨by omega, ?_⟩
              rw [hR]
              clear hR R2
              refine gSeq_go fun R2 hR => ?_
              cases l with
              | none =>
                simp [lastD]
                rw [hR]
                exact ⟨_, rfl, trivial, hr.2, some (a, b, c), ⟨_, _, rfl⟩, e'.trans (by simp [goP, h1, h2, h3])⟩
              | some t =>
                obtain ⟨a0, b0, c0⟩ := t
                simp [lastD]
                rcases ltge a a0 with h4 | h4
                · simpa [goP, h1, h2, h3, h4, Int.not_le.mpr h4] using q
                rcases ltge b b0 with h5 | h5
                · simpa [goP, h1, h2, h3, h4, Int.not_lt.mpr h4, h5, Int.not_le.mpr h5] using q
                simp [h4, h5, Int.not_lt.mpr h4, Int.not_lt.mpr h5]
                rw [hR]
                exact ⟨_, rfl, trivial, hr.2, some (a, b, c), ⟨_, _, rfl⟩, e'.trans (by simp [goP, h1, h2, h3, Int.not_lt.mpr h4, Int.not_lt.mpr h5])⟩
          · rw [goP_bad (fun a b c e => h3 ⟨a, b, c, e⟩)] at q
            cases d <;> try (simpa using q)
            rename_i xs
            simp
            by_cases hl : xs.length = 3
            · refine .inl ⟨by omega, ?_⟩
              refine lcW_mapD (fun d => .bl (isNumD d)) (by simp [hl]) (fun d hd R2 r2 => ?_) ?_
              · simpa [dat_kind (dats_all hr.1 _ hd)] using r2
              · have : xs.all isNumD = false := by
                  cases e : xs.all isNumD
                  · rfl
                  · obtain ⟨a, b, c, e⟩ := nums3 hl e
                    exact (h3 ⟨a, b, c, by rw [e]⟩).elim
                simp
                simp at this
                exact .inl ⟨this, q⟩
            · exact .inr ⟨by omega, q⟩
      · rename_i ht
        cases d <;> simp at ht <;> simpa [planD] using q
    · simpa [planD, gSeq, ia.look, ia.d] using q)
theorem ok_need_order (h : DefAt K mg d_need_order) (T : Facts mg) (c_is_name : FnV P w K mg base d_is_name 1 ["value"] (f1 fun d => .bl (isNameD d))) : FnV P w K mg base d_need_order 2 ["order"] fNeed :=
  fnv_ok h sc_need_order (fun f cdv A outer s H E hr => (vss_cons (vs_if (VW.vc (vw_or (vc_not (vc_tru (ve_isi .tuple (ve_name 0) (by rfl) T.isinstance (by rfl) T.tuple (by decide +kernel)))) (vw_or1 (vc_not (vc_tru (ve_callB (cw_all rfl) (by rfl) T.all (by decide +kernel) (va_cons (ve_lc (own := [("name", 1)]) rfl sc_need_order.nd (vi_seq (ve_name 0)) (blkOk_by (own := [("name", 1)]) (N := ["order", "name", "at"]) (sc := d_need_order.scope) (by decide +kernel)) (fun _ _ _ _ _ => (vg_name (i := 1) sc_need_order.nd rfl (by first | exact Or.inl rfl | exact Or.inr rfl))) (fun _ _ _ _ _ => vcs_nil) (fun _ _ _ _ _ => (ve_fz (ve_cv c_is_name (hr.mono (by omega)) rfl rfl rfl (fun _ _ _ _ _ _ us hl => match us, hl with | [_], _ => rfl) (by rfl) (va_cons (ve_name 1) va_nil))))) va_nil))))))) (vss_one vs_never) vss_nil) (vss_one (vs_if (vc_tru (ve_callB (cw_any rfl) (by rfl) T.any (by decide +kernel) (va_cons (ve_lc (own := [("at", 2)]) rfl sc_need_order.nd (vi_r1 (by rfl) T.range (va_cons (ve_callB cw_len (by rfl) T.len (by decide +kernel) (va_cons (ve_name 0) va_nil)) va_nil)) (blkOk_by (own := [("at", 2)]) (N := ["order", "name", "at"]) (sc := d_need_order.scope) (by decide +kernel)) (fun _ _ _ _ _ => (vg_name (i := 2) sc_need_order.nd rfl (by first | exact Or.inl rfl | exact Or.inr rfl))) (fun _ _ _ _ _ => vcs_nil) (fun _ _ _ _ _ => (ve_cmp (ow_in hr.units (hu65 hr)) (ve_ixA (hu1 hr) (ve_name 0) (ve_name 2)) (ve_slice (ve_name 0) vo_none (vo_some (ve_name 2)))))) va_nil))) (vss_one vs_never) vss_nil)))) (by rintro svs Qs ⟨_, rfl, _⟩; rfl) (by
    rintro svs Qs ⟨ns, rfl, hn, hd, hl, q⟩
    refine gSeq_go fun R hR => ?_
    simp
    refine lcW_map D.str (fun n => .bl (isNameS n)) rfl ?_ (fun n hn R r => ?_) ?_
    · unfold sizeLine; omega
    · simp
      simpa [isNameD] using r
    · simp
      refine ⟨hn, ?_⟩
      rw [hR]
      simp
      refine ⟨by omega, lcW_map (fun k : Nat => .int (0 + (k : Nat))) (fun _ => .bl false) rfl ?_ (fun k hk R r => ?_) ?_⟩
      · rw [List.length_range]
        unfold sizeLine; omega
      · have hk : k < ns.length := by simpa using hk
        simp
        refine ⟨_, atI_some (x := .str ns[k]) (by simp [hk]), rfl, ?_⟩
        rw [cutD_to (by simpa using Nat.le_of_lt hk), ← List.map_take]
        refine ⟨fun x hx => ?_, ?_⟩
        · obtain ⟨z, _, rfl⟩ := List.mem_map.mp hx
          rfl
        · have e : ((ns.take k).map D.str).any (fun z => deq z (.str ns[k])) = false := by
            rw [List.any_eq_false]
            intro x hx
            obtain ⟨z, hz, rfl⟩ := List.mem_map.mp hx
            simp
            rintro rfl
            obtain ⟨j, hj, ej⟩ := List.mem_take_iff_getElem.mp hz
            exact List.pairwise_iff_getElem.mp hd j k (by omega) hk (by omega) ej
          rw [e]
          exact r
      · simp
        exact q)
theorem ok_winner_at (h : DefAt K mg d_winner_at) (T : Facts mg) : FnV P w K mg base d_winner_at 2 ["order", "plans", "spots", "tick"] fWin :=
  fnv_ok h sc_winner_at (fun f cdv A outer s H E hr => (vss_cons (vs_for (by first | exact PassesOwn.never | exact passes_of rfl) rfl (vi_seq (ve_name 0)) (vg_name (i := 4) sc_winner_at.nd rfl (by first | exact Or.inl rfl | exact Or.inr rfl)) (vss_cons (vs_set (i := 5) sc_winner_at.nd rfl (by first | exact Or.inl rfl | exact Or.inr rfl) (ve_dget2 (hu1 hr) (ve_name 1) (ve_name 4) (ve_fz (ve_lst va_nil)) ⟨by rfl, by rfl, by rfl, by rfl⟩)) (vss_one (vs_if (VW.vc (vw_and (vc_cmp ow_lt (ve_ixA (hu1 hr) (ve_name 2) (ve_name 4)) (ve_callB cw_len (by rfl) T.len (by decide +kernel) (va_cons (ve_name 5) va_nil))) (vw_and1 (vc_cmp ow_le (ve_ixA (hu1 hr) (ve_ixA (hu1 hr) (ve_name 5) (ve_ixA (hu1 hr) (ve_name 2) (ve_name 4))) ve_int) (ve_name 3))))) (vss_one (vs_retName 4)) vss_nil)))) (vss_one (vs_ret ve_non)))) (by rintro svs Qs ⟨_, _, _, _, _, _, rfl, _⟩; rfl) (by
    rintro svs Qs ⟨ns, sp, kvs, rows, spots, t, rfl, ia, hp, q⟩
    refine gSeq_go fun R hR => ?_
    simp
    have hw : ∀ n ∈ ns, valD (spD ns spots) (.inr n) = some (.int (spots n : Nat)) := fun n hn => valD_mem hn
    refine forW_as D.str (fun r S => (∃ y z, S = [some (.tr (.tup (ns.map .str))), some sp, some (.brw (.dic (spD ns spots))), some (.tr (.int t)), y, z]) ∧ (∀ n ∈ r, n ∈ ns) ∧ win ns rows spots t = r.find? (able rows spots t)) ⟨⟨_, _, rfl⟩, fun _ h => h, rfl⟩ ?_ (fun n r S1 h N hN => ?_) rfl
    · rintro S ⟨⟨y, z, rfl⟩, _, e⟩
      show R _
      rw [hR]
      rw [e] at q
      simpa [whoD] using q
    · obtain ⟨⟨y, z, rfl⟩, hr, e⟩ := h
      clear hR
      have hn := hr n (by simp)
      have hr' : ∀ m ∈ r, m ∈ ns := fun m hm => hr m (by simp [hm])
      rw [List.find?_cons] at e
      refine gSeq_go fun R2 hR2 => ?_
      simp [ia.look, ia.d]
      have fin : ∀ d, R2 = R2 → (d = .lst ((rows n).map rowD) ∨ d = .tup ((rows n).map rowD)) → R2 [some (.tr (.tup (ns.map .str))), some sp, some (.brw (.dic (spD ns spots))), some (.tr (.int t)), some (.tr (.str n)), some (.tr d)] := by
        rintro d - hd
        rw [hR2]
        clear hR2 R2
        have hl : gLen [d] = gLen [.lst ((rows n).map rowD)] := by rcases hd with rfl | rfl <;> rfl
        have hix : ∀ (i : Int) Q, gIxA d (.int i) Q = gIxA (.lst ((rows n).map rowD)) (.int i) Q := fun i Q => by rcases hd with rfl | rfl <;> rfl
        simp [hw n hn, hl, hix]
        by_cases hl2 : spots n < (rows n).length
        · refine .inr ⟨hl2, _, atI_some (x := rowD (rows n)[spots n]) (by simp [hl2]), ?_⟩
          have ea : able rows spots t n = decide ((rows n)[spots n].2.1 ≤ t) := by unfold able; rw [List.getElem?_eq_getElem hl2]
          simp [rowD]
          rcases ltge t (rows n)[spots n].2.1 with h | h
          · rw [ea, decide_eq_false (Int.not_le.mpr h)] at e
            exact .inl ⟨h, hN _ ⟨⟨_, _, rfl⟩, hr', e⟩⟩
          · rw [ea, decide_eq_true h] at e
            rw [e] at q
            exact .inr ⟨h, q⟩
        · have ea : able rows spots t n = false := by unfold able; rw [List.getElem?_eq_none (by omega)]
          rw [ea] at e
          exact .inl ⟨by omega, hN _ ⟨⟨_, _, rfl⟩, hr', e⟩⟩
      rcases hp n hn with ⟨d, hv, hd⟩ | ⟨hv, hz⟩
      · refine .inl ⟨d, hv, ?_⟩
        exact fin d rfl hd
      · refine .inr ⟨hv, ?_⟩
        exact fin _ rfl (.inl (by rw [hz]; rfl)))
end
end K12

namespace K12
open PySem PySem.Spec PyProof.Rows L2 VT
def msgs : Int → List Ent → List D
  | _, [] => []
  | t, (some z, l) :: r => .tup [.str z, .int t, .int (t + l)] :: msgs (t + l) r
  | t, (none, l) :: r => msgs (t + l) r
def ticksOf : List Ent → Int
  | [] => 0
  | e :: r => e.2 + ticksOf r
def logF (es : List Ent) (j : Bool) : List (Str × D) := [("own_entries", .tup (es.map entD)), ("joined", .bl j), ("own_messages", .lst (msgs 0 es)), ("own_ticks", .int (ticksOf es))]
def okE (e : Ent) : Prop := 1 ≤ e.2 ∧ e.2 ≤ 60 ∧ ∀ z, e.1 = some z → isNameS z = true
theorem okE_entry {e : Ent} (h : okE e) : entryD (entD e) = true := by
  obtain ⟨o, l⟩ := e
  obtain ⟨h1, h2, h3⟩ := h
  cases o with
  | none => simp [entD, whoD, entryD, inD, h1, h2, D.isNon] at *
  | some z =>
    have := h3 z rfl
    simp [entD, whoD, entryD, inD, h1, h2, D.isNon, isNameD, this] at *
theorem entD_dat (e : Ent) : (entD e).dat = true := by
  obtain ⟨o, l⟩ := e
  cases o <;> rfl
def fLog (C : Addr) : FXp := fun svs Q Qx => ∃ se d es j, svs = [se, .tr (.bl j)] ∧ IsA se d ∧ d = .lst (es.map entD) ∧ (∀ e ∈ es, okE e) ∧ es.length ≤ 40 ∧ Q (.tr (.ins C (logF es j)))
section
variable {P : Program} {w : World} {K : PySem.W.Frag} {mg : Str → Option Value} {base : Heap}
theorem ok_log (h : ∃ fd, FunD K d_Log___init__.name d_Log___init__.qual d_Log___init__.params d_Log___init__.body d_Log___init__.scope (d_Log___init__.dvs K) (d_Log___init__.kws K) (He.fAd K d_Log___init__.at_) fd) (T : Facts mg) (C : CF K mg) (c_is_entry : FnV P w K mg base d_is_entry 3 ["value"] fEntry) :
    IniX P w K mg base d_Log___init__ (He.ga K "Log") (He.fAd K d_Log___init__.at_) 4 ["self", "entries", "joined"] (fLog (He.ga K "Log")) :=
  inix_ok h sc_Log___init__ (fun EX cdv A outer s H E hr => (vss_cons (vs_for (by first | exact PassesOwn.never | exact passes_of rfl) rfl (vi_enum (by rfl) T.enumerate (va_cons (ve_name 1) va_nil)) (vg_tup rfl (vgs_cons (i := 3) sc_Log___init__.nd rfl (by first | exact Or.inl rfl | exact Or.inr rfl) (vgs_cons (i := 4) sc_Log___init__.nd rfl (by first | exact Or.inl rfl | exact Or.inr rfl) vgs_nil))) (vss_one (vs_if (vc_not (vc_tru (ve_cv c_is_entry (hr.mono (by omega)) rfl rfl rfl (fun _ _ _ _ _ _ us hl => match us, hl with | [_], _ => rfl) (by rfl) (va_cons (ve_name 4) va_nil)))) (vss_one vs_never) vss_nil))) (vss_cons (vs_if (vc_cmp ow_gt (ve_callB cw_len (by rfl) T.len (by decide +kernel) (va_cons (ve_name 1) va_nil)) (ve_gint T.c_MOST_ENTRIES (by rfl))) (vss_one vs_never) vss_nil) (vss_cons (vs_fset 0 [(He.ga _ "Log")] (ve_fz (ve_callT cw_tuple (by rfl) T.tuple (by decide +kernel) (va_cons (ve_name 1) va_nil))) (in1 ⟨C.c_Log, C.n_Log_own_entries⟩)) (vss_cons (vs_fset 0 [(He.ga _ "Log")] (ve_callT cw_bool (by rfl) T.bool (by decide +kernel) (va_cons (ve_name 2) va_nil)) (in1 ⟨C.c_Log, C.n_Log_joined⟩)) (vss_cons (vs_parF rfl sc_Log___init__.nd 0 5 [(He.ga _ "Log")] (in1 ⟨C.c_Log, C.n_Log_own_messages⟩) (va_cons (ve_lst va_nil) (va_cons ve_int va_nil))) (vss_cons (vs_for (by first | exact PassesOwn.never | exact passes_of rfl) rfl (vi_seq (ve_name 1)) (vg_tup rfl (vgs_cons (i := 6) sc_Log___init__.nd rfl (by first | exact Or.inl rfl | exact Or.inr rfl) (vgs_cons (i := 7) sc_Log___init__.nd rfl (by first | exact Or.inl rfl | exact Or.inr rfl) vgs_nil))) (vss_cons (vs_if (vc_cmp ow_isnot (ve_name 6) ve_non) (vss_one (vs_fappend 0 [(He.ga _ "Log")] (va_cons (ve_tup (va_cons (ve_name 6) (va_cons (ve_name 5) (va_cons (ve_fz (ve_op ow_add (ve_name 5) (ve_name 7))) va_nil)))) va_nil) (in1 ⟨C.c_Log, C.n_Log_own_messages⟩))) vss_nil) (vss_one (vs_augI (i := 5) ip_add sc_Log___init__.nd rfl (by first | exact Or.inl rfl | exact Or.inr rfl) (ve_name 7))))) (vss_one (vs_fset 0 [(He.ga _ "Log")] (ve_name 5) (in1 ⟨C.c_Log, C.n_Log_own_ticks⟩)))))))))) (by rintro svs Qs Qx ⟨_, _, _, _, rfl, _⟩; rfl) (by
    rintro xa svs Qs Qx ⟨se, d, es, j, rfl, ia, hd, he, hl, q⟩
    subst hd
    refine gSeq_go fun R hR => ?_
    simp
    rw [ia.look, enumR_lst false _ _ _ ia.d (ia.st false)]
    refine forW_as (as := List.range es.length) (fun i : Nat => .tup [.int i, (es.map entD).getD i .non]) (fun r S => (∀ i ∈ r, i < es.length) ∧ ∃ a b, S = [some (.obj xa (He.ga K "Log") []), some se, some (.tr (.bl j)), a, b, none, none, none]) ⟨by simp, _, _, rfl⟩ ?_ (fun i r S1 h N hN => ?_) (by simp [enumD])
    · rintro S ⟨_, a, b, rfl⟩
      show R _
      rw [hR]
      clear hR R
      refine gSeq_go fun R hR => ?_
      simp [ia.look, ia.d]
      refine ⟨by omega, ?_⟩
      rw [hR]
      clear hR R
      refine gSeq_go fun R hR => ?_
      simp [ia.look, ia.d]
      refine ⟨_, _, _, ⟨rfl, rfl, rfl⟩, rfl, by simp, ?_⟩
      rw [hR]
      clear hR R
      refine gSeq_go fun R hR => ?_
      simp
      refine ⟨_, _, _, ⟨rfl, rfl, rfl⟩, rfl, by simp, ?_⟩
      rw [hR]
      clear hR R
      refine gSeq_go fun R hR => ?_
      simp
      refine ⟨_, _, ⟨rfl, rfl⟩, _, rfl, _, _, _, ⟨rfl, rfl, rfl⟩, rfl, by simp, ?_⟩
      rw [hR]
      clear hR R
      refine gSeq_go fun R hR => ?_
      simp [ia.look, ia.d]
      refine ⟨ia.st false, forW_as entD (fun r S => ∃ t ms y z, S = [some (.obj xa (He.ga K "Log") [("own_entries", .tr (.tup (es.map entD))), ("joined", .tr (.bl j)), ("own_messages", .own (.lst ms))]), some se, some (.tr (.bl j)), a, b, some (.tr (.int t)), y, z] ∧
        msgs 0 es = ms ++ msgs t r ∧ ticksOf es = t + ticksOf r ∧ ms.length + r.length ≤ es.length) ⟨0, [], _, _, rfl, rfl, by omega, by simp⟩ ?_ (fun e r S1 h N hN => ?_) rfl⟩
      · rintro S ⟨t, ms, y, z, rfl, h1, h2, _⟩
        show R _
        rw [hR]
        simp [msgs] at h1
        simp [ticksOf] at h2
        simp
        refine ⟨_, _, _, ⟨rfl, rfl, rfl⟩, rfl, by simp, ?_⟩
        rw [← h1, ← h2]
        exact ⟨_, ⟨rfl, rfl, rfl⟩, by simpa [logF] using q⟩
      · obtain ⟨t, ms, y, z, rfl, h1, h2, h3⟩ := h
        obtain ⟨o, l⟩ := e
        clear hR
        simp at h3
        simp [entD]
        cases o with
        | none =>
          simp [whoD, gSeq]
          exact hN _ ⟨_, _, _, _, rfl, by simpa [msgs] using h1, by simp [ticksOf] at h2; omega, by omega⟩
        | some u =>
          refine gSeq_go fun R2 hR2 => ?_
          simp [whoD]
          refine ⟨_, _, _, ⟨rfl, rfl, rfl⟩, rfl, ms, by rfl, by omega, ?_⟩
          rw [hR2]
          simp
          exact hN _ ⟨_, _, _, _, rfl, by simpa [msgs] using h1, by simp [ticksOf] at h2; omega, by simp; omega⟩
    · obtain ⟨hr, a, b, rfl⟩ := h
      have hi := hr i (by simp)
      clear hR
      simp
      have e : (Option.map entD es[i]?).getD .non = entD es[i] := by rw [List.getElem?_eq_getElem hi]; rfl
      rw [e]
      exact ⟨entD_dat _, okE_entry (he _ (List.getElem_mem hi)), hN _ ⟨fun k hk => hr k (by simp [hk]), _, _, rfl⟩⟩)
theorem ok_entries (h : ∃ fd, FunD K d_Log_entries.name d_Log_entries.qual d_Log_entries.params d_Log_entries.body d_Log_entries.scope (d_Log_entries.dvs K) (d_Log_entries.kws K) (He.fAd K d_Log_entries.at_) fd) (T : Facts mg) (C : CF K mg) :
    FnX P w K mg base d_Log_entries (He.fAd K d_Log_entries.at_) 1 ["self"] (fun svs Q Qx => ∃ es j, svs = [.tr (.ins (He.ga K "Log") (logF es j))] ∧ Q (.own (.lst (es.map entD)))) :=
  fnx_ok h sc_Log_entries (fun EX cdv A outer s H E hr => (vss_one (vs_ret (ve_callT cw_list (by rfl) T.list (by decide +kernel) (va_cons (ve_fld [(He.ga _ "Log")] (ve_name 0) (in1 ⟨C.c_Log, C.n_Log_own_entries⟩)) va_nil))))) (by rintro svs Qs Qx ⟨_, _, rfl, _⟩; rfl) (by
    rintro svs Qs Qx ⟨es, j, rfl, q⟩
    simp
    exact ⟨_, _, ⟨rfl, rfl⟩, rfl, .tr (.tup (es.map entD)), rfl, trivial, q⟩)
theorem ok_ticks (h : PropOf K (He.ga K "Log") "ticks" (He.ma K (He.ga K "Log") "ticks") (prAt K ("Log", "ticks", d_Log_ticks)) ∧ ∃ fd, FunD K d_Log_ticks.name d_Log_ticks.qual d_Log_ticks.params d_Log_ticks.body d_Log_ticks.scope (d_Log_ticks.dvs K) (d_Log_ticks.kws K) (prAt K ("Log", "ticks", d_Log_ticks)) fd) (T : Facts mg) (C : CF K mg) :
    PrV P w K mg base (He.ga K "Log") "ticks" 1 (fun svs Q => ∃ es j, svs = [.tr (.ins (He.ga K "Log") (logF es j))] ∧ Q (.tr (.int (ticksOf es)))) :=
  prv_ok h rfl sc_Log_ticks (fun _ _ _ _ _ _ us hl => match us, hl with | [_], _ => rfl) (fun f cdv A outer s H E hr => (vss_one (vs_ret (ve_fld [(He.ga _ "Log")] (ve_name 0) (in1 ⟨C.c_Log, C.n_Log_own_ticks⟩))))) (by rintro svs Qs ⟨_, _, rfl, _⟩; rfl) (by
    rintro svs Qs ⟨es, j, rfl, q⟩
    simp
    exact ⟨_, _, ⟨rfl, rfl⟩, rfl, .tr (.int (ticksOf es)), rfl, trivial, q⟩)
end
end K12

namespace K12
open PySem PySem.Spec PyProof.Rows L2 VT
structure Stt where
  sp : Str → Nat
  es : List Ent
  t : Int
def idle60 (es : List Ent) : List Ent := match es.getLast? with
  | some (none, l) => if l < 60 then es.dropLast ++ [(none, l + 1)] else es ++ [(none, 1)]
  | _ => es ++ [(none, 1)]
def stepP (ns : List Str) (rows : Str → List Row) (s : Stt) : Stt := match win ns rows s.sp s.t with
  | some n => match (rows n)[s.sp n]? with
    | some r => ⟨fun m => if m = n then s.sp n + 1 else s.sp m, s.es ++ [(some n, r.2.2)], s.t + r.2.2⟩
    | none => s
  | none => ⟨s.sp, idle60 s.es, s.t + 1⟩
def runP (ns : List Str) (rows : Str → List Row) (ticks : Int) : Nat → Stt → Stt
  | 0, s => s
  | k + 1, s => if s.t < ticks then runP ns rows ticks k (stepP ns rows s) else s
def playE (ns : List Str) (rows : Str → List Row) (ticks : Int) : List Ent := (runP ns rows ticks ticks.toNat ⟨fun _ => 0, [], 0⟩).es
def VRows (rs : List Row) : Prop := goP none (rs.map rowD) = true
theorem goP_rows : ∀ {rs : List Row} {l : Option (Int × Int × Int)}, goP l (rs.map rowD) = true → ∀ r ∈ rs, 1 ≤ r.2.2 ∧ r.2.2 ≤ 60
  | [], _, _, r, h => by simp at h
  | (a, b, c) :: rs, l, h, r, hr => by
    rw [List.map_cons] at h
    unfold rowD goP at h
    simp only at h
    by_cases h1 : b < a ∨ c < 1 ∨ 60 < c
    · rw [if_pos h1] at h
      cases h
    · rw [if_neg h1] at h
      have hrec : goP (some (a, b, c)) (rs.map rowD) = true := by
        cases l with
        | none => exact h
        | some t =>
          obtain ⟨a0, b0, c0⟩ := t
          simp only at h
          by_cases h2 : a < a0 ∨ b < b0
          · rw [if_pos h2] at h
            cases h
          · rw [if_neg h2] at h
            exact h
      rcases List.mem_cons.mp hr with rfl | hr
      · simp only
        omega
      · exact goP_rows hrec r hr
theorem win_some {ns : List Str} {rows : Str → List Row} {sp : Str → Nat} {t : Int} {n : Str} (h : win ns rows sp t = some n) : n ∈ ns ∧ ∃ r, (rows n)[sp n]? = some r ∧ r ∈ rows n := by
  have h1 := List.mem_of_find?_eq_some h
  have h2 := List.find?_some h
  refine ⟨h1, ?_⟩
  unfold able at h2
  cases e : (rows n)[sp n]? with
  | none => rw [e] at h2; cases h2
  | some r => exact ⟨r, rfl, List.mem_of_getElem? e⟩
theorem idle60_ok {es : List Ent} (h : ∀ e ∈ es, okE e) : ∀ e ∈ idle60 es, okE e := by
  have hn : okE (none, 1) := ⟨by decide, by decide, fun z e => by cases e⟩
  have hap : ∀ e ∈ es ++ [(none, 1)], okE e := fun e he => by
    rcases List.mem_append.mp he with he | he
    · exact h e he
    · rw [List.mem_singleton.mp he]
      exact hn
  unfold idle60
  split
  · rename_i l e
    have hl := h _ (List.mem_of_getLast? e)
    split
    · intro e he
      rcases List.mem_append.mp he with he | he
      · exact h e (List.dropLast_subset _ he)
      · rw [List.mem_singleton.mp he]
        obtain ⟨h1, h2, _⟩ := hl
        simp only at h1 h2
        exact ⟨by simp only; omega, by simp only; omega, fun z e => by cases e⟩
    · exact hap
  · exact hap
theorem idle60_len (es : List Ent) : (idle60 es).length ≤ es.length + 1 := by
  unfold idle60
  split
  · rename_i l e
    split
    · have : es ≠ [] := fun z => by rw [z] at e; cases e
      have := List.length_pos_iff.mpr this
      simp <;> omega
    · simp
  · simp
theorem stepP_ok {ns : List Str} {rows : Str → List Row} (hn : ∀ n ∈ ns, isNameS n = true) (hv : ∀ n ∈ ns, VRows (rows n)) {s : Stt} (h : ∀ e ∈ s.es, okE e) : (∀ e ∈ (stepP ns rows s).es, okE e) ∧ s.t + 1 ≤ (stepP ns rows s).t ∧ (stepP ns rows s).es.length ≤ s.es.length + 1 := by
  unfold stepP
  split
  · rename_i n e
    obtain ⟨h1, r, h2, h3⟩ := win_some e
    rw [h2]
    obtain ⟨l1, l2⟩ := goP_rows (hv n h1) r h3
    refine ⟨fun e he => ?_, by simp only; omega, by simp⟩
    rcases List.mem_append.mp he with he | he
    · exact h e he
    · rw [List.mem_singleton.mp he]
      exact ⟨l1, l2, fun z e => by cases e; exact hn n h1⟩
  · exact ⟨idle60_ok h, by simp only; omega, idle60_len _⟩
def fPlay (K : PySem.W.Frag) : FSp := fun svs Q => ∃ (ns : List Str) (sp : SV) (kvs : List (Key × D)) (rows : Str → List Row) (ticks : Int) (j : Bool), svs = [.tr (.tup (ns.map .str)), sp, .tr (.int ticks), .tr (.bl j)] ∧ IsA sp (.dic kvs) ∧ (∀ n ∈ ns, isNameS n = true) ∧ ns.Nodup ∧ ns.length ≤ 1000 ∧
  (∀ n ∈ ns, PlanAt kvs n (rows n)) ∧ (∀ n ∈ ns, VRows (rows n)) ∧ 0 ≤ ticks ∧ ticks ≤ 2400 ∧ (playE ns rows ticks).length ≤ 40 ∧ Q (.tr (.ins (He.ga K "Log") (logF (playE ns rows ticks) j)))
section
variable {P : Program} {w : World} {K : PySem.W.Frag} {mg : Str → Option Value} {base : Heap}
theorem ok_play (h : DefAt K mg d_play) (T : Facts mg) (C : CF K mg) (c_need_order : FnV P w K mg base d_need_order 2 ["order"] fNeed) (c_is_plan : FnV P w K mg base d_is_plan 2 ["value"] fPlan) (c_is_within : FnV P w K mg base d_is_within 2 ["value", "least", "most"] fWithin)
    (c_winner_at : FnV P w K mg base d_winner_at 2 ["order", "plans", "spots", "tick"] fWin) (c_Log___init__ : IniX P w K mg base d_Log___init__ (He.ga K "Log") (He.fAd K d_Log___init__.at_) 4 ["self", "entries", "joined"] (fLog (He.ga K "Log"))) :
    FnV P w K mg base d_play 6 ["order", "plans", "ticks", "joined"] (fPlay K) :=
  fnv_ok h sc_play (fun f cdv A outer s H E hr => (vss_cons (vs_expr (ve_cv c_need_order (hr.mono (by omega)) rfl rfl rfl (fun _ _ _ _ _ _ us hl => match us, hl with | [_], _ => rfl) (by rfl) (va_cons (ve_name 0) va_nil))) (vss_cons (vs_for (by first | exact PassesOwn.never | exact passes_of rfl) rfl (vi_seq (ve_name 0)) (vg_name (i := 4) sc_play.nd rfl (by first | exact Or.inl rfl | exact Or.inr rfl)) (vss_one (vs_if (vc_not (vc_tru (ve_cv c_is_plan (hr.mono (by omega)) rfl rfl rfl (fun _ _ _ _ _ _ us hl => match us, hl with | [_], _ => rfl) (by rfl) (va_cons (ve_fz (ve_dget2 (hu1 hr) (ve_name 1) (ve_name 4) (ve_fz (ve_lst va_nil)) ⟨by rfl, by rfl, by rfl, by rfl⟩)) va_nil)))) (vss_one vs_never) vss_nil))) (vss_cons (vs_if (vc_not (vc_tru (ve_cv c_is_within (hr.mono (by omega)) rfl rfl rfl (fun _ _ _ _ _ _ us hl => match us, hl with | [_, _, _], _ => rfl) (by rfl) (va_cons (ve_name 2) (va_cons ve_int (va_cons (ve_gint T.c_MOST_PLAY (by rfl)) va_nil)))))) (vss_one vs_never) vss_nil) (vss_cons (vs_par3 (i := 5) (j := 6) (l := 7) rfl sc_play.nd rfl rfl rfl (by decide) (by decide) (by decide) rfl rfl rfl (va_cons (ve_dc (own := [("name", 4)]) rfl sc_play.nd (vi_seq (ve_name 0)) (blkOk_by (own := [("name", 4)]) (N := ["order", "plans", "ticks", "joined", "name", "spots", "entries", "tick", "winner", "length"]) (sc := d_play.scope) (by decide +kernel)) (fun _ _ _ _ _ => (vg_name (i := 4) sc_play.nd rfl (by first | exact Or.inl rfl | exact Or.inr rfl))) (fun _ _ _ _ _ => vcs_nil) (fun _ _ _ _ _ => (ve_name 4)) (fun _ _ _ _ _ => ve_int)) (va_cons (ve_lst va_nil) (va_cons ve_int va_nil))) (by rfl)) (vss_cons (vs_while (by first | exact PassesOwn.never | exact passes_of rfl) (vc_cmp ow_lt (ve_name 7) (ve_name 2)) (vss_cons (vs_set (i := 8) sc_play.nd rfl (by first | exact Or.inl rfl | exact Or.inr rfl) (ve_cv c_winner_at (hr.mono (by omega)) rfl rfl rfl (fun _ _ _ _ _ _ us hl => match us, hl with | [_, _, _, _], _ => rfl) (by rfl) (va_cons (ve_name 0) (va_cons (ve_name 1) (va_cons (ve_name 5) (va_cons (ve_name 7) va_nil)))))) (vss_one (vs_if (vc_cmp ow_isnot (ve_name 8) ve_non) (vss_cons (vs_set (i := 9) sc_play.nd rfl (by first | exact Or.inl rfl | exact Or.inr rfl) (ve_ixA (hu1 hr) (ve_ixA (hu1 hr) (ve_ixA (hu1 hr) (ve_name 1) (ve_name 8)) (ve_ixA (hu1 hr) (ve_name 5) (ve_name 8))) ve_int)) (vss_cons (vs_augD (hu1 hr) in_add rd_add 5 (ve_name 8) ve_int) (vss_cons (vs_append 6 (va_cons (ve_tup (va_cons (ve_name 8) (va_cons (ve_name 9) va_nil))) va_nil)) (vss_one (vs_augI (i := 7) ip_add sc_play.nd rfl (by first | exact Or.inl rfl | exact Or.inr rfl) (ve_name 9)))))) (vss_cons (vs_if (VW.vc (vw_and (vc_cmp (ow_ne hr.units) (ve_name 6) (ve_lst va_nil)) (vw_and (vc_cmp ow_is (ve_ixA (hu1 hr) (ve_ixA (hu1 hr) (ve_name 6) (ve_neg ve_int)) ve_int) ve_non) (vw_and1 (vc_cmp ow_lt (ve_ixA (hu1 hr) (ve_ixA (hu1 hr) (ve_name 6) (ve_neg ve_int)) ve_int) (ve_gint T.c_MOST_LENGTH (by rfl))))))) (vss_one (vs_putA (hu1 hr) 6 (ve_tup (va_cons ve_non (va_cons (ve_fz (ve_op ow_add (ve_ixA (hu1 hr) (ve_ixA (hu1 hr) (ve_name 6) (ve_neg ve_int)) ve_int) ve_int)) va_nil))) (ve_neg ve_int))) (vss_one (vs_append 6 (va_cons (ve_tup (va_cons ve_non (va_cons ve_int va_nil))) va_nil)))) (vss_one (vs_augI (i := 7) ip_add sc_play.nd rfl (by first | exact Or.inl rfl | exact Or.inr rfl) ve_int))))))) (vss_one (vs_ret (ve_mkx (n := 1) (ks := ["joined"]) (ix := [0, 1]) (dd := []) C.k_Log c_Log___init__ (hr.mono (by omega)) C.g_Log (fun fd cl h => h.kbT 1 [] (List.cons_ne_nil _ _) (fun _ z => nomatch z) (fun T D kV doc pm cdv ct an us ws its mv h1 h2 h3 h4 h5 => match us, ws, its, mv, h1, h2, h3, h4 with | [_, _], [_], [_], [], _, _, _, _ => ⟨_, rfl, rfl⟩)) .nil (by rfl) (va_cons (ve_name 6) va_nil) (vk_cons (ve_name 3) vk_nil)))))))))) (by rintro svs Qs ⟨_, _, _, _, _, _, rfl, _⟩; rfl) (by
    rintro svs Qs ⟨ns, sp, kvs, rows, ticks, j, rfl, ia, hn, hd, hl, hp, hv, h0, h1, h40, q⟩
    refine gSeq_go fun R hR => ?_
    simp
    refine ⟨ns, rfl, hn, hd, hl, ?_⟩
    rw [hR]
    clear hR R
    refine gSeq_go fun R hR => ?_
    simp
    refine forW_as D.str (fun r S => (∀ n ∈ r, n ∈ ns) ∧ ∃ y, S = [some (.tr (.tup (ns.map .str))), some sp, some (.tr (.int ticks)), some (.tr (.bl j)), y, none, none, none, none, none]) ⟨fun _ h => h, _, rfl⟩ ?_ (fun n r S1 h N hN => ?_) rfl
    · rintro S ⟨_, y, rfl⟩
      show R _
      rw [hR]
      clear hR R
      refine gSeq_go fun R hR => ?_
      simp
      have e : inD (.int ticks) 0 2400 = true := by simp [inD, h0, h1]
      rw [e]
      simp
      rw [hR]
      clear hR R
      refine gSeq_go fun R hR => ?_
      simp
      refine dcW_names (fun _ => .int 0) hd (by unfold sizeLine; omega) (fun n _ B E b => ?_) ?_
      · simp
        exact b
      simp
      rw [hR]
      clear hR R
      refine gSeq_go fun R hR => ?_
      refine whileW (fun m S => ∃ st u v, S = [some (.tr (.tup (ns.map .str))), some sp, some (.tr (.int ticks)), some (.tr (.bl j)), y, some (.own (.dic (spD ns st.sp))), some (.own (.lst (st.es.map entD))), some (.tr (.int st.t)), u, v] ∧
        (∀ e ∈ st.es, okE e) ∧ 0 ≤ st.t ∧ (st.es.length : Int) ≤ st.t ∧ ticks - st.t ≤ m ∧ (runP ns rows ticks m st).es = playE ns rows ticks) ticks.toNat ⟨⟨fun _ => 0, [], 0⟩, none, none, rfl, by simp, Int.le_refl _, Int.le_refl _, by simp only; omega, rfl⟩ ?_
      rintro m S ⟨st, u, v, rfl, g1, g2, g3, g4, g5⟩ N hN
      simp
      rcases ltge st.t ticks with hlt | hge
      · refine .inr ⟨hlt, ?_⟩
        obtain ⟨m, rfl⟩ : ∃ k, m = k + 1 := ⟨m - 1, by omega⟩
        clear hR
        refine gSeq_go fun R2 hR2 => ?_
        simp
        rw [ia.look]
        refine ⟨ns, _, kvs, rows, st.sp, st.t, rfl, ia.arg, hp, trivial, ?_⟩
        rw [hR2]
        clear hR2 R2
        have hstep := stepP_ok (s := st) hn hv g1
        have hrun : (runP ns rows ticks m (stepP ns rows st)).es = playE ns rows ticks := by
          rw [← g5]
          show _ = (if st.t < ticks then runP ns rows ticks m (stepP ns rows st) else st).es
          rw [if_pos hlt]
        have fin : ∀ st' u v, stepP ns rows st = st' → N [some (.tr (.tup (ns.map .str))), some sp, some (.tr (.int ticks)), some (.tr (.bl j)), y, some (.own (.dic (spD ns st'.sp))), some (.own (.lst (st'.es.map entD))), some (.tr (.int st'.t)), u, v] := by
          rintro st' u v rfl
          exact hN m _ (by omega) ⟨_, _, _, rfl, hstep.1, by omega, by omega, by omega, hrun⟩
        clear hN hrun
        cases hw : win ns rows st.sp st.t with
        | some n =>
          obtain ⟨w1, r, w2, w3⟩ := win_some hw
          have hst : stepP ns rows st = ⟨fun m => if m = n then st.sp n + 1 else st.sp m, st.es ++ [(some n, r.2.2)], st.t + r.2.2⟩ := by
            unfold stepP
            rw [hw]
            simp only
            rw [w2]
          simp [whoD]
          refine gSeq_go fun R2 hR2 => ?_
          simp [ia.look, ia.d]
          obtain ⟨d, p1, p2⟩ : ∃ d, valD kvs (.inr n) = some d ∧ (d = .lst ((rows n).map rowD) ∨ d = .tup ((rows n).map rowD)) := by
            rcases hp n w1 with h | ⟨_, h⟩
            · exact h
            · rw [h] at w3
              cases w3
          refine ⟨d, p1, _, valD_mem w1, ?_⟩
          have hat : atI ((rows n).map rowD) ((st.sp n : Nat) : Int) = some (rowD r) := atI_some (by simp [w2])
          have hix : ∀ Q, gIxA d (.int (st.sp n : Nat)) Q ↔ Q (.tr (rowD r)) := by
            intro Q
            rcases p2 with rfl | rfl <;> simp [hat]
          rw [hix]
          simp [rowD]
          rw [hR2]
          clear hR2 R2
          refine gSeq_go fun R2 hR2 => ?_
          have hput := fun (y : D) => putD_mem (f := fun n => D.int (st.sp n : Nat)) (y := y) w1
          have hval := valD_mem (f := fun n => D.int (st.sp n : Nat)) w1
          simp [spD]
          refine ⟨_, hval, by omega, ?_⟩
          rw [hput, hR2]
          clear hR2 R2
          refine gSeq_go fun R2 hR2 => ?_
          simp
          refine ⟨by omega, ?_⟩
          rw [hR2]
          simp
          have f := fin _ (some (.tr (.str n))) (some (.tr (.int r.2.2))) hst
          have e1 : spD ns (fun m => if m = n then st.sp n + 1 else st.sp m) = mapD ns fun m => if m = n then .int ((st.sp n : Int) + 1) else .int (st.sp m : Nat) := by
            unfold spD
            refine mapD_congr fun m _ => ?_
            by_cases hm : m = n
            · simp [hm]
            · simp [hm]
          rw [e1] at f
          simpa [entD, whoD] using f
        | none =>
          have hst : stepP ns rows st = ⟨st.sp, idle60 st.es, st.t + 1⟩ := by
            unfold stepP
            rw [hw]
          simp [whoD]
          refine gSeq_go fun R2 hR2 => ?_
          simp
          have dt : dats (st.es.map entD) = true := dats_of fun x hx => by
            obtain ⟨e, _, rfl⟩ := List.mem_map.mp hx
            exact entD_dat e
          have dp : deps (st.es.map entD) ≤ 63 := deps_of fun x hx => by
            obtain ⟨⟨o, l⟩, _, rfl⟩ := List.mem_map.mp hx
            cases o <;> exact Nat.le_trans (Nat.le_refl 1) (by decide)
          refine ⟨dt, dp, ?_⟩
          have hlen : st.es.length < 16777216 := by omega
          have app : idle60 st.es = st.es ++ [(none, 1)] → R2 [some (.tr (.tup (ns.map .str))), some sp, some (.tr (.int ticks)), some (.tr (.bl j)), y, some (.own (.dic (spD ns st.sp))), some (.own (.lst (st.es.map entD ++ [.tup [.non, .int 1]]))), some (.tr (.int st.t)), some (.tr .non), v] := by
            intro e
            rw [hR2]
            simp
            have f := fin _ (some (.tr .non)) v hst
            rw [e] at f
            simpa [entD, whoD] using f
          rcases List.eq_nil_or_concat st.es with e0 | ⟨es', ⟨o, l⟩, e0⟩
          · rw [e0] at app
            rw [e0]
            exact .inl ⟨rfl, by decide, app rfl⟩
          · rw [List.concat_eq_append] at e0
            have dq : deqs (st.es.map entD) [] = false := by rw [e0]; cases es' <;> rfl
            have hat : atI (st.es.map entD) (-1) = some (entD (o, l)) := by rw [e0, List.map_append]; exact atI_last
            refine .inr ⟨dq, _, hat, ?_⟩
            cases o with
            | some z =>
              simp [entD, whoD, D.isNon]
              exact ⟨hlen, app (by rw [e0]; simp [idle60])⟩
            | none =>
              simp [entD, whoD, D.isNon]
              refine ⟨_, hat, ?_⟩
              simp [entD]
              rcases ltge l 60 with h | h
              · refine .inr ⟨h, _, hat, ?_⟩
                simp [entD]
                have hix : ixN st.es.length (-1) = some es'.length := by
                  rw [e0]
                  unfold ixN
                  rw [if_neg (by decide), if_pos (by simp; omega)]
                  simp
                  omega
                refine ⟨_, hix, ?_⟩
                rw [hR2]
                simp
                have f := fin _ (some (.tr .non)) v hst
                have e1 : idle60 st.es = es' ++ [(none, l + 1)] := by rw [e0]; simp [idle60, h]
                rw [e1] at f
                have e2 : (st.es.map entD).set es'.length (.tup [.non, .int (l + 1)]) = (es' ++ [(none, l + 1)]).map entD := by
                  rw [e0, List.map_append, List.map_append, List.set_append_right _ _ (by simp)]
                  simp [entD, whoD]
                rw [e2]
                exact f
              · exact .inl ⟨h, hlen, app (by rw [e0]; simp [idle60]; omega)⟩
      · refine .inl ⟨hge, ?_⟩
        rw [hR]
        clear hR R
        simp
        have e : runP ns rows ticks m st = st := by
          cases m with
          | zero => rfl
          | succ m => exact if_neg (by omega)
        rw [e] at g5
        rw [← g5] at h40 q
        exact ⟨_, _, st.es, j, rfl, (isA_brw _ _).mpr rfl, rfl, g1, h40, trivial, q⟩
    · obtain ⟨hr, y, rfl⟩ := h
      have hm := hr n (by simp)
      clear hR
      simp [ia.look, ia.d]
      have e : ∀ rs, VRows rs → planD (.lst (rs.map rowD)) = true ∧ planD (.tup (rs.map rowD)) = true := fun rs h => ⟨h, h⟩
      have dt : ∀ rs : List Row, dats (rs.map rowD) = true := fun rs => dats_of fun x hx => by
        obtain ⟨r, _, rfl⟩ := List.mem_map.mp hx
        rfl
      have last := hN [some (.tr (.tup (ns.map .str))), some sp, some (.tr (.int ticks)), some (.tr (.bl j)), some (.tr (.str n)), none, none, none, none, none] ⟨fun m hm => hr m (by simp [hm]), _, rfl⟩
      rcases hp n hm with ⟨d, h1, h2⟩ | ⟨h1, h2⟩
      · refine .inl ⟨d, h1, ?_⟩
        rcases h2 with rfl | rfl
        · exact ⟨.inl (dt _), (e _ (hv n hm)).1, last⟩
        · exact ⟨.inl (dt _), (e _ (hv n hm)).2, last⟩
      · exact .inr ⟨h1, rfl, last⟩)
end
end K12

namespace K12
open PySem PySem.Spec PyProof.Rows L2 VT
def whoS : Option Str → Str
  | none => "-"
  | some z => z
def entS (e : Ent) : Str := (Str.empty ++ whoS e.1) ++ (Str.ofString " ") ++ Str.ofString (toString e.2)
def textOf (es : List Ent) (j : Bool) : Str := Txt.join (Str.ofString ", ") ((if j then [Str.ofString "joined"] else []) ++ es.map entS)
theorem name_okS {z : Str} (h : isNameS z = true) : okS z ∧ z.length ≤ 6 := by
  unfold isNameS at h
  rw [Bool.and_eq_true, Bool.and_eq_true] at h
  obtain ⟨_, h2, h3⟩ := h
  have h2 := of_decide_eq_true h2
  refine ⟨⟨?_, by unfold sizeLine; omega⟩, h2⟩
  show z.cps.all (· < 0x110000) = true
  rw [Array.all_eq_true_iff_forall_mem]
  intro c hc
  rw [List.all_eq_true] at h3
  have h4 := of_decide_eq_true (h3 c (by simpa using hc))
  have : ∀ c ∈ letters.cps.toList, c < 0x110000 := by decide +kernel
  simpa using this c (by simpa using h4)
theorem num_short : ∀ l : Int, 1 ≤ l → l ≤ 60 → okS (Str.ofString (toString l)) ∧ (Str.ofString (toString l)).length ≤ 2 := by
  intro l h1 h2
  have h : ∀ n : Fin 61, (Str.ofString (toString ((n.val : Nat) : Int))).length ≤ 2 := by decide +kernel
  have e : l = ((l.toNat : Nat) : Int) := by omega
  have h3 := h ⟨l.toNat, by omega⟩
  rw [e]
  exact ⟨okS_ofString _ (by simp only at h3; unfold sizeLine; omega), h3⟩
theorem entS_ok {e : Ent} (h : okE e) : okS (entS e) ∧ (entS e).length ≤ 9 := by
  obtain ⟨o, l⟩ := e
  obtain ⟨h1, h2, h3⟩ := h
  obtain ⟨n1, n2⟩ := num_short l h1 h2
  have hw : okS (whoS o) ∧ (whoS o).length ≤ 6 := by
    cases o with
    | none => exact ⟨by decide +kernel, by decide +kernel⟩
    | some z => exact name_okS (h3 z rfl)
  have hl : (entS (o, l)).length ≤ 9 := by
    unfold entS
    rw [length_append, length_append, length_append]
    have a1 : Str.empty.length = 0 := rfl
    have a2 : (Str.ofString " ").length = 1 := by decide +kernel
    simp only
    omega
  refine ⟨⟨?_, by unfold sizeLine; omega⟩, hl⟩
  exact strOk_append (strOk_append (strOk_append (by decide +kernel) hw.1.1) (by decide +kernel)) n1.1
section
variable {P : Program} {w : World} {K : PySem.W.Frag} {mg : Str → Option Value} {base : Heap}
theorem ok_text (h : ∃ fd, FunD K d_Log_text.name d_Log_text.qual d_Log_text.params d_Log_text.body d_Log_text.scope (d_Log_text.dvs K) (d_Log_text.kws K) (He.fAd K d_Log_text.at_) fd) (T : Facts mg) (C : CF K mg) :
    FnX P w K mg base d_Log_text (He.fAd K d_Log_text.at_) 1 ["self"] (fun svs Q Qx => ∃ es j, svs = [.tr (.ins (He.ga K "Log") (logF es j))] ∧ (∀ e ∈ es, okE e) ∧ es.length ≤ 40 ∧ Q (.tr (.str (textOf es j)))) :=
  fnx_ok h sc_Log_text (fun EX cdv A outer s H E hr => (vss_cons (vs_set (i := 1) sc_Log_text.nd rfl (by first | exact Or.inl rfl | exact Or.inr rfl) (ve_if (vc_tru (ve_fld [(He.ga _ "Log")] (ve_name 0) (in1 ⟨C.c_Log, C.n_Log_joined⟩))) (ve_lst (va_cons ve_str va_nil)) (ve_lst va_nil))) (vss_one (vs_ret (ve_bm PySem.F.plainAttrs_str PySem.F.slot_str_join PySem.F.type_str_join mw_join ve_str (va_cons (ve_op ow_add (ve_name 1) (ve_lc (own := [("name", 2), ("length", 3)]) rfl sc_Log_text.nd (vi_seq (ve_fz (ve_fld [(He.ga _ "Log")] (ve_name 0) (in1 ⟨C.c_Log, C.n_Log_own_entries⟩)))) (blkOk_by (own := [("name", 2), ("length", 3)]) (N := ["self", "parts", "name", "length"]) (sc := d_Log_text.scope) (by decide +kernel)) (fun _ _ _ _ _ => (vg_tup rfl (vgs_cons (i := 2) sc_Log_text.nd rfl (by first | exact Or.inl rfl | exact Or.inr rfl) (vgs_cons (i := 3) sc_Log_text.nd rfl (by first | exact Or.inl rfl | exact Or.inr rfl) vgs_nil)))) (fun _ _ _ _ _ => vcs_nil) (fun _ _ _ _ _ => (ve_js (vj_cons (ve_fmt (ve_if (vc_cmp ow_is (ve_name 2) ve_non) ve_str (ve_name 2))) (vj_cons ve_str (vj_cons (ve_fmt (ve_name 3)) vj_nil))))))) va_nil)))))) (by rintro svs Qs Qx ⟨_, _, rfl, _⟩; rfl) (by
    rintro svs Qs Qx ⟨es, j, rfl, he, hl, q⟩
    refine gSeq_go fun R hR => ?_
    simp
    refine ⟨_, _, ⟨rfl, rfl⟩, rfl, .tr (.bl j), rfl, ?_⟩
    simp
    have key : ∀ pre : List Str, pre = (if j then [Str.ofString "joined"] else []) → R [some (.tr (.ins (He.ga K "Log") (logF es j))), some (.own (.lst (pre.map D.str))), none, none] := by
      intro pre hpre
      rw [hR]
      clear hR R
      simp
      refine ⟨_, _, ⟨rfl, rfl⟩, rfl, .tr (.tup (es.map entD)), rfl, ?_⟩
      simp
      refine lcW_map entD (fun e => .str (entS e)) rfl (by unfold sizeLine; omega) (fun e hm R r => ?_) ?_
      · have hz := entS_ok (he e hm)
        obtain ⟨o, l⟩ := e
        obtain ⟨l1, l2, l3⟩ := he _ hm
        simp only at l1 l2
        have hlog : l.natAbs.log2 < 1920 := (Nat.log2_lt (by omega)).mpr (Nat.lt_of_le_of_lt (by omega : l.natAbs ≤ 60) (by decide +kernel))
        have hn : (Str.ofString l.repr).length ≤ 2 := (num_short l l1 l2).2
        have e0 : (Str.ofString " ").length = 1 := by decide +kernel
        have e1 : Str.empty.length = 0 := rfl
        cases o with
        | none =>
          have e2 : (Str.ofString "-").length = 1 := by decide +kernel
          simp [entD, whoD, D.isNon, hlog, length_append, e0, e1, e2]
          exact ⟨by omega, r⟩
        | some z =>
          have e2 := (name_okS (l3 z rfl)).2
          simp [entD, whoD, D.isNon, hlog, length_append, e0, e1]
          exact ⟨by omega, by omega, by omega, r⟩
      · simp
        have hp : pre.length ≤ 1 ∧ ∀ y ∈ pre, okS y ∧ y.length ≤ 9 := by
          rw [hpre]
          cases j
          · simp
          · simp
            decide +kernel
        have hall : ∀ y ∈ pre ++ es.map entS, okS y ∧ y.length ≤ 9 := fun y hy => by
          rcases List.mem_append.mp hy with h | h
          · exact hp.2 y h
          · obtain ⟨e, hm, rfl⟩ := List.mem_map.mp h
            exact entS_ok (he e hm)
        have hsum := sum_le (fun y : Str => y.length) 9 (l := pre ++ es.map entS) fun y hy => (hall y hy).2
        have e3 : (Str.ofString ", ").length = 2 := by decide +kernel
        have hlen : (pre ++ es.map entS).length ≤ 41 := by simp; omega
        have hjo := okS_join (sep := Str.ofString ", ") (ys := pre ++ es.map entS) (by decide +kernel) (fun y hy => (hall y hy).1.1) (by rw [e3]; unfold sizeLine; omega)
        refine ⟨by omega, pre ++ es.map entS, ?_, by rw [e3]; omega, hjo.1, ?_⟩
        · rw [show pre.map D.str ++ es.map (fun e => D.str (entS e)) = (pre ++ es.map entS).map D.str by simp]
          exact strsD_str _
        · rw [hpre]
          exact q
    cases j with
    | true => exact .inr ⟨rfl, key _ rfl⟩
    | false => exact .inl ⟨rfl, key _ rfl⟩)
end
end K12

namespace K12
open PySem PySem.Spec PyProof.Rows L2 VT
def lastOf : Option (Int × Int × Int) → List D → Option (Int × Int × Int)
  | l, [] => l
  | _, .tup [.int a, .int b, .int c] :: r => lastOf (some (a, b, c)) r
  | l, _ :: r => lastOf l r
def IsRow (d : D) : Prop := ∃ a b c, d = .tup [.int a, .int b, .int c]
theorem goP_row {a b c : Int} {r : List D} (l : Option (Int × Int × Int)) : goP l (.tup [.int a, .int b, .int c] :: r) = if b < a ∨ c < 1 ∨ 60 < c then false else
    match l with
    | some (a0, b0, _) => if a < a0 ∨ b < b0 then false else goP (some (a, b, c)) r
    | none => goP (some (a, b, c)) r := by
  cases l <;> rfl
theorem goP_snoc {d : D} : ∀ {rs : List D} {l : Option (Int × Int × Int)}, (∀ x ∈ rs, IsRow x) → goP l rs = true → goP l (rs ++ [d]) = goP (lastOf l rs) [d]
  | [], l, _, _ => rfl
  | x :: rs, l, h, k => by
    obtain ⟨a, b, c, rfl⟩ := h x (List.mem_cons_self ..)
    have hr := fun y hy => h y (List.mem_cons_of_mem _ hy)
    rw [List.cons_append]
    simp only [lastOf]
    rw [goP_row] at k ⊢
    by_cases e : b < a ∨ c < 1 ∨ 60 < c
    · rw [if_pos e] at k
      cases k
    · rw [if_neg e] at k ⊢
      cases l with
      | none => exact goP_snoc hr k
      | some t =>
        obtain ⟨a0, b0, c0⟩ := t
        simp only at k ⊢
        by_cases e : a < a0 ∨ b < b0
        · rw [if_pos e] at k
          cases k
        · rw [if_neg e] at k ⊢
          exact goP_snoc hr k
theorem lastOf_snoc {a b c : Int} : ∀ {rs : List D} {l : Option (Int × Int × Int)}, (∀ x ∈ rs, IsRow x) → lastOf l (rs ++ [.tup [.int a, .int b, .int c]]) = some (a, b, c)
  | [], l, _ => rfl
  | x :: rs, l, h => by
    obtain ⟨a, b, c, rfl⟩ := h x (List.mem_cons_self ..)
    rw [List.cons_append]
    simp only [lastOf]
    exact lastOf_snoc fun y hy => h y (List.mem_cons_of_mem _ hy)
theorem rows_dat {rs : List D} (h : ∀ x ∈ rs, IsRow x) : dats rs = true := dats_of fun x hx => by
  obtain ⟨a, b, c, rfl⟩ := h x hx
  rfl
theorem rows_dep {rs : List D} (h : ∀ x ∈ rs, IsRow x) : deps rs ≤ 1 := deps_of fun x hx => by
  obtain ⟨a, b, c, rfl⟩ := h x hx
  exact Nat.le_refl 1
@[simp] def fLetters : FSp := fun svs Q => svs = [] ∧ Q (.tr (.str letters))
/-- small letters only -/
def Lets (z : Str) : Prop := ∀ c ∈ z.cps.toList, c ∈ letters.cps.toList
theorem Lets.app {a b : Str} (h : Lets a) (k : Lets b) : Lets (a ++ b) := by
  intro c hc
  have e : (a ++ b).cps.toList = a.cps.toList ++ b.cps.toList := Array.toList_append ..
  rw [e] at hc
  exact (List.mem_append.mp hc).elim (h c) (k c)
theorem Lets.cut {a : Str} (h : Lets a) (lo hi : Option Int) : Lets (cutS a lo hi) := by
  intro c hc
  have hc : c ∈ ((a.cps.toList.drop (HT.sIx a.length 0 lo)).take (HT.sIx a.length a.length hi - HT.sIx a.length 0 lo)).toArray.toList := hc
  rw [List.toList_toArray] at hc
  exact h c (List.mem_of_mem_drop (List.mem_of_mem_take hc))
theorem Lets.name {a : Str} (h : Lets a) (h1 : 1 ≤ a.length) (h2 : a.length ≤ 6) : isNameS a = true := by
  unfold isNameS
  rw [decide_eq_true h1, decide_eq_true h2, Bool.true_and, Bool.true_and, List.all_eq_true]
  intro c hc
  simpa using h c hc
theorem Lets.okS {a : Str} (h : Lets a) (h2 : a.length ≤ 100) : okS a := by
  refine ⟨?_, by unfold sizeLine; omega⟩
  show a.cps.all (· < 0x110000) = true
  rw [Array.all_eq_true_iff_forall_mem]
  intro c hc
  have : ∀ c ∈ letters.cps.toList, c < 0x110000 := by decide +kernel
  simpa using this c (h c (by simpa using hc))
theorem toList_app (a b : Str) : (a ++ b).cps.toList = a.cps.toList ++ b.cps.toList := Array.toList_append ..
theorem lets_joinS {sep : Str} (hs : Lets sep) : ∀ {ys : List Str}, (∀ y ∈ ys, Lets y) → Lets (Str.join sep ys)
  | [], _ => by
    intro c hc
    cases hc
  | [y], h => h y (List.mem_cons_self ..)
  | y :: z :: r, h => by
    have h1 := lets_joinS (ys := z :: r) hs fun x hx => h x (List.mem_cons_of_mem _ hx)
    show Lets (y ++ sep ++ Str.join sep (z :: r))
    exact ((h y (List.mem_cons_self ..)).app hs).app h1
theorem lets_join {sep : Str} {ys : List Str} (hs : Lets sep) (h : ∀ y ∈ ys, Lets y) : Lets (Txt.join sep ys) := by
  have e : Txt.join sep ys = Str.join sep ys := by
    show Builtin.Str.glued sep ys = _
    rw [StrLaws.glued_eq_join]
  rw [e]
  exact lets_joinS hs h
/-- the k-th name -/
def nmK (pre post more : Str) (base st : Int) (k : Nat) : Str := ((pre ++ ⟨#[97 + ((base + st * (k : Int)) % 26).toNat]⟩) ++ post) ++ Txt.mul more (if (k : Int) % 2 = 1 then 1 else 0)
theorem letter_at : ∀ i : Fin 26, letters.cps.toList[i.val]? = some (97 + i.val) := by decide +kernel
theorem nmK_inj {pre post more : Str} {base st : Int} (hst : st = 1 ∨ st = 3 ∨ st = 5 ∨ st = 7) {i j : Nat} (hi : i < 4) (hj : j < 4) (h : nmK pre post more base st i = nmK pre post more base st j) : i = j := by
  have h1 := congrArg (fun z : Str => z.cps.toList[pre.cps.toList.length]?) h
  unfold nmK at h1
  simp only [toList_app, List.append_assoc] at h1
  rw [List.getElem?_append_right (Nat.le_refl _), List.getElem?_append_right (Nat.le_refl _), Nat.sub_self] at h1
  have h2 : (97 + ((base + st * (i : Int)) % 26).toNat) = (97 + ((base + st * (j : Int)) % 26).toNat) := by simpa using h1
  rcases hst with rfl | rfl | rfl | rfl <;> omega
theorem mul01 {x : Str} (h : x.length ≤ 1) (k : Lets x) (i : Int) : (Txt.mul x (if i % 2 = 1 then 1 else 0)).length ≤ 1 ∧ Lets (Txt.mul x (if i % 2 = 1 then 1 else 0)) := by
  split
  · have e : Txt.mul x 1 = x := by
      unfold Txt.mul
      rw [if_neg (by decide), if_pos (by simp)]
    rw [e]
    exact ⟨h, k⟩
  · have e : Txt.mul x 0 = Str.empty := by
      unfold Txt.mul
      rw [if_pos (by decide)]
    rw [e]
    exact ⟨by decide, by intro c hc; cases hc⟩
theorem nmK_ok {stem more : Str} {spot base st : Int} (hl : Lets stem) (h4 : stem.length ≤ 4) (h1 : more.length ≤ 1) (h2 : Lets more) (hb : 0 ≤ base) (k : Nat) :
    isNameS (nmK (cutS stem none (some spot)) (cutS stem (some spot) none) more base st k) = true ∧ (cutS stem none (some spot)).length + (cutS stem (some spot) none).length ≤ 4 := by
  have hx0 : 0 ≤ (base + st * (k : Int)) % 26 := Int.emod_nonneg _ (by decide)
  have hx1 : (base + st * (k : Int)) % 26 < 26 := Int.emod_lt_of_pos _ (by decide)
  obtain ⟨m1, m2⟩ := mul01 h1 h2 (k : Int)
  have hc : Lets ⟨#[97 + ((base + st * (k : Int)) % 26).toNat]⟩ := by
    intro c hc
    have e : c = 97 + ((base + st * (k : Int)) % 26).toNat := by simpa using hc
    rw [e]
    exact List.mem_of_getElem? (letter_at ⟨((base + st * (k : Int)) % 26).toNat, by omega⟩)
  have hsum : (cutS stem none (some spot)).length + (cutS stem (some spot) none).length ≤ 4 := by
    show (cutS stem none (some spot)).cps.size + (cutS stem (some spot) none).cps.size ≤ 4
    have h4 : stem.cps.size ≤ 4 := h4
    unfold cutS
    simp only [show stem.length = stem.cps.size from rfl, List.size_toArray, List.length_take, List.length_drop, Array.length_toList]
    generalize stem.cps.size = n at h4
    have h1 : HT.sIx n n (some spot) = HT.sIx n 0 (some spot) := rfl
    have h2 := HT.sIx_le n 0 (Nat.zero_le _) (some spot)
    rw [h1, HT.sIx_none, HT.sIx_none]
    generalize HT.sIx n 0 (some spot) = z at h2
    omega
  refine ⟨Lets.name ((((hl.cut _ _).app hc).app (hl.cut _ _)).app m2) ?_ ?_, hsum⟩
  · unfold nmK
    rw [length_append, length_append, length_append]
    show 1 ≤ _ + 1 + _ + _
    omega
  · unfold nmK
    rw [length_append, length_append, length_append]
    show _ + 1 + _ + _ ≤ 6
    omega
def fNames : FSp := fun svs Q => ∃ m : Nat, svs = [.bag, .tr (.int m)] ∧ m ≤ 4 ∧ ∀ ns : List Str, ns.length = m → (∀ n ∈ ns, isNameS n = true) → ns.Nodup → Q (.own (.lst (ns.map .str)))
def fReq : FSp := fun svs Q => ∃ (z : Str) (t : Int) (b : Bool), svs = [.bag, .tr (.tup [.str z, .str "free", .tup []]), .tr (.int t), .tr (.bl b)] ∧ ∀ rs : List Row, VRows rs → rs.length ≤ 10 → Q (.own (.lst (rs.map rowD)))
def fMix : FSp := fun svs Q => ∃ sv ds, svs = [.bag, sv] ∧ IsA sv (.lst ds) ∧ ds.length ≤ 1000 ∧ ∀ ms : List D, ms.Perm ds → Q (.own (.lst ms))
section
variable {P : Program} {w : World} {K : PySem.W.Frag} {mg : Str → Option Value} {base : Heap}
theorem ok_letters (h : DefAt K mg d__law_letters) (T : Facts mg) : FnV P w K mg base d__law_letters 1 [] fLetters :=
  fnv_ok h sc__law_letters (fun f cdv A outer s H E hr => (vss_one (vs_ret ve_str))) (by rintro svs Qs ⟨rfl, _⟩; rfl) (by
    rintro svs Qs ⟨rfl, q⟩
    exact ⟨trivial, q⟩)
theorem ok_names (h : DefAt K mg d__law_names) (T : Facts mg) (c__law_draw : FnV P w K mg base d__law_draw 1 ["_law_bag_here", "_law_many"] fDraw) (c__law_pick : FnV P w K mg base d__law_pick 2 ["_law_bag_here", "_law_some"] fPick)
    (c__law_letters : FnV P w K mg base d__law_letters 1 [] fLetters) : FnV P w K mg base d__law_names 3 ["_law_bag_here", "_law_many"] fNames :=
  fnv_ok h sc__law_names (fun f cdv A outer s H E hr => (vss_cons (vs_set (i := 2) sc__law_names.nd rfl (by first | exact Or.inl rfl | exact Or.inr rfl) (ve_bm PySem.F.plainAttrs_str PySem.F.slot_str_join PySem.F.type_str_join mw_join ve_str (va_cons (ve_lc (own := [("_law_k", 8)]) rfl sc__law_names.nd (vi_r1 (by rfl) T.range (va_cons (ve_cv c__law_draw (hr.mono (by omega)) rfl rfl rfl (fun _ _ _ _ _ _ us hl => match us, hl with | [_, _], _ => rfl) (by rfl) (va_cons (ve_name 0) (va_cons ve_int va_nil))) va_nil)) (blkOk_by (own := [("_law_k", 8)]) (N := ["_law_bag_here", "_law_many", "_law_stem", "_law_spot", "_law_base", "_law_step", "_law_more", "_law_found", "_law_k", "_law_sign"]) (sc := d__law_names.scope) (by decide +kernel)) (fun _ _ _ _ _ => (vg_name (i := 8) sc__law_names.nd rfl (by first | exact Or.inl rfl | exact Or.inr rfl))) (fun _ _ _ _ _ => vcs_nil) (fun _ _ _ _ _ => (ve_fz (ve_cv c__law_pick (hr.mono (by omega)) rfl rfl rfl (fun _ _ _ _ _ _ us hl => match us, hl with | [_, _], _ => rfl) (by rfl) (va_cons (ve_name 0) (va_cons (ve_fz (ve_cv0 c__law_letters (hr.mono (by omega)) rfl rfl rfl (fun _ _ _ _ _ _ us hl => match us, hl with | [], _ => rfl) (by rfl))) va_nil)))))) va_nil))) (vss_cons (vs_par3 (i := 3) (j := 4) (l := 5) rfl sc__law_names.nd rfl rfl rfl (by decide) (by decide) (by decide) rfl rfl rfl (va_cons (ve_cv c__law_draw (hr.mono (by omega)) rfl rfl rfl (fun _ _ _ _ _ _ us hl => match us, hl with | [_, _], _ => rfl) (by rfl) (va_cons (ve_name 0) (va_cons (ve_fz (ve_op ow_add (ve_callB cw_len (by rfl) T.len (by decide +kernel) (va_cons (ve_name 2) va_nil)) ve_int)) va_nil))) (va_cons (ve_cv c__law_draw (hr.mono (by omega)) rfl rfl rfl (fun _ _ _ _ _ _ us hl => match us, hl with | [_, _], _ => rfl) (by rfl) (va_cons (ve_name 0) (va_cons ve_int va_nil))) (va_cons (ve_cv c__law_pick (hr.mono (by omega)) rfl rfl rfl (fun _ _ _ _ _ _ us hl => match us, hl with | [_, _], _ => rfl) (by rfl) (va_cons (ve_name 0) (va_cons (ve_fz (ve_lst (va_cons ve_int (va_cons ve_int (va_cons ve_int (va_cons ve_int va_nil)))))) va_nil))) va_nil))) (by rfl)) (vss_cons (vs_set (i := 6) sc__law_names.nd rfl (by first | exact Or.inl rfl | exact Or.inr rfl) (ve_cv c__law_pick (hr.mono (by omega)) rfl rfl rfl (fun _ _ _ _ _ _ us hl => match us, hl with | [_, _], _ => rfl) (by rfl) (va_cons (ve_name 0) (va_cons (ve_fz (ve_lst (va_cons ve_str (va_cons ve_str (va_cons ve_str (va_cons ve_str va_nil)))))) va_nil)))) (vss_cons (vs_set (i := 7) sc__law_names.nd rfl (by first | exact Or.inl rfl | exact Or.inr rfl) (ve_lst va_nil)) (vss_cons (vs_for (by first | exact PassesOwn.never | exact passes_of rfl) rfl (vi_r1 (by rfl) T.range (va_cons (ve_name 1) va_nil)) (vg_name (i := 8) sc__law_names.nd rfl (by first | exact Or.inl rfl | exact Or.inr rfl)) (vss_cons (vs_set (i := 9) sc__law_names.nd rfl (by first | exact Or.inl rfl | exact Or.inr rfl) (ve_ixA (hu1 hr) (ve_cv0 c__law_letters (hr.mono (by omega)) rfl rfl rfl (fun _ _ _ _ _ _ us hl => match us, hl with | [], _ => rfl) (by rfl)) (ve_op ow_mod (ve_callT cw_int (by rfl) T.int (by decide +kernel) (va_cons (ve_op ow_add (ve_name 4) (ve_op ow_mul (ve_name 5) (ve_name 8))) va_nil)) ve_int))) (vss_one (vs_append 7 (va_cons (ve_fz (ve_op ow_add (ve_op ow_add (ve_op ow_add (ve_slice (ve_name 2) vo_none (vo_some (ve_name 3))) (ve_name 9)) (ve_slice (ve_name 2) (vo_some (ve_name 3)) vo_none)) (ve_op ow_mul (ve_name 6) (ve_callT cw_int (by rfl) T.int (by decide +kernel) (va_cons (ve_cmp (ow_eq hr.units) (ve_op ow_mod (ve_name 8) ve_int) ve_int) va_nil))))) va_nil))))) (vss_one (vs_retName 7)))))))) (by rintro svs Qs ⟨_, rfl, _⟩; rfl) (by
    rintro svs Qs ⟨m, rfl, hm, q⟩
    refine gSeq_go fun R hR => ?_
    simp
    refine ⟨by decide, fun n n0 n5 => ⟨by omega, ?_⟩⟩
    refine lcW_some (fun _ y => ∃ c : Nat, y = .str ⟨#[c]⟩ ∧ c ∈ letters.cps.toList) (by simp; omega) (fun d _ R hR2 => ?_) fun ys hys => ?_
    · simp [fPick]
      refine ⟨by decide, by decide, fun c hc => hR2 _ ⟨c, rfl, by simpa using hc⟩⟩
    have hl := hys.length
    rw [rngD_len] at hl
    obtain ⟨zs, rfl, hz⟩ := strs_of (P := fun x => x.length = 1 ∧ Lets x) (ds := ys) (hys.all fun _ y ⟨c, e, hc⟩ => ⟨_, e, rfl, fun d hd => by
      have : d = c := by simpa using hd
      rw [this]
      exact hc⟩)
    rw [List.length_map] at hl
    have hsum : (zs.map (·.length)).sum ≤ zs.length * 1 := sum_le _ 1 fun x hx => by rw [(hz x hx).1]; exact Nat.le_refl 1
    have e0 : (Str.ofString "").length = 0 := by decide
    have hj := okS_join (sep := Str.ofString "") (ys := zs) (by decide +kernel) (fun y hy => ((hz y hy).2.okS (by rw [(hz y hy).1]; omega)).1) (by rw [le_sizeLine, show (Str.ofString "").length = 0 from e0]; omega)
    rw [e0, Nat.mul_zero] at hj
    have hlets : Lets (Txt.join (Str.ofString "") zs) := lets_join (by intro c hc; cases hc) fun y hy => (hz y hy).2
    simp [strsD_str]
    refine ⟨by rw [e0, Nat.mul_zero]; omega, hj.1, ?_⟩
    have hlt : (Txt.join (Str.ofString "") zs).length ≤ 4 := by have := hj.2; omega
    generalize Txt.join (Str.ofString "") zs = stem at hlt hj hlets ⊢
    rw [hR]
    clear hR R
    refine gSeq_go fun R hR => ?_
    simp [-List.mem_cons]
    refine ⟨log_lt (by omega), fun spot p0 p1 => ⟨by decide, fun base b0 b1 st hst => ⟨by simp, ?_⟩⟩⟩
    obtain ⟨st, rfl, hs2⟩ : ∃ x : Int, st = .int x ∧ (x = 1 ∨ x = 3 ∨ x = 5 ∨ x = 7) := by
      simp at hst
      rcases hst with rfl | rfl | rfl | rfl <;> exact ⟨_, rfl, by simp⟩
    rw [hR]
    clear hR R
    refine gSeq_go fun R hR => ?_
    simp [-List.mem_cons]
    refine fun y hy => ?_
    obtain ⟨more, rfl, hm1, hm2⟩ : ∃ x : Str, y = .str x ∧ x.length ≤ 1 ∧ Lets x := by
      simp at hy
      rcases hy with rfl | rfl | rfl <;> exact ⟨_, rfl, by decide, by unfold Lets; decide +kernel⟩
    rw [hR]
    clear hR R
    refine gSeq_go fun R hR => ?_
    simp
    rw [hR]
    clear hR R
    refine gSeq_go fun R hR => ?_
    simp
    refine ⟨by omega, forW_rng (fun k S => ∃ y1 y2, S = [some .bag, some (.tr (.int m)), some (.tr (.str stem)), some (.tr (.int spot)), some (.tr (.int base)), some (.tr (.int st)), some (.tr (.str more)), some (.own (.lst (((List.range k).map (nmK (cutS stem none (some spot)) (cutS stem (some spot) none) more base st)).map .str))), y1, y2]) ⟨_, _, rfl⟩ ?_ ?_⟩
    · rintro S ⟨y1, y2, rfl⟩
      show R _
      rw [hR]
      clear hR R
      simp
      rw [← List.map_map]
      refine q _ (by simp) (fun n hn => ?_) ?_
      · obtain ⟨k, hk, rfl⟩ := List.mem_map.mp hn
        exact (nmK_ok hlets hlt hm1 hm2 b0 k).1
      · unfold List.Nodup
        rw [List.pairwise_iff_getElem]
        intro i j hi hj hij e
        simp at hi hj e
        have := nmK_inj hs2 (by omega) (by omega) e
        omega
    · rintro k hk S ⟨y1, y2, rfl⟩ N hN
      simp
      refine gSeq_go fun R2 hR2 => ?_
      simp
      have hx0 : 0 ≤ (base + st * (k : Int)) % 26 := Int.emod_nonneg _ (by decide)
      have hx1 : (base + st * (k : Int)) % 26 < 26 := Int.emod_lt_of_pos _ (by decide)
      have hat : atI letters.cps.toList ((base + st * (k : Int)) % 26) = some (97 + ((base + st * (k : Int)) % 26).toNat) := by
        have h1 := letter_at ⟨((base + st * (k : Int)) % 26).toNat, by omega⟩
        have h2 := atI_some h1
        rwa [show ((((base + st * (k : Int)) % 26).toNat : Nat) : Int) = (base + st * (k : Int)) % 26 by omega] at h2
      refine ⟨cmulW (by rcases hs2 with rfl | rfl | rfl | rfl <;> decide) (by omega), _, hat, ?_⟩
      rw [hR2]
      clear hR2 R2
      have hsum := (nmK_ok (st := st) (spot := spot) hlets hlt hm1 hm2 b0 k).2
      obtain ⟨m1, m2⟩ := mul01 hm1 hm2 (k : Int)
      have e1 : (⟨#[97 + ((base + st * (k : Int)) % 26).toNat]⟩ : Str).length = 1 := rfl
      simp [length_append, e1]
      refine ⟨by omega, by omega, ⟨by split <;> decide, by split <;> decide, by omega⟩, by omega, by omega, ?_⟩
      have el : List.map (D.str ∘ nmK (cutS stem none (some spot)) (cutS stem (some spot) none) more base st) (List.range k) ++ [D.str (cutS stem none (some spot) ++ ⟨#[97 + ((base + st * (k : Int)) % 26).toNat]⟩ ++ cutS stem (some spot) none ++ Txt.mul more (if (k : Int) % 2 = 1 then 1 else 0))] =
          (List.map (nmK (cutS stem none (some spot)) (cutS stem (some spot) none) more base st) (List.range (k + 1))).map D.str := by
        rw [List.range_succ]
        simp [nmK]
      rw [el]
      exact hN _ ⟨_, _, rfl⟩)
theorem ok_requests (h : DefAt K mg d__law_requests) (T : Facts mg) (c__law_draw : FnV P w K mg base d__law_draw 1 ["_law_bag_here", "_law_many"] fDraw) : FnV P w K mg base d__law_requests 2 ["_law_bag_here", "_law_sender", "_law_ticks_z", "_law_amid"] fReq :=
  fnv_ok h sc__law_requests (fun f cdv A outer s H E hr => (vss_cons (vs_par2 (i := 4) (j := 5) rfl sc__law_requests.nd rfl rfl (by decide) rfl rfl (va_cons (ve_lst va_nil) (va_cons (ve_op ow_sub (ve_cv c__law_draw (hr.mono (by omega)) rfl rfl rfl (fun _ _ _ _ _ _ us hl => match us, hl with | [_, _], _ => rfl) (by rfl) (va_cons (ve_name 0) (va_cons ve_int va_nil))) (ve_op ow_mul ve_int (ve_callT cw_int (by rfl) T.int (by decide +kernel) (va_cons (ve_name 3) va_nil)))) va_nil)) (by rfl)) (vss_cons (vs_set (i := 6) sc__law_requests.nd rfl (by first | exact Or.inl rfl | exact Or.inr rfl) (ve_if (vc_cmp (ow_eq hr.units) (ve_ixA (hu1 hr) (ve_name 1) ve_int) ve_str) (ve_ixA (hu1 hr) (ve_name 1) ve_int) (ve_tup (va_cons ve_int (va_cons ve_int (va_cons ve_non (va_cons ve_int va_nil))))))) (vss_cons (vs_for (by first | exact PassesOwn.never | exact passes_of rfl) rfl (vi_r1 (by rfl) T.range (va_cons ve_int va_nil)) (vg_name (i := 7) sc__law_requests.nd rfl (by first | exact Or.inl rfl | exact Or.inr rfl)) (vss_cons (vs_if (VW.vc (vw_and (vc_cmp ow_gt (ve_name 7) ve_int) (vw_and1 (VW.vc (vw_or (vc_cmp ow_gt (ve_ixA (hu1 hr) (ve_ixA (hu1 hr) (ve_name 4) (ve_op ow_sub (ve_name 7) ve_int)) ve_int) (ve_name 2)) (vw_or1 (VW.vc (vw_and (vc_cmp ow_is (ve_ixA (hu1 hr) (ve_name 6) ve_int) ve_non) (vw_and1 (vc_cmp (ow_eq hr.units) (ve_name 7) ve_int)))))))))) (vss_one vs_break) vss_nil) (vss_cons (vs_set (i := 8) sc__law_requests.nd rfl (by first | exact Or.inl rfl | exact Or.inr rfl) (ve_cv c__law_draw (hr.mono (by omega)) rfl rfl rfl (fun _ _ _ _ _ _ us hl => match us, hl with | [_, _], _ => rfl) (by rfl) (va_cons (ve_name 0) (va_cons (ve_fz (ve_if (vc_cmp (ow_eq hr.units) (ve_ixA (hu1 hr) (ve_name 1) ve_int) ve_str) ve_int (ve_op ow_add (ve_ixA (hu1 hr) (ve_name 6) ve_int) ve_int))) va_nil)))) (vss_cons (vs_set (i := 9) sc__law_requests.nd rfl (by first | exact Or.inl rfl | exact Or.inr rfl) (ve_callB (cw_max rfl) (by rfl) T.max (by decide +kernel) (va_cons (ve_op ow_add (ve_name 5) (ve_name 8)) (va_cons (ve_if (vc_cmp ow_gt (ve_name 7) ve_int) (ve_ixA (hu1 hr) (ve_ixA (hu1 hr) (ve_name 4) (ve_op ow_sub (ve_name 7) ve_int)) ve_int) (ve_name 5)) va_nil)))) (vss_cons (vs_append 4 (va_cons (ve_tup (va_cons (ve_name 5) (va_cons (ve_name 9) (va_cons (ve_fz (ve_op ow_add ve_int (ve_cv c__law_draw (hr.mono (by omega)) rfl rfl rfl (fun _ _ _ _ _ _ us hl => match us, hl with | [_, _], _ => rfl) (by rfl) (va_cons (ve_name 0) (va_cons ve_int va_nil))))) va_nil)))) va_nil)) (vss_cons (vs_set (i := 10) sc__law_requests.nd rfl (by first | exact Or.inl rfl | exact Or.inr rfl) (ve_name 5)) (vss_cons (vs_if (VW.vc (vw_and (vc_cmp ow_ge (ve_op ow_add (ve_name 7) ve_int) (ve_ixA (hu1 hr) (ve_name 6) ve_int)) (vw_and1 (vc_cmp (ow_eq hr.units) (ve_ixA (hu1 hr) (ve_name 1) ve_int) ve_str)))) (vss_one (vs_set (i := 10) sc__law_requests.nd rfl (by first | exact Or.inl rfl | exact Or.inr rfl) (ve_callB (cw_max rfl) (by rfl) T.max (by decide +kernel) (va_cons (ve_name 5) (va_cons (ve_op ow_add (ve_ixA (hu1 hr) (ve_ixA (hu1 hr) (ve_name 4) (ve_op ow_sub (ve_op ow_add (ve_name 7) ve_int) (ve_ixA (hu1 hr) (ve_name 6) ve_int))) ve_int) (ve_ixA (hu1 hr) (ve_name 6) ve_int)) va_nil))))) vss_nil) (vss_cons (vs_set (i := 5) sc__law_requests.nd rfl (by first | exact Or.inl rfl | exact Or.inr rfl) (ve_op ow_add (ve_name 10) (ve_cv c__law_draw (hr.mono (by omega)) rfl rfl rfl (fun _ _ _ _ _ _ us hl => match us, hl with | [_, _], _ => rfl) (by rfl) (va_cons (ve_name 0) (va_cons ve_int va_nil))))) (vss_one (vs_if (vc_cmp ow_isnot (ve_ixA (hu1 hr) (ve_name 6) ve_int) ve_non) (vss_one (vs_set (i := 5) sc__law_requests.nd rfl (by first | exact Or.inl rfl | exact Or.inr rfl) (ve_callB (cw_min rfl) (by rfl) T.min (by decide +kernel) (va_cons (ve_name 5) (va_cons (ve_op ow_add (ve_ixA (hu1 hr) (ve_ixA (hu1 hr) (ve_name 4) (ve_name 7)) ve_int) (ve_ixA (hu1 hr) (ve_name 6) ve_int)) va_nil))))) vss_nil)))))))))) (vss_one (vs_retName 4)))))) (by rintro svs Qs ⟨_, _, _, rfl, _⟩; rfl) (by
    rintro svs Qs ⟨z, t, b, rfl, q⟩
    refine gSeq_go fun R hR => ?_
    simp
    refine ⟨by decide, fun h0 _ _ => ⟨cmulW (by decide) (by cases b <;> decide), ?_⟩⟩
    generalize h0 - 9 * (if b = true then (1 : Int) else 0) = h0
    rw [hR]
    clear hR R
    refine gSeq_go fun R hR => ?_
    simp
    rw [hR]
    clear hR R
    refine gSeq_go fun R hR => ?_
    simp
    refine forW_rng (fun k S => ∃ hh due rs y1 y2 y3 y4, S = [some .bag, some (.tr (.tup [.str z, .str "free", .tup []])), some (.tr (.int t)), some (.tr (.bl b)), some (.own (.lst (rs.map rowD))), some (.tr (.int hh)), some (.tr (.tup [.int 1, .int 1, .non, .int 0])), y1, y2, y3, y4] ∧
      rs.length = k ∧ k ≤ 10 ∧ VRows rs ∧ (rs = [] ∨ ∃ r0, rs.getLast? = some r0 ∧ r0.1 ≤ hh ∧ r0.2.1 = due)) ⟨h0, 0, [], none, none, none, none, rfl, rfl, by omega, rfl, .inl rfl⟩ ?_ ?_
    · rintro S ⟨hh, due, rs, y1, y2, y3, y4, rfl, h1, h2, _⟩
      omega
    · rintro k hk S ⟨hh, due, rs, y1, y2, y3, y4, rfl, h1, h2, h3, h4⟩ N hN
      simp
      refine gSeq_go fun R2 hR2 => ?_
      have stop : ∀ a b c d e f g h i j, R [a, b, c, d, some (.own (.lst (rs.map rowD))), e, f, g, h, i, j] := by
        intros
        rw [hR]
        simpa using q rs h3 (by omega)
      clear hR
      have hat : ∀ r0, rs.getLast? = some r0 → atI (rs.map rowD) ((k : Int) - 1) = some (rowD r0) := by
        intro r0 e
        have hne : rs ≠ [] := fun z => by rw [z] at e; cases e
        have hpos := List.length_pos_iff.mpr hne
        rw [show (k : Int) - 1 = ((rs.length - 1 : Nat) : Int) by omega]
        refine atI_some ?_
        rw [List.getLast?_eq_getElem?] at e
        simp [e]
      have cont : k < 10 → R2 [some .bag, some (.tr (.tup [.str z, .str "free", .tup []])), some (.tr (.int t)), some (.tr (.bl b)), some (.own (.lst (rs.map rowD))), some (.tr (.int hh)), some (.tr (.tup [.int 1, .int 1, .non, .int 0])), some (.tr (.int k)), y2, y3, y4] := by
        intro hk10
        rw [hR2]
        clear hR2 R2
        refine gSeq_go fun R2 hR2 => ?_
        simp
        refine ⟨by decide, fun lag g0 g1 => ?_⟩
        rw [hR2]
        clear hR2 R2
        refine gSeq_go fun R2 hR2 => ?_
        have tail : ∀ d' : Int, hh ≤ d' → (∀ r0, rs.getLast? = some r0 → r0.2.1 ≤ d') → R2 [some .bag, some (.tr (.tup [.str z, .str "free", .tup []])), some (.tr (.int t)), some (.tr (.bl b)), some (.own (.lst (rs.map rowD))), some (.tr (.int hh)), some (.tr (.tup [.int 1, .int 1, .non, .int 0])), some (.tr (.int k)), some (.tr (.int lag)), some (.tr (.int d')), y4] := by
          intro d' hd1 hd2
          rw [hR2]
          clear hR2 R2
          refine gSeq_go fun R2 hR2 => ?_
          simp
          refine ⟨by decide, fun c c0 c1 => ⟨by omega, ?_⟩⟩
          rw [hR2]
          clear hR2 R2
          refine gSeq_go fun R2 hR2 => ?_
          simp
          rw [hR2]
          clear hR2 R2
          refine gSeq_go fun R2 hR2 => ?_
          simp
          refine ⟨by omega, ?_⟩
          rw [hR2]
          clear hR2 R2
          refine gSeq_go fun R2 hR2 => ?_
          simp
          refine ⟨by decide, fun u u0 u1 => ?_⟩
          rw [hR2]
          clear hR2 R2
          simp
          have erow : rs.map rowD ++ [D.tup [.int hh, .int d', .int (1 + c)]] = (rs ++ [(hh, d', 1 + c)]).map rowD := by simp [rowD]
          rw [erow]
          refine hN _ ⟨_, _, rs ++ [(hh, d', 1 + c)], _, _, _, _, rfl, by simp [h1], by omega, ?_, .inr ⟨(hh, d', 1 + c), by simp, by simp only; omega, rfl⟩⟩
          have hrow : ∀ x ∈ rs.map rowD, IsRow x := fun x hx => by
            obtain ⟨r, _, rfl⟩ := List.mem_map.mp hx
            exact ⟨_, _, _, rfl⟩
          unfold VRows
          rw [← erow, goP_snoc hrow h3, goP_row, if_neg (by omega)]
          rcases h4 with rfl | ⟨⟨a0, b0, c0⟩, e1, e2, e3⟩
          · rfl
          · have hl : lastOf none (rs.map rowD) = some (a0, b0, c0) := by
              obtain ⟨rs', er⟩ := List.getLast?_eq_some_iff.mp e1
              have hrow' : ∀ x ∈ rs'.map rowD, IsRow x := fun x hx => hrow x (by rw [er]; simp at hx ⊢; exact .inl hx)
              rw [er, List.map_append]
              exact lastOf_snoc hrow'
            rw [hl]
            have := hd2 _ e1
            simp only at this e2 ⊢
            rw [if_neg (by omega)]
            rfl
        simp
        rcases h4 with rfl | ⟨r0, e1, e2, e3⟩
        · simp at h1
          have e : (if hh + lag < hh then hh else hh + lag) = hh + lag := if_neg (by omega)
          rw [e]
          exact .inl ⟨h1.symm, tail _ (by omega) (fun r0 e => by cases e)⟩
        · have hne : rs ≠ [] := fun z => by rw [z] at e1; cases e1
          have hpos := List.length_pos_iff.mpr hne
          refine .inr ⟨by omega, _, hat r0 e1, ?_⟩
          simp [rowD]
          refine tail _ ?_ fun r e => ?_
          · split <;> omega
          · rw [e1] at e
            cases e
            split <;> omega
      simp
      rcases h4 with rfl | ⟨r0, e1, e2, e3⟩
      · simp at h1
        exact .inl ⟨h1.symm, cont (by omega)⟩
      · have hne : rs ≠ [] := fun z => by rw [z] at e1; cases e1
        have hpos := List.length_pos_iff.mpr hne
        refine .inr ⟨by omega, _, hat r0 e1, ?_⟩
        simp [rowD]
        rcases ltge t r0.1 with h | h
        · exact .inr ⟨h, stop _ _ _ _ _ _ _ _ _ _⟩
        · refine .inl ⟨h, ?_⟩
          by_cases hk10 : (k : Int) = 10
          · rw [if_pos hk10]
            exact stop _ _ _ _ _ _ _ _ _ _
          · rw [if_neg hk10]
            exact cont (by omega))
theorem ok_mixed (h : DefAt K mg d__law_mixed) (T : Facts mg) (c__law_draw : FnV P w K mg base d__law_draw 1 ["_law_bag_here", "_law_many"] fDraw) : FnV P w K mg base d__law_mixed 2 ["_law_bag_here", "_law_some"] fMix :=
  fnv_ok h sc__law_mixed (fun f cdv A outer s H E hr => (vss_cons (vs_set (i := 2) sc__law_mixed.nd rfl (by first | exact Or.inl rfl | exact Or.inr rfl) (ve_lst va_nil)) (vss_cons (vs_for (by first | exact PassesOwn.never | exact passes_of rfl) rfl (vi_seq (ve_name 1)) (vg_name (i := 3) sc__law_mixed.nd rfl (by first | exact Or.inl rfl | exact Or.inr rfl)) (vss_one (vs_insert 2 (va_cons (ve_fz (ve_cv c__law_draw (hr.mono (by omega)) rfl rfl rfl (fun _ _ _ _ _ _ us hl => match us, hl with | [_, _], _ => rfl) (by rfl) (va_cons (ve_name 0) (va_cons (ve_fz (ve_op ow_add (ve_callB cw_len (by rfl) T.len (by decide +kernel) (va_cons (ve_name 2) va_nil)) ve_int)) va_nil)))) (va_cons (ve_name 3) va_nil))))) (vss_one (vs_retName 2))))) (by rintro svs Qs ⟨_, _, rfl, _⟩; rfl) (by
    rintro svs Qs ⟨sv, ds, rfl, ia, hl, q⟩
    refine gSeq_go fun R hR => ?_
    simp
    rw [hR]
    clear hR R
    refine gSeq_go fun R hR => ?_
    simp [ia.look, ia.d]
    refine ⟨ia.st false, forW_ix (fun k S => ∃ ms y, S = [some .bag, some sv, some (.own (.lst ms)), y] ∧ ms.Perm (ds.take k)) ⟨[], _, rfl, by simp⟩ ?_ ?_⟩
    · rintro S ⟨ms, y, rfl, hp⟩
      show R _
      rw [hR]
      rw [List.take_length] at hp
      simpa using q ms hp
    · rintro k hk S ⟨ms, y, rfl, hp⟩ N hN
      have hml := hp.length_eq
      rw [List.length_take] at hml
      clear hR
      simp
      refine ⟨log_lt (by omega), fun r r0 r1 => ⟨_, _, ⟨rfl, rfl⟩, ⟨r0, by omega, by omega⟩, ?_⟩⟩
      refine hN _ ⟨_, _, rfl, ?_⟩
      rw [List.take_succ_eq_append_getElem hk]
      have e1 : (ms.take r.toNat ++ ds[k] :: ms.drop r.toNat).Perm (ds[k] :: ms) := by
        have := List.perm_middle (a := ds[k]) (l₁ := ms.take r.toNat) (l₂ := ms.drop r.toNat)
        rwa [List.take_append_drop] at this
      refine e1.trans ((hp.cons _).trans ?_)
      exact (List.perm_append_singleton _ _).symm)
end
end K12

namespace K12
open PySem PySem.Spec PyProof.Rows L2 VT
def joinStep (f : List Ent) (e : Ent) : List Ent := match e.1, f.getLast? with
  | none, some (none, l) => f.dropLast ++ [(none, l + e.2)]
  | _, _ => f ++ [e]
def idleJ (es : List Ent) : List Ent := es.foldl joinStep []
def stepL (ns : List Str) (rows : Str → List Row) (s : Stt) : Stt := match win ns rows s.sp s.t with
  | some n => match (rows n)[s.sp n]? with
    | some r => ⟨fun m => if m = n then s.sp n + 1 else s.sp m, s.es ++ [(some n, r.2.2)], s.t + r.2.2⟩
    | none => s
  | none => ⟨s.sp, s.es ++ [(none, 1)], s.t + 1⟩
def runL (ns : List Str) (rows : Str → List Row) (ticks : Int) : Nat → Stt → Stt
  | 0, s => s
  | k + 1, s => if s.t < ticks then runL ns rows ticks k (stepL ns rows s) else s
def playL (ns : List Str) (rows : Str → List Row) (ticks : Int) : List Ent := (runL ns rows ticks ticks.toNat ⟨fun _ => 0, [], 0⟩).es
def PlanIn (kvs : List (Key × D)) (n : Str) (rs : List Row) : Prop := ∃ d, valD kvs (.inr n) = some d ∧ (d = .lst (rs.map rowD) ∨ d = .tup (rs.map rowD))
def fJoin : FSp := fun svs Q => ∃ sv es, svs = [sv] ∧ IsA sv (.lst (es.map entD)) ∧ es.length ≤ 5000 ∧ Q (.own (.lst ((idleJ es).map entD)))
def fPlayed : FSp := fun svs Q => ∃ (ns : List Str) (sp : SV) (kvs : List (Key × D)) (rows : Str → List Row) (ticks : Int), svs = [.tr (.tup (ns.map .str)), sp, .tr (.int ticks)] ∧ IsA sp (.dic kvs) ∧ ns.Nodup ∧ ns.length ≤ 1000 ∧ (∀ n ∈ ns, PlanIn kvs n (rows n)) ∧ (∀ n ∈ ns, VRows (rows n)) ∧ 0 ≤ ticks ∧ ticks ≤ 2400 ∧
  Q (.own (.lst ((playL ns rows ticks).map entD)))
theorem stepL_ok {ns : List Str} {rows : Str → List Row} (hv : ∀ n ∈ ns, VRows (rows n)) (s : Stt) : s.t + 1 ≤ (stepL ns rows s).t ∧ (stepL ns rows s).es.length ≤ s.es.length + 1 := by
  unfold stepL
  split
  · rename_i n e
    obtain ⟨h1, r, h2, h3⟩ := win_some e
    rw [h2]
    obtain ⟨l1, l2⟩ := goP_rows (hv n h1) r h3
    exact ⟨by simp only; omega, by simp⟩
  · exact ⟨by simp only; omega, by simp⟩
theorem ent0 (e : Ent) (Q : SV → Prop) : gIxA (entD e) (.int 0) Q ↔ Q (.tr (whoD e.1)) := by simp [entD]
theorem ent1 (e : Ent) (Q : SV → Prop) : gIxA (entD e) (.int 1) Q ↔ Q (.tr (.int e.2)) := by simp [entD]
theorem ents_dat (es : List Ent) : dats (es.map entD) = true := dats_of fun x hx => by
  obtain ⟨e, _, rfl⟩ := List.mem_map.mp hx
  exact entD_dat e
theorem ents_dep (es : List Ent) : deps (es.map entD) ≤ 1 := deps_of fun x hx => by
  obtain ⟨⟨o, l⟩, _, rfl⟩ := List.mem_map.mp hx
  cases o <;> exact Nat.le_refl 1
section
variable {P : Program} {w : World} {K : PySem.W.Frag} {mg : Str → Option Value} {base : Heap}
theorem ok_joined (h : DefAt K mg d__law_idle_joined) (T : Facts mg) : FnV P w K mg base d__law_idle_joined 1 ["_law_rows"] fJoin :=
  fnv_ok h sc__law_idle_joined (fun f cdv A outer s H E hr => (vss_cons (vs_set (i := 1) sc__law_idle_joined.nd rfl (by first | exact Or.inl rfl | exact Or.inr rfl) (ve_lst va_nil)) (vss_cons (vs_for (by first | exact PassesOwn.never | exact passes_of rfl) rfl (vi_seq (ve_name 0)) (vg_name (i := 2) sc__law_idle_joined.nd rfl (by first | exact Or.inl rfl | exact Or.inr rfl)) (vss_one (vs_if (VW.vc (vw_and (vc_cmp ow_is (ve_ixA (hu1 hr) (ve_name 2) ve_int) ve_non) (vw_and (vc_cmp (ow_ne hr.units) (ve_name 1) (ve_lst va_nil)) (vw_and1 (vc_cmp ow_is (ve_ixA (hu1 hr) (ve_ixA (hu1 hr) (ve_name 1) (ve_op ow_sub (ve_callB cw_len (by rfl) T.len (by decide +kernel) (va_cons (ve_name 1) va_nil)) ve_int)) ve_int) ve_non))))) (vss_one (vs_putA (hu1 hr) 1 (ve_tup (va_cons ve_non (va_cons (ve_fz (ve_op ow_add (ve_ixA (hu1 hr) (ve_ixA (hu1 hr) (ve_name 1) (ve_op ow_sub (ve_callB cw_len (by rfl) T.len (by decide +kernel) (va_cons (ve_name 1) va_nil)) ve_int)) ve_int) (ve_ixA (hu1 hr) (ve_name 2) ve_int))) va_nil))) (ve_op ow_sub (ve_callB cw_len (by rfl) T.len (by decide +kernel) (va_cons (ve_name 1) va_nil)) ve_int))) (vss_one (vs_append 1 (va_cons (ve_name 2) va_nil)))))) (vss_one (vs_retName 1))))) (by rintro svs Qs ⟨_, _, rfl, _⟩; rfl) (by
    rintro svs Qs ⟨sv, es, rfl, ia, hl, q⟩
    refine gSeq_go fun R hR => ?_
    simp
    rw [hR]
    clear hR R
    refine gSeq_go fun R hR => ?_
    simp [ia.look, ia.d]
    refine ⟨ia.st false, forW_as entD (fun r S => ∃ f y, S = [some sv, some (.own (.lst (f.map entD))), y] ∧ idleJ es = r.foldl joinStep f ∧ f.length + r.length ≤ es.length) ⟨[], _, rfl, rfl, by simp⟩ ?_ (fun e r S1 h N hN => ?_) rfl⟩
    · rintro S ⟨f, y, rfl, h1, _⟩
      show R _
      rw [hR]
      rw [h1] at q
      simpa using q
    · obtain ⟨f, y, rfl, h1, h2⟩ := h
      clear hR
      obtain ⟨o, l⟩ := e
      simp at h2
      have app : joinStep f (o, l) = f ++ [(o, l)] → N [some sv, some (.own (.lst (f.map entD ++ [entD (o, l)]))), some (.tr (entD (o, l)))] := by
        intro e
        rw [show f.map entD ++ [entD (o, l)] = (f ++ [(o, l)]).map entD by simp]
        refine hN _ ⟨_, _, rfl, ?_, by simp; omega⟩
        rw [h1, List.foldl_cons, e]
      have hd := ents_dep f
      simp [ent0, ent1]
      cases o with
      | some z =>
        simp [whoD, D.isNon]
        exact ⟨by omega, app (by simp [joinStep])⟩
      | none =>
        simp [whoD, D.isNon]
        refine ⟨ents_dat f, by omega, ?_⟩
        rcases List.eq_nil_or_concat f with e0 | ⟨f', ⟨o', l'⟩, e0⟩
        · refine .inl ⟨by rw [e0]; rfl, by omega, app ?_⟩
          rw [e0]
          rfl
        · rw [List.concat_eq_append] at e0
          have dq : deqs (f.map entD) [] = false := by rw [e0]; cases f' <;> rfl
          have hlen : (f.length : Int) - 1 = ((f'.length : Nat) : Int) := by rw [e0]; simp
          have hat : atI (f.map entD) ((f.length : Int) - 1) = some (entD (o', l')) := by
            rw [hlen]
            refine atI_some ?_
            rw [e0]
            simp
          refine .inr ⟨dq, _, hat, ?_⟩
          simp [ent0]
          cases o' with
          | some z =>
            simp [whoD, D.isNon]
            exact ⟨by omega, app (by rw [e0]; simp [joinStep])⟩
          | none =>
            simp [whoD, D.isNon]
            refine ⟨_, hat, ?_⟩
            simp [ent1]
            have hix : ixN f.length ((f.length : Int) - 1) = some f'.length := by
              rw [hlen]
              refine (ixN_lt (by omega) (by rw [e0]; simp; omega)).trans ?_
              simp
            refine ⟨_, hix, ?_⟩
            have e2 : (f.map entD).set f'.length (.tup [.non, .int (l' + l)]) = (f' ++ [(none, l' + l)]).map entD := by
              rw [e0, List.map_append, List.map_append, List.set_append_right _ _ (by simp)]
              simp [entD, whoD]
            rw [e2]
            refine hN _ ⟨_, _, rfl, ?_, by rw [e0] at h2; simp at h2 ⊢; omega⟩
            rw [h1, List.foldl_cons]
            congr 1
            rw [e0]
            simp [joinStep])
theorem ok_played (h : DefAt K mg d__law_played) (T : Facts mg) : FnV P w K mg base d__law_played 1 ["_law_order_z", "_law_plans_z", "_law_ticks_z"] fPlayed :=
  fnv_ok h sc__law_played (fun f cdv A outer s H E hr => (vss_cons (vs_parT rfl (by decide) (va_cons (ve_lst va_nil) (va_cons ve_int (va_cons ve_dic0 va_nil))) (vns_cons (i := 3) sc__law_played.nd rfl (by first | exact Or.inl rfl | exact Or.inr rfl) (vns_cons (i := 4) sc__law_played.nd rfl (by first | exact Or.inl rfl | exact Or.inr rfl) (vns_cons (i := 5) sc__law_played.nd rfl (by first | exact Or.inl rfl | exact Or.inr rfl) vns_nil)))) (vss_cons (vs_for (by first | exact PassesOwn.never | exact passes_of rfl) rfl (vi_seq (ve_name 0)) (vg_name (i := 6) sc__law_played.nd rfl (by first | exact Or.inl rfl | exact Or.inr rfl)) (vss_one (vs_putA (hu1 hr) 5 ve_int (ve_name 6)))) (vss_cons (vs_for (by first | exact PassesOwn.never | exact passes_of rfl) rfl (vi_r1 (by rfl) T.range (va_cons (ve_op ow_add (ve_name 2) ve_int) va_nil)) (vg_name (i := 7) sc__law_played.nd rfl (by first | exact Or.inl rfl | exact Or.inr rfl)) (vss_cons (vs_if (vc_cmp ow_ge (ve_name 4) (ve_name 2)) (vss_one vs_break) vss_nil) (vss_cons (vs_setLc (i := 8) (hy := rfl) (hyl := rfl) (hsw := sw_true rfl rfl rfl (by decide +kernel)) (own := [("_law_who", 6)]) (hc := rfl) (hN := sc__law_played.nd) (vi_seq (ve_name 0)) (blkOk_by (own := [("_law_who", 6)]) (N := ["_law_order_z", "_law_plans_z", "_law_ticks_z", "_law_heard", "_law_tick", "_law_done", "_law_who", "_law_k", "_law_able", "_law_size"]) (sc := d__law_played.scope) (by decide +kernel)) (fun _ _ _ _ _ => (vg_name (i := 6) sc__law_played.nd rfl (by first | exact Or.inl rfl | exact Or.inr rfl))) (fun _ _ _ _ _ => (vcs_one (VW.vc (vw_and (vc_cmp ow_lt (ve_ixA (hu1 hr) (ve_name 5) (ve_name 6)) (ve_callB cw_len (by rfl) T.len (by decide +kernel) (va_cons (ve_ixA (hu1 hr) (ve_name 1) (ve_name 6)) va_nil))) (vw_and1 (vc_cmp ow_le (ve_ixA (hu1 hr) (ve_ixA (hu1 hr) (ve_ixA (hu1 hr) (ve_name 1) (ve_name 6)) (ve_ixA (hu1 hr) (ve_name 5) (ve_name 6))) ve_int) (ve_name 4))))))) (fun _ _ _ _ _ => (ve_name 6))) (vss_one (vs_if (vc_cmp (ow_eq hr.units) (ve_name 8) (ve_lst va_nil)) (vss_cons (vs_append 3 (va_cons (ve_tup (va_cons ve_non (va_cons ve_int va_nil))) va_nil)) (vss_one (vs_set (i := 4) sc__law_played.nd rfl (by first | exact Or.inl rfl | exact Or.inr rfl) (ve_op ow_add (ve_name 4) ve_int)))) (vss_cons (vs_set (i := 9) sc__law_played.nd rfl (by first | exact Or.inl rfl | exact Or.inr rfl) (ve_ixA (hu1 hr) (ve_ixA (hu1 hr) (ve_ixA (hu1 hr) (ve_name 1) (ve_ixA (hu1 hr) (ve_name 8) ve_int)) (ve_ixA (hu1 hr) (ve_name 5) (ve_ixA (hu1 hr) (ve_name 8) ve_int))) ve_int)) (vss_cons (vs_append 3 (va_cons (ve_tup (va_cons (ve_fz (ve_ixA (hu1 hr) (ve_name 8) ve_int)) (va_cons (ve_name 9) va_nil))) va_nil)) (vss_cons (vs_putA (hu1 hr) 5 (ve_fz (ve_op ow_add (ve_ixA (hu1 hr) (ve_name 5) (ve_ixA (hu1 hr) (ve_name 8) ve_int)) ve_int)) (ve_ixA (hu1 hr) (ve_name 8) ve_int)) (vss_one (vs_set (i := 4) sc__law_played.nd rfl (by first | exact Or.inl rfl | exact Or.inr rfl) (ve_op ow_add (ve_name 4) (ve_name 9)))))))))))) (vss_one (vs_retName 3)))))) (by rintro svs Qs ⟨_, _, _, _, _, rfl, _⟩; rfl) (by
    rintro svs Qs ⟨ns, sp, kvs, rows, ticks, rfl, ia, hd, hl, hp, hv, h0, h1, q⟩
    refine gSeq_go fun R hR => ?_
    simp
    rw [hR]
    clear hR R
    refine gSeq_go fun R hR => ?_
    simp
    refine forW_as D.str (fun r S => ∃ a y, ns = a ++ r ∧ S = [some (.tr (.tup (ns.map .str))), some sp, some (.tr (.int ticks)), some (.own (.lst [])), some (.tr (.int 0)), some (.own (.dic (mapD a fun _ => .int 0))), y, none, none, none]) ⟨[], none, rfl, rfl⟩ ?_ (fun n r S1 h N hN => ?_) rfl
    · rintro S ⟨a, y, e, rfl⟩
      rw [List.append_nil] at e
      subst e
      show R _
      rw [hR]
      clear hR R
      refine gSeq_go fun R hR => ?_
      simp
      refine ⟨by omega, ?_⟩
      have stop : ∀ (st : Stt) (m : Nat) (y1 y2 y3 y4 y5 y6 : Option SV), ticks ≤ st.t → (runL ns rows ticks m st).es = playL ns rows ticks → R [some (.tr (.tup (ns.map .str))), some sp, some (.tr (.int ticks)), some (.own (.lst (st.es.map entD))), y1, y2, y3, y4, y5, y6] := by
        intro st m y1 y2 y3 y4 y5 y6 hge e
        have e1 : runL ns rows ticks m st = st := by
          cases m with
          | zero => rfl
          | succ m => exact if_neg (by omega)
        rw [e1] at e
        rw [← e] at q
        rw [hR]
        simpa using q
      refine forW_rng (fun k S => ∃ st m y1 y2 y3 y4, S = [some (.tr (.tup (ns.map .str))), some sp, some (.tr (.int ticks)), some (.own (.lst (st.es.map entD))), some (.tr (.int st.t)), some (.own (.dic (spD ns st.sp))), y1, y2, y3, y4] ∧
        (k : Int) ≤ st.t ∧ 0 ≤ st.t ∧ st.es.length ≤ k ∧ ticks - st.t ≤ (m : Nat) ∧ (runL ns rows ticks m st).es = playL ns rows ticks) ⟨⟨fun _ => 0, [], 0⟩, ticks.toNat, _, none, none, none, rfl, Int.le_refl _, Int.le_refl _, Nat.le_refl _, by simp only; omega, rfl⟩ ?_ ?_
      · rintro S ⟨st, m, y1, y2, y3, y4, rfl, g1, g2, g3, g4, g5⟩
        exact stop st m _ _ _ _ _ _ (by omega) g5
      · rintro k hk S ⟨st, m, y1, y2, y3, y4, rfl, g1, g2, g3, g4, g5⟩ N hN
        simp
        refine gSeq_go fun R2 hR2 => ?_
        simp
        rcases ltge st.t ticks with hlt | hge
        · refine .inl ⟨hlt, ?_⟩
          rw [hR2]
          clear hR2 R2
          refine gSeq_go fun R2 hR2 => ?_
          simp
          refine lcW_filter D.str (able rows st.sp st.t) D.str rfl (by unfold sizeLine; omega) (fun n hn R3 R4 k1 k2 => ?_) ?_
          · obtain ⟨d, p1, p2⟩ := hp n hn
            have hgl : gLen [d] = gLen [.lst ((rows n).map rowD)] := by rcases p2 with rfl | rfl <;> rfl
            have hix : ∀ (i : Int) Q, gIxA d (.int i) Q = gIxA (.lst ((rows n).map rowD)) (.int i) Q := fun i Q => by rcases p2 with rfl | rfl <;> rfl
            have hw : valD (spD ns st.sp) (.inr n) = some (.int (st.sp n : Nat)) := valD_mem hn
            simp [ia.look, ia.d, hw, p1, hgl, hix]
            by_cases hl2 : st.sp n < (rows n).length
            · refine .inr ⟨hl2, _, atI_some (x := rowD (rows n)[st.sp n]) (by simp [hl2]), ?_⟩
              have ea : able rows st.sp st.t n = decide ((rows n)[st.sp n].2.1 ≤ st.t) := by unfold able; rw [List.getElem?_eq_getElem hl2]
              simp [rowD]
              rcases ltge st.t (rows n)[st.sp n].2.1 with h | h
              · exact .inl ⟨h, k2 (by rw [ea]; exact decide_eq_false (Int.not_le.mpr h))⟩
              · exact .inr ⟨h, k1 (by rw [ea]; exact decide_eq_true h)⟩
            · exact .inl ⟨by omega, k2 (by unfold able; rw [List.getElem?_eq_none (by omega)])⟩
          · simp
            rw [hR2]
            clear hR2 R2
            have hwin : win ns rows st.sp st.t = (ns.filter (able rows st.sp st.t)).head? := by rw [List.head?_filter]; rfl
            obtain ⟨s1, s2⟩ := stepL_ok hv st
            obtain ⟨m, rfl⟩ : ∃ j, m = j + 1 := ⟨m - 1, by omega⟩
            have hrun : (runL ns rows ticks m (stepL ns rows st)).es = playL ns rows ticks := by
              rw [← g5]
              show _ = (if st.t < ticks then runL ns rows ticks m (stepL ns rows st) else st).es
              rw [if_pos hlt]
            have fin : ∀ st' y1 y2 y3 y4, stepL ns rows st = st' → N [some (.tr (.tup (ns.map .str))), some sp, some (.tr (.int ticks)), some (.own (.lst (st'.es.map entD))), some (.tr (.int st'.t)), some (.own (.dic (spD ns st'.sp))), y1, y2, y3, y4] := by
              rintro st' y1 y2 y3 y4 rfl
              exact hN _ ⟨_, m, _, _, _, _, rfl, by omega, by omega, by omega, by omega, hrun⟩
            clear hN hrun
            cases hf : ns.filter (able rows st.sp st.t) with
            | nil =>
              rw [hf] at hwin
              have hst : stepL ns rows st = ⟨st.sp, st.es ++ [(none, 1)], st.t + 1⟩ := by
                unfold stepL
                rw [hwin]
                rfl
              simp [gSeq]
              refine ⟨by omega, ?_⟩
              have f := fin _ y1 (some (.tr (.int k))) (some (.own (.lst []))) y4 hst
              simpa [entD, whoD] using f
            | cons n rest =>
              rw [hf] at hwin
              have hwin : win ns rows st.sp st.t = some n := hwin
              obtain ⟨w1, r, w2, w3⟩ := win_some hwin
              have hst : stepL ns rows st = ⟨fun m => if m = n then st.sp n + 1 else st.sp m, st.es ++ [(some n, r.2.2)], st.t + r.2.2⟩ := by
                unfold stepL
                rw [hwin]
                simp only
                rw [w2]
              obtain ⟨d, p1, p2⟩ := hp n w1
              have hix : ∀ Q, gIxA d (.int (st.sp n : Nat)) Q ↔ Q (.tr (rowD r)) := by
                intro Q
                have hat : atI ((rows n).map rowD) ((st.sp n : Nat) : Int) = some (rowD r) := atI_some (by simp [w2])
                rcases p2 with rfl | rfl <;> simp [hat]
              have hval : valD (spD ns st.sp) (.inr n) = some (.int (st.sp n : Nat)) := valD_mem w1
              have hput := fun (y : D) => putD_mem (f := fun n => D.int (st.sp n : Nat)) (y := y) w1
              simp
              refine ⟨dats_of fun x hx => ?_, Nat.le_trans (deps_of (n := 0) fun x hx => ?_) (by decide), ?_⟩
              · obtain ⟨z, _, rfl⟩ := List.mem_map.mp hx
                rfl
              · obtain ⟨z, _, rfl⟩ := List.mem_map.mp hx
                exact Nat.le_refl 0
              refine gSeq_go fun R2 hR2 => ?_
              simp [ia.look, ia.d, p1, hval, hix]
              simp [rowD]
              rw [hR2]
              clear hR2 R2
              refine gSeq_go fun R2 hR2 => ?_
              simp
              refine ⟨by omega, ?_⟩
              rw [hR2]
              clear hR2 R2
              refine gSeq_go fun R2 hR2 => ?_
              simp [hval]
              refine ⟨by unfold spD; rw [mapD_len]; omega, ?_⟩
              rw [hR2]
              simp
              have f := fin _ y1 (some (.tr (.int k))) (some (.own (.lst (.str n :: rest.map .str)))) (some (.tr (.int r.2.2))) hst
              have e1 : spD ns (fun m => if m = n then st.sp n + 1 else st.sp m) = putD (spD ns st.sp) (.inr n) (.int ((st.sp n : Int) + 1)) := by
                unfold spD
                rw [hput]
                refine mapD_congr fun m _ => ?_
                by_cases hm : m = n
                · simp [hm]
                · simp [hm]
              rw [e1] at f
              simpa [entD, whoD] using f
        · exact .inr ⟨hge, stop st m _ _ _ _ _ _ hge g5⟩
    · obtain ⟨a, y, e, rfl⟩ := h
      clear hR
      simp
      have ha : n ∉ a := by
        rw [e, List.nodup_append] at hd
        intro h
        exact hd.2.2 n h n (by simp) rfl
      have hla : a.length ≤ ns.length := by rw [e]; simp
      refine ⟨by omega, ?_⟩
      rw [putD_new (f := fun _ => D.int 0) ha]
      exact hN _ ⟨a ++ [n], _, by rw [e]; simp, rfl⟩)
end
end K12

namespace K12
open PySem PySem.Spec PyProof.Rows L2 VT
/-! ### the plain law -/
theorem idleJ_snoc (es : List Ent) (e : Ent) : idleJ (es ++ [e]) = joinStep (idleJ es) e := by
  unfold idleJ
  rw [List.foldl_append]
  rfl
structure Sim (s s' : Stt) : Prop where
  sp : s.sp = s'.sp
  t : s.t = s'.t
  es : s.es = idleJ s'.es
  pos : 0 ≤ s.t
  last : ∀ l, s.es.getLast? = some (none, l) → l ≤ s.t
theorem sim_step {ns : List Str} {rows : Str → List Row} {ticks : Int} (hv : ∀ n ∈ ns, VRows (rows n)) (h60 : ticks ≤ 60) {s s' : Stt} (h : Sim s s') (ht : s.t < ticks) : Sim (stepP ns rows s) (stepL ns rows s') := by
  obtain ⟨h1, h2, h3, h4, h5⟩ := h
  obtain ⟨sp, es, t⟩ := s
  obtain ⟨sp', es', t'⟩ := s'
  simp only at h1 h2 h3 h4 h5 ht
  subst h1 h2 h3
  unfold stepP stepL
  simp only
  cases hw : win ns rows sp t with
  | some n =>
    obtain ⟨w1, r, w2, w3⟩ := win_some hw
    obtain ⟨l1, l2⟩ := goP_rows (hv n w1) r w3
    simp only [w2]
    refine ⟨rfl, rfl, ?_, by simp only; omega, fun l e => ?_⟩
    · rw [idleJ_snoc]
      simp [joinStep]
    · simp at e
  | none =>
    simp only
    refine ⟨rfl, rfl, ?_, by simp only; omega, fun l e => ?_⟩
    · rw [idleJ_snoc]
      unfold idle60 joinStep
      cases hg : (idleJ es').getLast? with
      | none => rfl
      | some e =>
        obtain ⟨o, l⟩ := e
        cases o with
        | some z => rfl
        | none =>
          have := h5 l hg
          simp only
          rw [if_pos (by omega)]
    · simp only at e ⊢
      unfold idle60 at e
      split at e
      · rename_i l' e'
        have := h5 l' e'
        split at e
        · simp at e
          omega
        · simp at e
          omega
      · simp at e
        omega
theorem sim_run {ns : List Str} {rows : Str → List Row} {ticks : Int} (hv : ∀ n ∈ ns, VRows (rows n)) (h60 : ticks ≤ 60) : ∀ (k : Nat) {s s' : Stt}, Sim s s' → Sim (runP ns rows ticks k s) (runL ns rows ticks k s')
  | 0, _, _, h => h
  | k + 1, s, s', h => by
    show Sim (if s.t < ticks then runP ns rows ticks k (stepP ns rows s) else s) (if s'.t < ticks then runL ns rows ticks k (stepL ns rows s') else s')
    have ht := h.t
    by_cases hlt : s.t < ticks
    · rw [if_pos hlt, if_pos (by omega)]
      exact sim_run hv h60 k (sim_step hv h60 h hlt)
    · rw [if_neg hlt, if_neg (by omega)]
      exact h
theorem play_same {ns : List Str} {rows : Str → List Row} {ticks : Int} (hv : ∀ n ∈ ns, VRows (rows n)) (h60 : ticks ≤ 60) : playE ns rows ticks = idleJ (playL ns rows ticks) :=
  (sim_run hv h60 ticks.toNat (s := ⟨fun _ => 0, [], 0⟩) (s' := ⟨fun _ => 0, [], 0⟩) ⟨rfl, rfl, rfl, Int.le_refl _, fun l e => by cases e⟩).es
theorem runP_len {ns : List Str} {rows : Str → List Row} {ticks : Int} : ∀ (k : Nat) (s : Stt), (runP ns rows ticks k s).es.length ≤ s.es.length + k
  | 0, s => Nat.le_refl _
  | k + 1, s => by
    show (if s.t < ticks then runP ns rows ticks k (stepP ns rows s) else s).es.length ≤ _
    split
    · have h1 := runP_len (ns := ns) (rows := rows) (ticks := ticks) k (stepP ns rows s)
      have h2 : (stepP ns rows s).es.length ≤ s.es.length + 1 := by
        unfold stepP
        split
        · split
          · simp
          · simp
        · exact idle60_len _
      omega
    · omega
theorem playE_len {ns : List Str} {rows : Str → List Row} {ticks : Int} : (playE ns rows ticks).length ≤ ticks.toNat := by
  have := runP_len (ns := ns) (rows := rows) (ticks := ticks) ticks.toNat ⟨fun _ => 0, [], 0⟩
  simpa [playE] using this
theorem playL_len {ns : List Str} {rows : Str → List Row} {ticks : Int} : (playL ns rows ticks).length ≤ ticks.toNat := by
  have h : ∀ (k : Nat) (s : Stt), (runL ns rows ticks k s).es.length ≤ s.es.length + k := by
    intro k
    induction k with
    | zero => intro s; exact Nat.le_refl _
    | succ k ih =>
      intro s
      show (if s.t < ticks then runL ns rows ticks k (stepL ns rows s) else s).es.length ≤ _
      split
      · have h1 := ih (stepL ns rows s)
        have h2 : (stepL ns rows s).es.length ≤ s.es.length + 1 := by
          unfold stepL
          split
          · split
            · simp
            · simp
          · simp
        omega
      · omega
  have := h ticks.toNat ⟨fun _ => 0, [], 0⟩
  simpa [playL] using this
/-- a name without a plan never wins -/
theorem run_less {a b : List Str} {n0 : Str} {rows rows2 : Str → List Row} {ticks : Int} (h0 : rows2 n0 = []) (hr : ∀ n ∈ a ++ b, rows2 n = rows n) : playE (a ++ n0 :: b) rows2 ticks = playE (a ++ b) rows ticks := by
  have hw : ∀ sp t, win (a ++ n0 :: b) rows2 sp t = win (a ++ b) rows sp t := by
    intro sp t
    unfold win
    have e : ∀ l : List Str, (∀ n ∈ l, rows2 n = rows n) → l.find? (able rows2 sp t) = l.find? (able rows sp t) := by
      intro l
      induction l with
      | nil => intro _; rfl
      | cons x l ih =>
        intro h
        have hx : able rows2 sp t x = able rows sp t x := by
          unfold able
          rw [h x (by simp)]
        rw [List.find?_cons, List.find?_cons, hx, ih fun n hn => h n (by simp [hn])]
    have h1 : able rows2 sp t n0 = false := by
      unfold able
      rw [h0]
      rfl
    rw [List.find?_append, List.find?_append, List.find?_cons, h1, e a fun n hn => hr n (by simp [hn]), e b fun n hn => hr n (by simp [hn])]
  have hs : ∀ s, stepP (a ++ n0 :: b) rows2 s = stepP (a ++ b) rows s := by
    intro s
    unfold stepP
    rw [hw]
    cases e : win (a ++ b) rows s.sp s.t with
    | none => rfl
    | some n =>
      have hn := (win_some e).1
      simp only
      rw [hr n hn]
  have hr : ∀ (k : Nat) (s : Stt), runP (a ++ n0 :: b) rows2 ticks k s = runP (a ++ b) rows ticks k s := by
    intro k
    induction k with
    | zero => intro s; rfl
    | succ k ih =>
      intro s
      show (if s.t < ticks then runP (a ++ n0 :: b) rows2 ticks k (stepP (a ++ n0 :: b) rows2 s) else s) = (if s.t < ticks then runP (a ++ b) rows ticks k (stepP (a ++ b) rows s) else s)
      rw [hs, ih]
  unfold playE
  rw [hr]
theorem wide_all : ∀ n : Fin 100, playE [] (fun _ => []) (61 + (n.val : Int)) = List.replicate ((61 + n.val) / 60) (none, 60) ++ (if (61 + n.val) % 60 > 0 then [(none, (((61 + n.val) % 60 : Nat) : Int))] else []) := by decide +kernel
end K12

namespace K12
open PySem PySem.Spec PyProof.Rows L2 VT
def unS : D → Str
  | .str z => z
  | _ => Str.empty
theorem perm_strs {ms : List D} {ns : List Str} (h : ms.Perm (ns.map D.str)) : ∃ os : List Str, ms = os.map D.str ∧ os.Perm ns := by
  refine ⟨ms.map unS, ?_, ?_⟩
  · rw [List.map_map]
    have : ms.map (fun d => d) = ms.map (D.str ∘ unS) := List.map_congr_left fun d hd => by
      obtain ⟨z, _, rfl⟩ := List.mem_map.mp (h.mem_iff.mp hd)
      rfl
    simpa using this
  · have := h.map unS
    rw [List.map_map] at this
    have e : ns.map (unS ∘ D.str) = ns := by
      have : ns.map (unS ∘ D.str) = ns.map fun z => z := List.map_congr_left fun z _ => rfl
      simpa using this
    rwa [e] at this
mutual
theorem sameD_refl : ∀ d : D, d.dat = true → sameD d d = true
  | .non, _ => rfl
  | .bl b, _ => by simp [sameD]
  | .int b, _ => by simp [sameD]
  | .str b, _ => by simp [sameD]
  | .lst xs, h => by simp [sameD, sames_refl xs h]
  | .tup xs, h => by simp [sameD, sames_refl xs h]
  | .dic _, h | .dit _, h | .ins _ _, h | .exn _ _, h | .opq, h => by simp [D.dat] at h
theorem sames_refl : ∀ xs : List D, dats xs = true → sames xs xs = true
  | [], _ => rfl
  | x :: xs, h => by
    simp at h
    simp [sames, sameD_refl x h.1, sames_refl xs h.2]
end
theorem ents_wid (es : List Ent) : wids (es.map entD) = true := wids_of fun x hx => by
  obtain ⟨⟨o, l⟩, _, rfl⟩ := List.mem_map.mp hx
  cases o <;> rfl
theorem ents_same (es : List Ent) : sames (es.map entD) (es.map entD) = true := sames_refl _ (ents_dat es)
theorem log_no (es : List Ent) (j : Bool) (m : Str) (hm : m ≠ "own_entries" ∧ m ≠ "joined" ∧ m ≠ "own_messages" ∧ m ≠ "own_ticks") (a : Str) (b : FV) (h : (a, b) ∈ (logF es j).map (fun p => (p.1, FV.tr p.2))) : ¬ m = a := by
  simp [logF] at h
  rcases h with ⟨rfl, _⟩ | ⟨rfl, _⟩ | ⟨rfl, _⟩ | ⟨rfl, _⟩
  · exact hm.1
  · exact hm.2.1
  · exact hm.2.2.1
  · exact hm.2.2.2
theorem pairsD_map (f : Str → D) : ∀ ns : List Str, pairsD (ns.map fun n => .tup [.str n, f n]) = some (mapD ns f)
  | [] => rfl
  | n :: ns => by
    rw [List.map_cons]
    unfold pairsD
    simp only [keyD_str]
    rw [pairsD_map f ns]
    rfl
theorem merge_map (f : Str → D) : ∀ (b a : List Str), (a ++ b).Nodup → mergeD (mapD a f) (mapD b f) = mapD (a ++ b) f
  | [], a, _ => by rw [List.append_nil]; rfl
  | n :: b, a, h => by
    have hn : n ∉ a := by
      rw [List.nodup_append] at h
      intro k
      exact h.2.2 n k n (by simp) rfl
    show mergeD (putD (mapD a f) (.inr n) (f n)) (mapD b f) = _
    rw [putD_new hn, merge_map f b (a ++ [n]) (by simpa using h)]
    simp
def g7 : List Str := (Str.ofString "gfedcba").cps.toList.map fun c => ⟨#[c]⟩
theorem g7_ok : (∀ n ∈ g7, isNameS n = true) ∧ g7.Nodup ∧ g7.length = 7 ∧ playE g7 (fun _ => []) 3 = [(none, 3)] := by decide +kernel
def rowsA (x : Str) (rs : List Row) : Str → List Row := fun n => if n = x then rs else []
theorem a1_ok : isNameS (Str.ofString "a") = true ∧ playE [Str.ofString "a"] (rowsA (Str.ofString "a") [(0, 0, 2), (70, 150, 1)]) 151 = [(some (Str.ofString "a"), 2), (none, 60), (none, 60), (none, 28), (some (Str.ofString "a"), 1)] ∧
    playE [Str.ofString "a"] (rowsA (Str.ofString "b") [(0, 0, 1)]) 2 = [(none, 2)] ∧ VRows [(0, 0, 2), (70, 150, 1)] ∧ textOf [(some (Str.ofString "a"), 2), (none, 60), (none, 60), (none, 28), (some (Str.ofString "a"), 1)] false = Str.ofString "a 2, - 60, - 60, - 28, a 1" := by
  unfold VRows
  decide +kernel
def plD (ns : List Str) (rows : Str → List Row) : List (Key × D) := mapD ns fun n => .lst ((rows n).map rowD)
theorem plD_in {ns : List Str} {rows : Str → List Row} {n : Str} (h : n ∈ ns) : PlanIn (plD ns rows) n (rows n) := ⟨_, valD_mem h, .inl rfl⟩
abbrev fEnts (K : PySem.W.Frag) : FXp := fun svs Q Qx => ∃ es j, svs = [.tr (.ins (He.ga K "Log") (logF es j))] ∧ Q (.own (.lst (es.map entD)))
abbrev fText (K : PySem.W.Frag) : FXp := fun svs Q Qx => ∃ es j, svs = [.tr (.ins (He.ga K "Log") (logF es j))] ∧ (∀ e ∈ es, okE e) ∧ es.length ≤ 40 ∧ Q (.tr (.str (textOf es j)))
abbrev fTicks (K : PySem.W.Frag) : FSp := fun svs Q => ∃ es j, svs = [.tr (.ins (He.ga K "Log") (logF es j))] ∧ Q (.tr (.int (ticksOf es)))
section
variable {P : Program} {w : World} {K : PySem.W.Frag} {mg : Str → Option Value} {base : Heap}
theorem ok_law (T : Facts mg) (C : CF K mg) (hB : DefAt K mg d__law_bag) (c__law_draw : FnV P w K mg base d__law_draw 1 ["_law_bag_here", "_law_many"] fDraw) (c__law_names : FnV P w K mg base d__law_names 3 ["_law_bag_here", "_law_many"] fNames)
    (c__law_requests : FnV P w K mg base d__law_requests 2 ["_law_bag_here", "_law_sender", "_law_ticks_z", "_law_amid"] fReq) (c__law_mixed : FnV P w K mg base d__law_mixed 2 ["_law_bag_here", "_law_some"] fMix) (c__law_idle_joined : FnV P w K mg base d__law_idle_joined 1 ["_law_rows"] fJoin)
    (c__law_played : FnV P w K mg base d__law_played 1 ["_law_order_z", "_law_plans_z", "_law_ticks_z"] fPlayed) (c_play : FnV P w K mg base d_play 6 ["order", "plans", "ticks", "joined"] (fPlay K)) (c_Log_entries : FnX P w K mg base d_Log_entries (He.fAd K d_Log_entries.at_) 1 ["self"] (fEnts K))
    (c_Log_text : FnX P w K mg base d_Log_text (He.fAd K d_Log_text.at_) 1 ["self"] (fText K)) (c_Log_ticks : PrV P w K mg base (He.ga K "Log") "ticks" 1 (fTicks K)) (c__law_same : FnV P w K mg base d__law_same 4 ["_law_found", "_law_due"] (fSame 4)) :
    ∀ fd, FunD K d_law.name d_law.qual d_law.params d_law.body d_law.scope (d_law.dvs K) (d_law.kws K) (He.fAd K d_law.at_) fd → FnOk P w K mg base CX0 7 (He.fAd K d_law.at_) fd ["_law_script"] (spLaw K) := by
  obtain ⟨fdB, FB, GB⟩ := ok_bag (P := P) (w := w) (base := base) hB T
  have bB : Binds K fdB ["_law_script"] [] := FB.bindsN fun _ _ _ _ _ _ us hl => match us, hl with | [_], _ => rfl
  refine law_ok sc_law (fun f cdv A outer s H E hr => pss_cons (ps_set (i := 1) sc_law.nd rfl (by first | exact Or.inl rfl | exact Or.inr rfl) (pe_call GB (hr.mono (by omega)) (by rfl) hB.mg FB.kp bB .nil pass0 (pa_cons (pv 0) pa_nil))) (VSs.ex (vss_cons (vs_for (by first | exact PassesOwn.never | exact passes_of rfl) rfl (vi_r1 (by rfl) T.range (va_cons ve_int va_nil)) (vg_name (i := 2) sc_law.nd rfl (by first | exact Or.inl rfl | exact Or.inr rfl)) (vss_cons (vs_set (i := 3) sc_law.nd rfl (by first | exact Or.inl rfl | exact Or.inr rfl) (ve_cv c__law_names (hr.mono (by omega)) rfl rfl rfl (fun _ _ _ _ _ _ us hl => match us, hl with | [_, _], _ => rfl) (by rfl) (va_cons (ve_name 1) (va_cons (ve_fz (ve_op ow_add ve_int (ve_cv c__law_draw (hr.mono (by omega)) rfl rfl rfl (fun _ _ _ _ _ _ us hl => match us, hl with | [_, _], _ => rfl) (by rfl) (va_cons (ve_name 1) (va_cons ve_int va_nil))))) va_nil)))) (vss_cons (vs_set (i := 4) sc_law.nd rfl (by first | exact Or.inl rfl | exact Or.inr rfl) ve_dic0) (vss_cons (vs_fz 3 (vs_for (by first | exact PassesOwn.never | exact passes_of rfl) rfl (vi_seq (ve_name 3)) (vg_name (i := 5) sc_law.nd rfl (by first | exact Or.inl rfl | exact Or.inr rfl)) (vss_one (vs_putA (hu1 hr) 4 (ve_fz (ve_cv c__law_requests (hr.mono (by omega)) rfl rfl rfl (fun _ _ _ _ _ _ us hl => match us, hl with | [_, _, _, _], _ => rfl) (by rfl) (va_cons (ve_name 1) (va_cons (ve_tup (va_cons (ve_name 5) (va_cons ve_str (va_cons (ve_tup va_nil) va_nil)))) (va_cons (ve_fz (ve_cv c__law_draw (hr.mono (by omega)) rfl rfl rfl (fun _ _ _ _ _ _ us hl => match us, hl with | [_, _], _ => rfl) (by rfl) (va_cons (ve_name 1) (va_cons ve_int va_nil)))) (va_cons (ve_cmp (ow_eq hr.units) (ve_cv c__law_draw (hr.mono (by omega)) rfl rfl rfl (fun _ _ _ _ _ _ us hl => match us, hl with | [_, _], _ => rfl) (by rfl) (va_cons (ve_name 1) (va_cons ve_int va_nil))) ve_int) va_nil)))))) (ve_name 5))))) (vss_cons (vs_par3 (i := 6) (j := 7) (l := 8) rfl sc_law.nd rfl rfl rfl (by decide) (by decide) (by decide) rfl rfl rfl (va_cons (ve_callT (cw_tupZ rfl) (by rfl) T.tuple (by decide +kernel) (va_cons (ve_cv c__law_mixed (hr.mono (by omega)) rfl rfl rfl (fun _ _ _ _ _ _ us hl => match us, hl with | [_, _], _ => rfl) (by rfl) (va_cons (ve_name 1) (va_cons (ve_name 3) va_nil))) va_nil)) (va_cons (ve_cv c__law_draw (hr.mono (by omega)) rfl rfl rfl (fun _ _ _ _ _ _ us hl => match us, hl with | [_, _], _ => rfl) (by rfl) (va_cons (ve_name 1) (va_cons ve_int va_nil))) (va_cons (ve_cmp (ow_eq hr.units) (ve_cv c__law_draw (hr.mono (by omega)) rfl rfl rfl (fun _ _ _ _ _ _ us hl => match us, hl with | [_, _], _ => rfl) (by rfl) (va_cons (ve_name 1) (va_cons ve_int va_nil))) ve_int) va_nil))) (by rfl)) (vss_cons (vs_set (i := 9) sc_law.nd rfl (by first | exact Or.inl rfl | exact Or.inr rfl) (ve_cv c__law_idle_joined (hr.mono (by omega)) rfl rfl rfl (fun _ _ _ _ _ _ us hl => match us, hl with | [_], _ => rfl) (by rfl) (va_cons (ve_fz (ve_cv c__law_played (hr.mono (by omega)) rfl rfl rfl (fun _ _ _ _ _ _ us hl => match us, hl with | [_, _, _], _ => rfl) (by rfl) (va_cons (ve_name 6) (va_cons (ve_name 4) (va_cons (ve_name 7) va_nil))))) va_nil))) (vss_cons (vs_fz 9 (vs_set (i := 10) sc_law.nd rfl (by first | exact Or.inl rfl | exact Or.inr rfl) (ve_ck (n := 3) (ks := ["joined"]) (ix := [0, 1, 2, 3]) c_play (hr.mono (by omega)) rfl rfl (fun _ _ _ _ _ _ us ws h1 h2 => match us, ws, h1, h2 with | [_, _, _], [_], _, _ => rfl) (by rfl) (va_cons (ve_name 6) (va_cons (ve_name 4) (va_cons (ve_name 7) va_nil))) (vk_cons (ve_name 8) vk_nil)))) (vss_cons (vs_if (vc_not (vc_tru (ve_cv c__law_same (hr.mono (by omega)) rfl rfl rfl (fun _ _ _ _ _ _ us hl => match us, hl with | [_, _], _ => rfl) (by rfl) (va_cons (ve_fz (ve_lst (va_cons (ve_fz (ve_mtx0 (k := 1) (ks := []) (ix := []) (dd := []) (alt1 ⟨C.c_Log, _, _, _, _, C.m_Log_entries, c_Log_entries.mono (by omega), (fun fd cl h => h.kbA (fun _ _ _ _ _ _ us ws h1 h2 => match us, ws, h1, h2 with | [_], [], _, _ => rfl)), .nil⟩) (hr.mono (by omega)) (ve_name 10) vk_nil)) (va_cons (ve_fz (ve_fld [(He.ga _ "Log")] (ve_name 10) (in1 ⟨C.c_Log, C.n_Log_joined⟩))) (va_cons (ve_fz (ve_fld [(He.ga _ "Log")] (ve_cx0 (ks := ["ticks", "plans", "order"]) (ix := [2, 1, 0, 3]) (dd := [.bl false]) c_play.g.x (hr.mono (by omega)) c_play.g.mg (fun fd cl h => h.kbD [("joined", .bl false)] (List.cons_ne_nil _ _) (fun q hq => hq) (fun D doc pm cdv ct an us ws mv h1 h2 h3 => match us, ws, mv, h1, h2, h3 with | [], [_, _, _], [_], _, _, _ => (by refine ⟨?az6, ?bz6, ?cz6, ?dz6, ?ez6, ?fz6, ?gz6, ?hz6, ?iz6⟩; (case gz6 => exact rfl); (case hz6 => exact rfl); (case iz6 => (exact rfl))))) (.cons rfl .nil) (by rfl) (vk_cons (ve_name 7) (vk_cons (ve_name 4) (vk_cons (ve_name 6) vk_nil)))) (in1 ⟨C.c_Log, C.n_Log_joined⟩))) va_nil))))) (va_cons (ve_fz (ve_lst (va_cons (ve_name 9) (va_cons (ve_name 8) (va_cons ve_bl va_nil))))) va_nil))))) (vss_one (vs_ret ve_bl)) vss_nil) (vss_cons (vs_set (i := 11) sc_law.nd rfl (by first | exact Or.inl rfl | exact Or.inr rfl) (ve_callT (cw_dictP rfl) (by rfl) T.dict (by decide +kernel) (va_cons (ve_lc (own := [("_law_who", 5)]) rfl sc_law.nd (vi_seq (ve_fz (ve_slice (ve_name 3) (vo_some ve_int) vo_none))) (blkOk_by (own := [("_law_who", 5)]) (N := ["_law_script", "_law_bag_here", "_law_turn", "_law_names_here", "_law_plans_z", "_law_who", "_law_order_z", "_law_ticks_z", "_law_amid", "_law_due", "_law_found", "_law_less", "_law_wide", "_law_full", "_law_rest"]) (sc := d_law.scope) (by decide +kernel)) (fun _ _ _ _ _ => (vg_name (i := 5) sc_law.nd rfl (by first | exact Or.inl rfl | exact Or.inr rfl))) (fun _ _ _ _ _ => vcs_nil) (fun _ _ _ _ _ => (ve_tup (va_cons (ve_name 5) (va_cons (ve_fz (ve_callT cw_tuple (by rfl) T.tuple (by decide +kernel) (va_cons (ve_ixA (hu1 hr) (ve_name 4) (ve_name 5)) va_nil))) va_nil))))) va_nil))) (vss_one (vs_if (vc_not (vc_tru (ve_cv c__law_same (hr.mono (by omega)) rfl rfl rfl (fun _ _ _ _ _ _ us hl => match us, hl with | [_, _], _ => rfl) (by rfl) (va_cons (ve_fz (ve_mtx0 (k := 1) (ks := []) (ix := []) (dd := []) (alt1 ⟨C.c_Log, _, _, _, _, C.m_Log_entries, c_Log_entries.mono (by omega), (fun fd cl h => h.kbA (fun _ _ _ _ _ _ us ws h1 h2 => match us, ws, h1, h2 with | [_], [], _, _ => rfl)), .nil⟩) (hr.mono (by omega)) (ve_cx (n := 3) (ks := []) (ix := [0, 1, 2, 3]) (dd := [.bl false]) c_play.g.x (hr.mono (by omega)) c_play.g.mg (fun fd cl h => h.kbD [("joined", .bl false)] (List.cons_ne_nil _ _) (fun q hq => hq) (fun D doc pm cdv ct an us ws mv h1 h2 h3 => match us, ws, mv, h1, h2, h3 with | [_, _, _], [], [_], _, _, _ => (by refine ⟨?az5, ?bz5, ?cz5, ?dz5, ?ez5, ?fz5, ?gz5, ?hz5, ?iz5⟩; (case gz5 => exact rfl); (case hz5 => exact rfl); (case iz5 => (exact rfl))))) (.cons rfl .nil) (by rfl) (va_cons (ve_name 6) (va_cons (ve_name 11) (va_cons (ve_name 7) va_nil))) vk_nil) vk_nil)) (va_cons (ve_fz (ve_cv c__law_idle_joined (hr.mono (by omega)) rfl rfl rfl (fun _ _ _ _ _ _ us hl => match us, hl with | [_], _ => rfl) (by rfl) (va_cons (ve_fz (ve_cv c__law_played (hr.mono (by omega)) rfl rfl rfl (fun _ _ _ _ _ _ us hl => match us, hl with | [_, _, _], _ => rfl) (by rfl) (va_cons (ve_fz (ve_op ow_add (ve_slice (ve_name 6) vo_none (vo_some (ve_tix (ve_name 6) (va_cons (ve_ixA (hu1 hr) (ve_name 3) ve_int) va_nil)))) (ve_slice (ve_name 6) (vo_some (ve_op ow_add (ve_tix (ve_name 6) (va_cons (ve_ixA (hu1 hr) (ve_name 3) ve_int) va_nil)) ve_int)) vo_none))) (va_cons (ve_name 4) (va_cons (ve_name 7) va_nil))))) va_nil))) va_nil))))) (vss_one (vs_ret ve_bl)) vss_nil))))))))))) (vss_cons (vs_if (VW.vc (vw_or (vc_cmp (ow_ne hr.units) (ve_prp (ve_cx (n := 3) (ks := []) (ix := [0, 1, 2, 3]) (dd := [.bl false]) c_play.g.x (hr.mono (by omega)) c_play.g.mg (fun fd cl h => h.kbD [("joined", .bl false)] (List.cons_ne_nil _ _) (fun q hq => hq) (fun D doc pm cdv ct an us ws mv h1 h2 h3 => match us, ws, mv, h1, h2, h3 with | [_, _, _], [], [_], _, _, _ => (by refine ⟨?az4, ?bz4, ?cz4, ?dz4, ?ez4, ?fz4, ?gz4, ?hz4, ?iz4⟩; (case gz4 => exact rfl); (case hz4 => exact rfl); (case iz4 => (exact rfl))))) (.cons rfl .nil) (by rfl) (va_cons (ve_fz (ve_callT (cw_tupZ rfl) (by rfl) T.tuple (by decide +kernel) (va_cons ve_str va_nil))) (va_cons (ve_fz ve_dic0) (va_cons ve_int va_nil))) vk_nil) C.c_Log c_Log_ticks (hr.mono (by omega))) ve_int) (vw_or1 (vc_cmp (ow_ne hr.units) (ve_mtx0 (k := 1) (ks := []) (ix := []) (dd := []) (alt1 ⟨C.c_Log, _, _, _, _, C.m_Log_text, c_Log_text.mono (by omega), (fun fd cl h => h.kbA (fun _ _ _ _ _ _ us ws h1 h2 => match us, ws, h1, h2 with | [_], [], _, _ => rfl)), .nil⟩) (hr.mono (by omega)) (ve_cx (n := 3) (ks := []) (ix := [0, 1, 2, 3]) (dd := [.bl false]) c_play.g.x (hr.mono (by omega)) c_play.g.mg (fun fd cl h => h.kbD [("joined", .bl false)] (List.cons_ne_nil _ _) (fun q hq => hq) (fun D doc pm cdv ct an us ws mv h1 h2 h3 => match us, ws, mv, h1, h2, h3 with | [_, _, _], [], [_], _, _, _ => (by refine ⟨?az3, ?bz3, ?cz3, ?dz3, ?ez3, ?fz3, ?gz3, ?hz3, ?iz3⟩; (case gz3 => exact rfl); (case hz3 => exact rfl); (case iz3 => (exact rfl))))) (.cons rfl .nil) (by rfl) (va_cons (ve_tup (va_cons ve_str va_nil)) (va_cons (ve_fz (ve_disp (vp_cons ve_str (ve_fz (ve_lst (va_cons (ve_tup (va_cons ve_int (va_cons ve_int (va_cons ve_int va_nil)))) (va_cons (ve_tup (va_cons ve_int (va_cons ve_int (va_cons ve_int va_nil)))) va_nil)))) vp_nil))) (va_cons ve_int va_nil))) vk_nil) vk_nil) ve_str)))) (vss_one (vs_ret ve_bl)) vss_nil) (vss_cons (vs_set (i := 12) sc_law.nd rfl (by first | exact Or.inl rfl | exact Or.inr rfl) (ve_op ow_add ve_int (ve_cv c__law_draw (hr.mono (by omega)) rfl rfl rfl (fun _ _ _ _ _ _ us hl => match us, hl with | [_, _], _ => rfl) (by rfl) (va_cons (ve_name 1) (va_cons ve_int va_nil))))) (vss_cons (vs_par2 (i := 13) (j := 14) rfl sc_law.nd rfl rfl (by decide) rfl rfl (va_cons (ve_op ow_div (ve_name 12) ve_int) (va_cons (ve_op ow_mod (ve_callT cw_int (by rfl) T.int (by decide +kernel) (va_cons (ve_name 12) va_nil)) ve_int) va_nil)) (by rfl)) (vss_one (vs_ret (ve_cv c__law_same (hr.mono (by omega)) rfl rfl rfl (fun _ _ _ _ _ _ us hl => match us, hl with | [_, _], _ => rfl) (by rfl) (va_cons (ve_fz (ve_lst (va_cons (ve_fz (ve_mtx0 (k := 1) (ks := []) (ix := []) (dd := []) (alt1 ⟨C.c_Log, _, _, _, _, C.m_Log_entries, c_Log_entries.mono (by omega), (fun fd cl h => h.kbA (fun _ _ _ _ _ _ us ws h1 h2 => match us, ws, h1, h2 with | [_], [], _, _ => rfl)), .nil⟩) (hr.mono (by omega)) (ve_cx (n := 3) (ks := []) (ix := [0, 1, 2, 3]) (dd := [.bl false]) c_play.g.x (hr.mono (by omega)) c_play.g.mg (fun fd cl h => h.kbD [("joined", .bl false)] (List.cons_ne_nil _ _) (fun q hq => hq) (fun D doc pm cdv ct an us ws mv h1 h2 h3 => match us, ws, mv, h1, h2, h3 with | [_, _, _], [], [_], _, _, _ => (by refine ⟨?az2, ?bz2, ?cz2, ?dz2, ?ez2, ?fz2, ?gz2, ?hz2, ?iz2⟩; (case gz2 => exact rfl); (case hz2 => exact rfl); (case iz2 => (exact rfl))))) (.cons rfl .nil) (by rfl) (va_cons (ve_tup va_nil) (va_cons (ve_fz ve_dic0) (va_cons (ve_name 12) va_nil))) vk_nil) vk_nil)) (va_cons (ve_fz (ve_mtx0 (k := 1) (ks := []) (ix := []) (dd := []) (alt1 ⟨C.c_Log, _, _, _, _, C.m_Log_entries, c_Log_entries.mono (by omega), (fun fd cl h => h.kbA (fun _ _ _ _ _ _ us ws h1 h2 => match us, ws, h1, h2 with | [_], [], _, _ => rfl)), .nil⟩) (hr.mono (by omega)) (ve_cx (n := 3) (ks := []) (ix := [0, 1, 2, 3]) (dd := [.bl false]) c_play.g.x (hr.mono (by omega)) c_play.g.mg (fun fd cl h => h.kbD [("joined", .bl false)] (List.cons_ne_nil _ _) (fun q hq => hq) (fun D doc pm cdv ct an us ws mv h1 h2 h3 => match us, ws, mv, h1, h2, h3 with | [_, _, _], [], [_], _, _, _ => (by refine ⟨?az1, ?bz1, ?cz1, ?dz1, ?ez1, ?fz1, ?gz1, ?hz1, ?iz1⟩; (case gz1 => exact rfl); (case hz1 => exact rfl); (case iz1 => (exact rfl))))) (.cons rfl .nil) (by rfl) (va_cons (ve_tup (va_cons ve_str va_nil)) (va_cons (ve_fz (ve_disp (vp_cons ve_str (ve_fz (ve_lst (va_cons (ve_tup (va_cons ve_int (va_cons ve_int (va_cons ve_int va_nil)))) va_nil))) vp_nil))) (va_cons ve_int va_nil))) vk_nil) vk_nil)) va_nil)))) (va_cons (ve_fz (ve_lst (va_cons (ve_fz (ve_op ow_add (ve_op ow_mul (ve_lst (va_cons (ve_tup (va_cons ve_non (va_cons ve_int va_nil))) va_nil)) (ve_name 13)) (ve_op ow_mul (ve_lst (va_cons (ve_tup (va_cons ve_non (va_cons (ve_name 14) va_nil))) va_nil)) (ve_callT cw_int (by rfl) T.int (by decide +kernel) (va_cons (ve_cmp ow_gt (ve_name 14) ve_int) va_nil))))) (va_cons (ve_fz (ve_lst (va_cons (ve_tup (va_cons ve_non (va_cons ve_int va_nil))) va_nil))) va_nil)))) va_nil))))))))))) ?_
  refine gSeq_go fun R hR => ?_
  simp
  refine forW_rng (fun _ S => ∃ a b c d e f g h i j k l m, S = [none, some .bag, a, b, c, d, e, f, g, h, i, j, k, l, m]) ⟨_, _, _, _, _, _, _, _, _, _, _, _, _, rfl⟩ ?_ ?_
  · rintro S ⟨a, b, c, d, e, f, g, h, i, j, k, l, m, rfl⟩
    show R _
    rw [hR]
    clear hR R
    refine gSeq_go fun R hR => ?_
    simp
    refine ⟨g7, _, [], fun _ => [], 3, false, by unfold g7; rw [List.map_map]; rfl, (isA_tr _ _).mpr rfl, g7_ok.1, g7_ok.2.1, by rw [g7_ok.2.2.1]; decide, fun n hn => .inr ⟨rfl, rfl⟩, fun _ _ => rfl, by decide, by decide, by rw [g7_ok.2.2.2]; decide, ?_⟩
    rw [g7_ok.2.2.2]
    refine ⟨⟨_, rfl⟩, [(none, 3)], false, rfl, rfl, by decide, .inl ⟨rfl, ?_⟩⟩
    refine ⟨[Str.ofString "a"], _, _, rowsA (Str.ofString "a") [(0, 0, 2), (70, 150, 1)], 151, false, rfl, (isA_tr _ _).mpr rfl, ?_, by simp, by decide, fun n hn => ?_, fun n hn => ?_, by decide, by decide, by rw [a1_ok.2.1]; decide, ?_⟩
    · intro n hn
      simp at hn
      rw [hn]
      exact a1_ok.1
    · simp at hn
      subst hn
      exact .inl ⟨_, rfl, .inl rfl⟩
    · simp at hn
      subst hn
      exact a1_ok.2.2.2.1
    rw [a1_ok.2.1]
    refine ⟨_, _, rfl, _, ⟨rfl, rfl⟩, log_no _ _ _ (by decide), _, false, rfl, ?_, by decide, ?_⟩
    · intro e he
      simp at he
      rcases he with rfl | rfl | rfl | rfl <;> refine ⟨by decide, by decide, fun z hz => ?_⟩ <;> cases hz
      all_goals exact a1_ok.1
    rw [a1_ok.2.2.2.2]
    refine ⟨rfl, by decide, .inl ⟨by simp, ?_⟩⟩
    rw [hR]
    clear hR R
    refine gSeq_go fun R hR => ?_
    simp
    refine ⟨by decide, fun r r0 r1 => ?_⟩
    rw [hR]
    clear hR R
    refine gSeq_go fun R hR => ?_
    simp
    rw [hR]
    clear hR R
    simp
    have hw := wide_all ⟨r.toNat, by omega⟩
    simp only at hw
    have er : 61 + ((r.toNat : Nat) : Int) = 61 + r := by omega
    rw [er] at hw
    have hE : List.replicate ((61 + r) / 60).toNat (D.tup [.non, .int 60]) ++ List.replicate (if 0 < (61 + r) % 60 then (1 : Int) else 0).toNat (D.tup [.non, .int ((61 + r) % 60)]) = (playE [] (fun _ => []) (61 + r)).map entD := by
      rw [hw, List.map_append, List.map_replicate]
      have q1 : ((61 + r) / 60).toNat = (61 + r.toNat) / 60 := by omega
      have q2 : (61 + r) % 60 = (((61 + r.toNat) % 60 : Nat) : Int) := by omega
      rw [q1, q2]
      by_cases h : 0 < (61 + r.toNat) % 60
      · rw [if_pos (by omega), if_pos h]
        rfl
      · rw [if_neg (by omega), if_neg h]
        rfl
    have hln : (playE [] (fun _ => []) (61 + r)).length ≤ 40 := by
      rw [hw, List.length_append, List.length_replicate]
      split <;> simp <;> omega
    rw [hE]
    generalize hz : (if 0 < (61 + r) % 60 then (1 : Int) else 0) = z
    have hz1 : 0 ≤ z ∧ z ≤ 1 := by rw [← hz]; split <;> omega
    refine ⟨⟨by decide, by decide⟩, [], _, [], fun _ => [], 61 + r, false, rfl, (isA_tr _ _).mpr rfl, by simp, by simp, by simp, by simp, by simp, by omega, by omega, hln, ?_⟩
    generalize playE [] (fun _ => []) (61 + r) = es at hln
    refine ⟨_, _, rfl, _, ⟨rfl, rfl⟩, log_no _ _ _ (by decide), es, false, rfl, ?_⟩
    refine ⟨[Str.ofString "a"], _, _, rowsA (Str.ofString "b") [(0, 0, 1)], 2, false, rfl, (isA_tr _ _).mpr rfl, ?_, by simp, by decide, fun n hn => ?_, fun n hn => ?_, by decide, by decide, by rw [a1_ok.2.2.1]; decide, ?_⟩
    · intro n hn
      simp at hn
      rw [hn]
      exact a1_ok.1
    · simp at hn
      subst hn
      exact .inr ⟨rfl, rfl⟩
    · simp at hn
      subst hn
      rfl
    rw [a1_ok.2.2.1]
    refine ⟨_, _, rfl, _, ⟨rfl, rfl⟩, log_no _ _ _ (by decide), [(none, 2)], false, rfl, ?_⟩
    have hdp := ents_dep es
    simp [ents_dat, ents_wid, ents_same, sameD, sames, entD, whoD]
    exact ⟨by omega, by omega, by omega, by omega, by omega, rfl⟩
  · rintro k0 hk0 S ⟨a, b, c, d, e, f, g, h, i, j, k, l, m, rfl⟩ N hN
    clear hR
    simp
    refine gSeq_go fun R hR => ?_
    simp
    refine ⟨by decide, fun r r0 r1 => ?_⟩
    obtain ⟨nn, rfl⟩ : ∃ x : Nat, r = x := ⟨r.toNat, by omega⟩
    refine ⟨nn + 1, by simp; omega, by omega, fun ns hlen hok hnd => ?_⟩
    simp
    rw [hR]
    clear hR R
    refine gSeq_go fun R hR => ?_
    simp
    rw [hR]
    clear hR R
    refine gSeq_go fun R hR => ?_
    simp
    refine forW_as D.str (fun r S => ∃ a rows y, ns = a ++ r ∧ (∀ n ∈ a, VRows (rows n)) ∧ S = [none, some .bag, some (.tr (.int k0)), some (.tr (.lst (ns.map .str))), some (.own (.dic (plD a rows))), y, e, f, g, h, i, j, k, l, m]) ⟨[], fun _ => [], _, rfl, by simp, rfl⟩ ?_ (fun n r S1 h N2 hN2 => ?_) rfl
    · rintro S ⟨a', rows, y, e1, hv, rfl⟩
      rw [List.append_nil] at e1
      subst e1
      show R _
      rw [hR]
      clear hR R
      refine gSeq_go fun R hR => ?_
      simp
      refine ⟨_, _, rfl, (isA_tr _ _).mpr rfl, by simp; omega, fun ms hms => ?_⟩
      obtain ⟨os, rfl, hos⟩ := perm_strs hms
      simp
      refine ⟨by decide, fun t t0 t1 => ⟨by decide, fun u u0 u1 => ?_⟩⟩
      generalize (u == 0) = jj
      have hmem : ∀ n, n ∈ os ↔ n ∈ ns := fun n => hos.mem_iff
      have hond : os.Nodup := hos.nodup_iff.mpr hnd
      have holen : os.length = nn + 1 := hos.length_eq.trans hlen
      have hov : ∀ n ∈ os, VRows (rows n) := fun n hn => hv n ((hmem n).mp hn)
      have hoi : ∀ n ∈ os, PlanIn (plD ns rows) n (rows n) := fun n hn => plD_in ((hmem n).mp hn)
      have hook : ∀ n ∈ os, isNameS n = true := fun n hn => hok n ((hmem n).mp hn)
      have hE := playE_len (ns := os) (rows := rows) (ticks := t)
      have hsame := play_same hov (ticks := t) (by omega)
      rw [hR]
      clear hR R
      refine gSeq_go fun R hR => ?_
      simp
      refine ⟨os, _, plD ns rows, rows, t, rfl, (isA_brw _ _).mpr rfl, hond, by omega, hoi, hov, t0, by omega, ?_⟩
      simp
      refine ⟨_, _, rfl, (isA_tr _ _).mpr rfl, by have := playL_len (ns := os) (rows := rows) (ticks := t); omega, ?_⟩
      simp
      rw [← hsame, hR]
      clear hR R
      refine gSeq_go fun R hR => ?_
      simp
      have hplay : ∀ (b : Bool) (Q : SV → Prop), Q (.tr (.ins (He.ga K "Log") (logF (playE os rows t) b))) → fPlay K [.tr (.tup (os.map .str)), .brw (.dic (plD ns rows)), .tr (.int t), .tr (.bl b)] Q := fun b Q q =>
        ⟨os, _, plD ns rows, rows, t, b, rfl, (isA_brw _ _).mpr rfl, hook, hond, by omega, fun n hn => .inl (hoi n hn), hov, t0, by omega, by omega, q⟩
      refine hplay jj _ ⟨trivial, ?_⟩
      rw [hR]
      clear hR R
      refine gSeq_go fun R hR => ?_
      simp
      have hdep := ents_dep (playE os rows t)
      refine ⟨_, _, ⟨rfl, rfl⟩, _, ⟨rfl, rfl⟩, log_no _ _ _ (by decide), playE os rows t, jj, rfl, ?_⟩
      refine ⟨_, _, ⟨rfl, rfl⟩, rfl, .tr (.bl jj), rfl, ?_⟩
      refine hplay false _ ⟨_, _, rfl, rfl, .tr (.bl false), rfl, ?_⟩
      simp [sameD, sames, ents_dat, ents_wid, ents_same]
      refine ⟨by omega, by omega, ?_⟩
      rw [hR]
      clear hR R
      refine gSeq_go fun R hR => ?_
      obtain ⟨n0, nt, rfl⟩ : ∃ n0 nt, ns = n0 :: nt := by
        cases ns with
        | nil => simp at hlen
        | cons x xs => exact ⟨x, xs, rfl⟩
      have hnt := List.nodup_cons.mp hnd
      have hcut : cutD ((n0 :: nt).map D.str) (some 1) none = nt.map D.str := by
        have := cutD_from (xs := (n0 :: nt).map D.str) (k := 1) (by simp)
        simpa using this
      simp
      simp at hcut
      rw [hcut]
      refine lcW_map D.str (fun n => .tup [.str n, .tup ((rows n).map rowD)]) rfl ?_ (fun n hn R2 r2 => ?_) ?_
      · simp at hlen
        unfold sizeLine
        omega
      · have hval : valD (plD (n0 :: nt) rows) (.inr n) = some (.lst ((rows n).map rowD)) := valD_mem (by simp [hn])
        simp
        refine ⟨_, hval, ?_⟩
        simp
        exact r2
      · simp
        refine ⟨_, pairsD_map (fun n => .tup ((rows n).map rowD)) nt, ?_⟩
        have hmg : mergeD [] (mapD nt fun n => .tup ((rows n).map rowD)) = mapD nt fun n => .tup ((rows n).map rowD) := merge_map _ nt [] (by simpa using hnt.2)
        rw [hmg, hR]
        clear hR R
        simp
        obtain ⟨a, b, hab⟩ := List.append_of_mem ((hmem n0).mpr (by simp))
        have hnd2 := hond
        rw [hab, List.nodup_append] at hnd2
        have hna : n0 ∉ a := fun h => hnd2.2.2 n0 h n0 (by simp) rfl
        have hnb : n0 ∉ b := (List.nodup_cons.mp hnd2.2.1).1
        have hab2 : (a ++ b).Nodup := by
          rw [List.nodup_append]
          exact ⟨hnd2.1, (List.nodup_cons.mp hnd2.2.1).2, fun x hx y hy => hnd2.2.2 x hx y (by simp [hy])⟩
        have habm : ∀ n ∈ a ++ b, n ∈ os ∧ n ≠ n0 := fun n hn => by
          refine ⟨by rw [hab]; simp at hn ⊢; rcases hn with h | h <;> simp [h], fun e => ?_⟩
          rw [e] at hn
          exact (List.mem_append.mp hn).elim hna hnb
        have hless := run_less (a := a) (b := b) (n0 := n0) (rows := rows) (rows2 := fun n => if n = n0 then [] else rows n) (ticks := t) (by simp) (fun n hn => by simp [(habm n hn).2])
        rw [← hab] at hless
        have hlen2 := playE_len (ns := os) (rows := fun n => if n = n0 then [] else rows n) (ticks := t)
        refine ⟨os, _, mapD nt fun n => .tup ((rows n).map rowD), fun n => if n = n0 then [] else rows n, t, false, rfl, (isA_brw _ _).mpr rfl, hook, hond, by omega, fun n hn => ?_, fun n hn => ?_, t0, by omega, by omega, ?_⟩
        · by_cases he : n = n0
          · refine .inr ⟨?_, by simp [he]⟩
            rw [valD_map, if_neg (by rw [he]; exact hnt.1)]
          · have hm := (hmem n).mp hn
            refine .inl ⟨_, valD_mem (by simpa [he] using hm), .inr (by simp [he])⟩
        · by_cases he : n = n0
          · simp [he]
            rfl
          · simp [he]
            exact hov n hn
        rw [hless]
        refine ⟨_, _, rfl, _, ⟨rfl, rfl⟩, log_no _ _ _ (by decide), playE (a ++ b) rows t, false, rfl, ?_⟩
        have hix : os[a.length]? = some n0 := by rw [hab]; simp
        have hbe : ∀ m, m < a.length → ¬ os[m]? = some n0 := by
          intro m hm e
          rw [hab, List.getElem?_append_left hm] at e
          exact hna (List.mem_of_getElem? e)
        refine ⟨os, strsD_str os, a.length, hix, hbe, os, strsD_str os, a.length, hix, hbe, ?_⟩
        have c1 : cutD (os.map D.str) none (some (a.length : Nat)) = a.map D.str := by
          rw [cutD_to (by rw [hab]; simp), hab]
          simp
        have c2 : cutD (os.map D.str) (some ((a.length : Int) + 1)) none = b.map D.str := by
          have := cutD_from (xs := os.map D.str) (k := a.length + 1) (by rw [hab]; simp)
          rw [show (((a.length + 1 : Nat)) : Int) = (a.length : Int) + 1 by omega] at this
          rw [this, hab]
          simp [List.drop_append]
        have hl3 : a.length + b.length + 1 = os.length := by rw [hab]; simp; omega
        rw [c1, c2, ← List.map_append]
        refine ⟨by simp; omega, a ++ b, _, plD (n0 :: nt) rows, rows, t, rfl, (isA_brw _ _).mpr rfl, hab2, by simp; omega, fun n hn => hoi n (habm n hn).1, fun n hn => hov n (habm n hn).1, t0, by omega, ?_⟩
        have hpl := playL_len (ns := a ++ b) (rows := rows) (ticks := t)
        have hpe := playE_len (ns := a ++ b) (rows := rows) (ticks := t)
        refine ⟨_, playL (a ++ b) rows t, rfl, (isA_tr _ _).mpr rfl, by omega, ?_⟩
        rw [← play_same (fun n hn => hov n (habm n hn).1) (by omega)]
        have hdep2 := ents_dep (playE (a ++ b) rows t)
        simp [sameD, sames, ents_dat, ents_wid, ents_same]
        refine ⟨by omega, by omega, ?_⟩
        exact hN _ ⟨_, _, _, _, _, _, _, _, _, _, _, _, _, rfl⟩
    · obtain ⟨a', rows, y, e1, hv, rfl⟩ := h
      clear hR
      have ha : n ∉ a' := by
        rw [e1, List.nodup_append] at hnd
        intro h
        exact hnd.2.2 n h n (by simp) rfl
      have hla : a'.length ≤ 4 := by
        have := congrArg List.length e1
        simp at this
        omega
      simp
      refine ⟨by decide, fun t t0 t1 => ⟨by decide, fun u u0 u1 => ?_⟩⟩
      refine ⟨_, _, _, rfl, fun rs hrs hrl => ?_⟩
      simp
      have e2 : plD (a' ++ [n]) (fun z => if z = n then rs else rows z) = putD (plD a' rows) (.inr n) (.lst (rs.map rowD)) := by
        have e3 : plD a' rows = mapD a' fun z => .lst ((if z = n then rs else rows z).map rowD) := mapD_congr fun z hz => by
          rw [if_neg (fun h => ha (by rw [← h]; exact hz))]
        have e4 := putD_new (f := fun z => D.lst ((if z = n then rs else rows z).map rowD)) ha
        simp only [if_pos rfl] at e4
        rw [e3]
        exact e4.symm
      refine ⟨by unfold plD; rw [mapD_len]; omega, ?_⟩
      rw [← e2]
      refine hN2 _ ⟨a' ++ [n], fun z => if z = n then rs else rows z, _, by rw [e1]; simp, fun z hz => ?_, rfl⟩
      by_cases hzn : z = n
      · simp [hzn, hrs]
      · simp [hzn]
        refine hv z ?_
        simpa [hzn] using hz
end
end K12

set_option maxHeartbeats 0
namespace K12
open PySem PySem.Spec PyProof.Rows L2 VT
def lk : VT.Lks where
  fa := [.free "LookupError", .free "ValueError", .free "abs", .free "all", .free "any", .free "bool", .free "dict", .free "enumerate", .free "int", .free "isinstance", .free "len", .free "list", .free "max", .free "min", .free "property", .free "range", .free "staticmethod", .free "str", .free "super", .free "tuple", .free "zip", .int "MOST_SIGNS" 6, .str "LETTERS" "abcdefghijklmnopqrstuvwxyz", .int "MOST_ENTRIES" 40, .int "MOST_LENGTH" 60, .int "MOST_PLAY" 2400, .glo "Log", .cls "Log", .mkr "Log", .noat "Log" "own_entries", .noat "Log" "joined", .noat "Log" "own_ticks", .noat "Log" "own_messages", .meth "Log" "entries", .meth "Log" "text", .glo "_law_bag", .glo "_law_draw", .glo "_law_idle_joined", .glo "_law_mixed", .glo "_law_letters", .glo "_law_pick", .glo "_law_names", .glo "_law_played", .glo "_law_requests", .glo "_law_same", .glo "is_number", .glo "is_plan", .glo "is_within", .glo "is_name", .glo "need_order", .glo "winner_at", .glo "is_entry", .glo "play", .glo "law"]
  fn := [d__law_bag, d__law_draw, d__law_idle_joined, d__law_mixed, d__law_letters, d__law_pick, d__law_names, d__law_played, d__law_requests, d__law_same, d_is_number, d_is_plan, d_is_within, d_is_name, d_need_order, d_winner_at, d_is_entry, d_play, d_law, d_Log___init__, d_Log_entries, d_Log_text]
  pr := [("Log", "ticks", d_Log_ticks)]
abbrev R : PySem.W.OpenRow := PySem.W.OpenLaw.row PySem.Challenge.rw_heardwire_k12_plans_played
abbrev hk : PySem.W.Hook := VT.hookV 5 lk.seen lk.due
def ob (s : PySem.W.SharedT) : Bool × List He.FnW := lk.seen (He.frG (HandSHeadRun.getT s) (He.asD (HandSHeadRun.getT s) 5))
theorem ob_eq (s : PySem.W.SharedT) : ob s = hk.obs s.abs := VT.hookV_eq (HandSHeadRun.getT_eq s)
def loose : List PySem.Str := (["_wall", "HeardError", "Missing", "TooMany", "InvalidEntry", "InvalidOrder", "InvalidPlan", "InvalidNumber", "InvalidText", "UnknownMessage", "MOST_SIGNS", "LETTERS", "is_name", "is_number", "is_within", "number_in", "MOST_ENTRIES", "MOST_LENGTH", "is_entry", "Log", "entry_in", "MOST_PLAY", "is_plan", "need_order", "play", "winner_at", "_law_bag", "_law_draw", "_law_pick", "_law_letters"] : List PySem.Str) ++ (["_law_names", "_law_requests", "_law_mixed", "_law_idle_joined", "_law_played", "_law_same"] : List PySem.Str)
theorem run (w : World) : HandSHeadRun.RunEq R (PySem.W.view R.prog [41]) hk ob 4000 loose w := by
  intro os
  kernel_rfl
structure Defs (K : PySem.W.Frag) (mg : Str → Option Value) : Prop where
  _law_bag : DefAt K mg d__law_bag
  _law_draw : DefAt K mg d__law_draw
  _law_idle_joined : DefAt K mg d__law_idle_joined
  _law_mixed : DefAt K mg d__law_mixed
  _law_letters : DefAt K mg d__law_letters
  _law_pick : DefAt K mg d__law_pick
  _law_names : DefAt K mg d__law_names
  _law_played : DefAt K mg d__law_played
  _law_requests : DefAt K mg d__law_requests
  _law_same : DefAt K mg d__law_same
  is_number : DefAt K mg d_is_number
  is_plan : DefAt K mg d_is_plan
  is_within : DefAt K mg d_is_within
  is_name : DefAt K mg d_is_name
  need_order : DefAt K mg d_need_order
  winner_at : DefAt K mg d_winner_at
  is_entry : DefAt K mg d_is_entry
  play : DefAt K mg d_play
  law : DefAt K mg d_law
  Log___init__ : ∃ fd, FunD K d_Log___init__.name d_Log___init__.qual d_Log___init__.params d_Log___init__.body d_Log___init__.scope (d_Log___init__.dvs K) (d_Log___init__.kws K) (He.fAd K d_Log___init__.at_) fd
  Log_entries : ∃ fd, FunD K d_Log_entries.name d_Log_entries.qual d_Log_entries.params d_Log_entries.body d_Log_entries.scope (d_Log_entries.dvs K) (d_Log_entries.kws K) (He.fAd K d_Log_entries.at_) fd
  Log_text : ∃ fd, FunD K d_Log_text.name d_Log_text.qual d_Log_text.params d_Log_text.body d_Log_text.scope (d_Log_text.dvs K) (d_Log_text.kws K) (He.fAd K d_Log_text.at_) fd
  Log_ticks : PropOf K (He.ga K "Log") "ticks" (He.ma K (He.ga K "Log") "ticks") (prAt K ("Log", "ticks", d_Log_ticks)) ∧ ∃ fd, FunD K d_Log_ticks.name d_Log_ticks.qual d_Log_ticks.params d_Log_ticks.body d_Log_ticks.scope (d_Log_ticks.dvs K) (d_Log_ticks.kws K) (prAt K ("Log", "ticks", d_Log_ticks)) fd
theorem defs_of {K : PySem.W.Frag} {h : Heap} {mg : Str → Option Value} (X : K.In h) (G : h.Ns mainGlobals mg) (c : lk.Ok K) : Facts mg ∧ CF K mg ∧ Defs K mg :=
  ⟨⟨He.free_ok X G (c.fact 0 (f := .free "LookupError") rfl),
    He.free_ok X G (c.fact 1 (f := .free "ValueError") rfl),
    He.free_ok X G (c.fact 2 (f := .free "abs") rfl),
    He.free_ok X G (c.fact 3 (f := .free "all") rfl),
    He.free_ok X G (c.fact 4 (f := .free "any") rfl),
    He.free_ok X G (c.fact 5 (f := .free "bool") rfl),
    He.free_ok X G (c.fact 6 (f := .free "dict") rfl),
    He.free_ok X G (c.fact 7 (f := .free "enumerate") rfl),
    He.free_ok X G (c.fact 8 (f := .free "int") rfl),
    He.free_ok X G (c.fact 9 (f := .free "isinstance") rfl),
    He.free_ok X G (c.fact 10 (f := .free "len") rfl),
    He.free_ok X G (c.fact 11 (f := .free "list") rfl),
    He.free_ok X G (c.fact 12 (f := .free "max") rfl),
    He.free_ok X G (c.fact 13 (f := .free "min") rfl),
    He.free_ok X G (c.fact 14 (f := .free "property") rfl),
    He.free_ok X G (c.fact 15 (f := .free "range") rfl),
    He.free_ok X G (c.fact 16 (f := .free "staticmethod") rfl),
    He.free_ok X G (c.fact 17 (f := .free "str") rfl),
    He.free_ok X G (c.fact 18 (f := .free "super") rfl),
    He.free_ok X G (c.fact 19 (f := .free "tuple") rfl),
    He.free_ok X G (c.fact 20 (f := .free "zip") rfl),
    He.int_ok X G (c.fact 21 (f := .int "MOST_SIGNS" 6) rfl),
    He.str_ok X G (c.fact 22 (f := .str "LETTERS" "abcdefghijklmnopqrstuvwxyz") rfl),
    He.int_ok X G (c.fact 23 (f := .int "MOST_ENTRIES" 40) rfl),
    He.int_ok X G (c.fact 24 (f := .int "MOST_LENGTH" 60) rfl),
    He.int_ok X G (c.fact 25 (f := .int "MOST_PLAY" 2400) rfl)⟩,
   ⟨He.glo_ok X G (c.fact 26 (f := .glo "Log") rfl),
    He.cls_ok (c.fact 27 (f := .cls "Log") rfl),
    He.mkr_ok (c.fact 28 (f := .mkr "Log") rfl),
    He.noat_ok (c.fact 29 (f := .noat "Log" "own_entries") rfl),
    He.noat_ok (c.fact 30 (f := .noat "Log" "joined") rfl),
    He.noat_ok (c.fact 31 (f := .noat "Log" "own_ticks") rfl),
    He.noat_ok (c.fact 32 (f := .noat "Log" "own_messages") rfl),
    He.meth_ok (c.fact 33 (f := .meth "Log" "entries") rfl),
    He.meth_ok (c.fact 34 (f := .meth "Log" "text") rfl)⟩,
   ⟨⟨c.fun_ 0 (d := d__law_bag) rfl, He.glo_ok X G (c.fact 35 (f := .glo "_law_bag") rfl)⟩,
    ⟨c.fun_ 1 (d := d__law_draw) rfl, He.glo_ok X G (c.fact 36 (f := .glo "_law_draw") rfl)⟩,
    ⟨c.fun_ 2 (d := d__law_idle_joined) rfl, He.glo_ok X G (c.fact 37 (f := .glo "_law_idle_joined") rfl)⟩,
    ⟨c.fun_ 3 (d := d__law_mixed) rfl, He.glo_ok X G (c.fact 38 (f := .glo "_law_mixed") rfl)⟩,
    ⟨c.fun_ 4 (d := d__law_letters) rfl, He.glo_ok X G (c.fact 39 (f := .glo "_law_letters") rfl)⟩,
    ⟨c.fun_ 5 (d := d__law_pick) rfl, He.glo_ok X G (c.fact 40 (f := .glo "_law_pick") rfl)⟩,
    ⟨c.fun_ 6 (d := d__law_names) rfl, He.glo_ok X G (c.fact 41 (f := .glo "_law_names") rfl)⟩,
    ⟨c.fun_ 7 (d := d__law_played) rfl, He.glo_ok X G (c.fact 42 (f := .glo "_law_played") rfl)⟩,
    ⟨c.fun_ 8 (d := d__law_requests) rfl, He.glo_ok X G (c.fact 43 (f := .glo "_law_requests") rfl)⟩,
    ⟨c.fun_ 9 (d := d__law_same) rfl, He.glo_ok X G (c.fact 44 (f := .glo "_law_same") rfl)⟩,
    ⟨c.fun_ 10 (d := d_is_number) rfl, He.glo_ok X G (c.fact 45 (f := .glo "is_number") rfl)⟩,
    ⟨c.fun_ 11 (d := d_is_plan) rfl, He.glo_ok X G (c.fact 46 (f := .glo "is_plan") rfl)⟩,
    ⟨c.fun_ 12 (d := d_is_within) rfl, He.glo_ok X G (c.fact 47 (f := .glo "is_within") rfl)⟩,
    ⟨c.fun_ 13 (d := d_is_name) rfl, He.glo_ok X G (c.fact 48 (f := .glo "is_name") rfl)⟩,
    ⟨c.fun_ 14 (d := d_need_order) rfl, He.glo_ok X G (c.fact 49 (f := .glo "need_order") rfl)⟩,
    ⟨c.fun_ 15 (d := d_winner_at) rfl, He.glo_ok X G (c.fact 50 (f := .glo "winner_at") rfl)⟩,
    ⟨c.fun_ 16 (d := d_is_entry) rfl, He.glo_ok X G (c.fact 51 (f := .glo "is_entry") rfl)⟩,
    ⟨c.fun_ 17 (d := d_play) rfl, He.glo_ok X G (c.fact 52 (f := .glo "play") rfl)⟩,
    ⟨c.fun_ 18 (d := d_law) rfl, He.glo_ok X G (c.fact 53 (f := .glo "law") rfl)⟩,
    c.fun_ 19 (d := d_Log___init__) rfl,
    c.fun_ 20 (d := d_Log_entries) rfl,
    c.fun_ 21 (d := d_Log_text) rfl,
    c.prop 0 (p := ("Log", "ticks", d_Log_ticks)) rfl⟩⟩
theorem law_holds {P : Program} {w : World} {K : PySem.W.Frag} {mg : Str → Option Value} {base : Heap} (T : Facts mg) (C : CF K mg) (D : Defs K mg) :
    ∀ fd, FunD K d_law.name d_law.qual d_law.params d_law.body d_law.scope (d_law.dvs K) (d_law.kws K) (He.fAd K d_law.at_) fd → FnOk P w K mg base CX0 7 (He.fAd K d_law.at_) fd ["_law_script"] (spLaw K) := by
  have c_draw := ok_draw (P := P) (w := w) (base := base) D._law_draw T
  have c_num := ok_is_number (P := P) (w := w) (base := base) D.is_number T
  have c_name := ok_is_name (P := P) (w := w) (base := base) D.is_name T
  have c_within := ok_is_within D.is_within T c_num
  have c_play := ok_play D.play T C (ok_need_order D.need_order T c_name) (ok_is_plan D.is_plan T c_num) c_within (ok_winner_at D.winner_at T) (ok_log D.Log___init__ T C (ok_is_entry D.is_entry T c_name c_within))
  exact ok_law T C D._law_bag c_draw (ok_names D._law_names T c_draw (ok_pick D._law_pick T c_draw) (ok_letters D._law_letters T)) (ok_requests D._law_requests T c_draw) (ok_mixed D._law_mixed T c_draw) (ok_joined D._law_idle_joined T) (ok_played D._law_played T)
    c_play (ok_entries D.Log_entries T C) (ok_text D.Log_text T C) (ok_ticks D.Log_ticks T C) (ok_same D._law_same T 4)
theorem facts {P : Program} {w : World} {K : PySem.W.Frag} {h : Heap} {mg : Str → Option Value} {f : Addr} (X : K.In h) (G : h.Ns mainGlobals mg) (hfa : mg ("law" : Str) = some (.ref f)) (c : lk.Ok K) :
    ∃ fd : FuncData, (∀ (s : Shared) (v : Value), BindsTo s fd ⟨[v], []⟩ [("_law_script", v)]) ∧ ∀ base : Heap, K.In base → base.Ns mainGlobals mg → FnOk P w K mg base CX0 7 f fd ["_law_script"] (spLaw K) := by
  obtain ⟨T, C, D⟩ := defs_of X G c
  obtain ⟨fd, F⟩ := D.law.fd
  have e := hfa.symm.trans D.law.mg
  cases e
  have b := FunD.bindsA (ps := ["_law_script"]) F fun _ _ _ _ _ _ us hl => match us, hl with | [_], _ => rfl
  exact ⟨fd, fun s v => b s [v] rfl, fun base _ _ => law_holds (P := P) (w := w) (base := base) T C D fd F⟩
end K12
open PySem PySem.W PySem.Calls PyProof.Rows
theorem PySem.Challenge.cw_heardwire_k12_plans_played_holds : PySem.Challenge.rw_heardwire_k12_plans_played.Holds := by
  w_on; o_law
  refine HandSHeadRun.head_any (r := OpenLaw.row PySem.Challenge.rw_heardwire_k12_plans_played) (q := view (OpenLaw.row PySem.Challenge.rw_heardwire_k12_plans_played).prog [41]) (H := K12.hk) (ob := K12.ob) (M := 4000) (loose := K12.loose) (d := HandSHeadRun.topDef (OpenLaw.row PySem.Challenge.rw_heardwire_k12_plans_played).prog 41) (kwd := []) K12.ob_eq
    (by kernel_rfl) (fun s => by kernel_rfl) K12.run (by kernel_rfl) (by kernel_rfl) (by kernel_rfl) (by rfl) (by first | assumption | decide +kernel) (by decide +kernel) ⟨rfl, rfl, rfl, rfl, rfl, by decide +kernel⟩ ?hw ?hc
  case hw => w_witness2
  case hc =>
    refine L2.walk_ofE (l := PySem.Challenge.rw_heardwire_k12_plans_played) (n := 63) (k := 7) (x := "_law_script") (CX := L2.CX0) rfl (by decide) (by kernel_rfl) ⟨rfl, by decide, by decide⟩ ?F (fun _ _ _ _ z => z)
    intro w mg fa h Y G hmg0
    obtain ⟨K, KX, c⟩ := Y
    have hmg : mg ("law" : PySem.Str) = some (.ref fa) := by
      have e : (HandSHeadRun.topDef (OpenLaw.row PySem.Challenge.rw_heardwire_k12_plans_played).prog 41).name = ("law" : PySem.Str) := by kernel_rfl
      rw [← e]
      exact hmg0
    obtain ⟨fd, hb, hF⟩ := K12.facts (P := (PySem.Challenge.rw_heardwire_k12_plans_played).prog) (w := w) KX G hmg c
    exact ⟨K, fd, VT.spLaw K, KX, hb, fun H a ns hl _ hS => ⟨a, ns, rfl, hS, fun _ => rfl⟩, hF⟩
