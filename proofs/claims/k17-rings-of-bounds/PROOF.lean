import PyProof.Rows.All
import Wide.All
import OpenK.AllK
import Wide.FinOn
import HandS.ForMost
import HandS.IsInst
import HandS.Wide
import HandS.Style
import HandS.TupAny
import HandS.Flow
import HandS.Deep
import PyProof.StrBlock2
import HandS.Zip
import HandS.More
import HandS.Defaults
import HandS.HeadHook2
import HandS.Head0
import HandS.Head1
import HandS.Head2
import HandS.HeadEnd
import HandS.Codes
import HandS.Dict
import HandS.HeadHook1
import PySem.Challenge.RW_heardwire_k17_rings_of_bounds
set_option Elab.async false
set_option linter.all false
set_option maxRecDepth 100000
set_option maxHeartbeats 4000000
set_option autoImplicit false
/-! VT: values as trees over HandS. -/
namespace VT
open PySem PySem.Spec PyProof.Rows L2

/-- a text of the world -/
def okS (x : Str) : Prop := PyData.strOk x = true ∧ x.length ≤ sizeLine
instance (x : Str) : Decidable (okS x) := inferInstanceAs (Decidable (_ ∧ _))
/-- data without addresses -/
inductive D where
  | non | bl (b : Bool) | int (i : Int) | str (x : Str)
  | lst (xs : List D) | tup (xs : List D)
  | dic (kvs : List (Key × D)) | dit (kvs : List (List Key × D))
  | ins (C : Addr) (fs : List (Str × D))
  | opq

mutual
def rep (F : Hp) : D → V → Prop
  | .non, v => v = .non
  | .bl b, v => v = .bl b
  | .int i, v => v = .int i
  | .str x, v => v = .str x ∧ okS x
  | .lst ds, v => ∃ a vs, v = .ref a ∧ F a = some (.lst vs) ∧ reps F ds vs
  | .tup ds, v => ∃ a vs, v = .ref a ∧ F a = some (.tup vs) ∧ reps F ds vs
  | .dic kvs, v => ∃ a ws, v = .ref a ∧ F a = some (.dK ws) ∧ repk F kvs ws
  | .dit kvs, v => ∃ a ws, v = .ref a ∧ F a = some (.dT ws) ∧ rept F kvs ws
  | .ins C fs, v => ∃ a dx ws, v = .ref a ∧ F a = some (.ins C dx ws) ∧ F dx = some (.own a) ∧ repf F fs ws
  | .opq, _ => False
def reps (F : Hp) : List D → List V → Prop
  | [], vs => vs = []
  | d :: ds, vs => ∃ v r, vs = v :: r ∧ rep F d v ∧ reps F ds r
def repk (F : Hp) : List (Key × D) → List (Key × V) → Prop
  | [], ws => ws = []
  | (k, d) :: r, ws => ∃ v t, ws = (k, v) :: t ∧ rep F d v ∧ repk F r t
def rept (F : Hp) : List (List Key × D) → List (List Key × V) → Prop
  | [], ws => ws = []
  | (k, d) :: r, ws => ∃ v t, ws = (k, v) :: t ∧ rep F d v ∧ rept F r t
def repf (F : Hp) : List (Str × D) → List (Str × V) → Prop
  | [], ws => ws = []
  | (k, d) :: r, ws => ∃ v t, ws = (k, v) :: t ∧ rep F d v ∧ repf F r t
end

section
variable {F F' : Hp}
mutual
theorem rep.mono (h : ∀ b o, F b = some o → F' b = some o) : ∀ (d : D) (v : V), rep F d v → rep F' d v
  | .non, _, r => r
  | .bl _, _, r => r
  | .int _, _, r => r
  | .str _, _, r => r
  | .lst ds, _, ⟨a, vs, e, q, r⟩ => ⟨a, vs, e, h _ _ q, reps.mono h ds vs r⟩
  | .tup ds, _, ⟨a, vs, e, q, r⟩ => ⟨a, vs, e, h _ _ q, reps.mono h ds vs r⟩
  | .dic kvs, _, ⟨a, ws, e, q, r⟩ => ⟨a, ws, e, h _ _ q, repk.mono h kvs ws r⟩
  | .dit kvs, _, ⟨a, ws, e, q, r⟩ => ⟨a, ws, e, h _ _ q, rept.mono h kvs ws r⟩
  | .ins C fs, _, ⟨a, dx, ws, e, q, q2, r⟩ => ⟨a, dx, ws, e, h _ _ q, h _ _ q2, repf.mono h fs ws r⟩
  | .opq, _, r => r
theorem reps.mono (h : ∀ b o, F b = some o → F' b = some o) : ∀ (ds : List D) (vs : List V), reps F ds vs → reps F' ds vs
  | [], _, r => r
  | d :: ds, _, ⟨v, r, e, q, z⟩ => ⟨v, r, e, rep.mono h d v q, reps.mono h ds r z⟩
theorem repk.mono (h : ∀ b o, F b = some o → F' b = some o) : ∀ (ds : List (Key × D)) (vs : List (Key × V)), repk F ds vs → repk F' ds vs
  | [], _, r => r
  | (k, d) :: ds, _, ⟨v, r, e, q, z⟩ => ⟨v, r, e, rep.mono h d v q, repk.mono h ds r z⟩
theorem rept.mono (h : ∀ b o, F b = some o → F' b = some o) : ∀ (ds : List (List Key × D)) (vs : List (List Key × V)), rept F ds vs → rept F' ds vs
  | [], _, r => r
  | (k, d) :: ds, _, ⟨v, r, e, q, z⟩ => ⟨v, r, e, rep.mono h d v q, rept.mono h ds r z⟩
theorem repf.mono (h : ∀ b o, F b = some o → F' b = some o) : ∀ (ds : List (Str × D)) (vs : List (Str × V)), repf F ds vs → repf F' ds vs
  | [], _, r => r
  | (k, d) :: ds, _, ⟨v, r, e, q, z⟩ => ⟨v, r, e, rep.mono h d v q, repf.mono h ds r z⟩
end
theorem reps.length : ∀ {ds : List D} {vs : List V}, reps F ds vs → vs.length = ds.length
  | [], _, r => by rw [show _ = [] from r]; rfl
  | _ :: _, _, ⟨v, r, e, _, z⟩ => by rw [e, List.length_cons, List.length_cons, reps.length z]
theorem reps.append : ∀ {ds es : List D} {vs ws : List V}, reps F ds vs → reps F es ws → reps F (ds ++ es) (vs ++ ws)
  | [], _, _, _, r, s => by rw [show _ = [] from r]; exact s
  | _ :: _, _, _, _, ⟨v, r, e, q, z⟩, s => by rw [e]; exact ⟨v, _, rfl, q, reps.append z s⟩
theorem reps.get : ∀ {ds : List D} {vs : List V} {i : Nat} {d : D}, reps F ds vs → ds[i]? = some d → ∃ v, vs[i]? = some v ∧ rep F d v
  | [], _, _, _, _, e => by simp at e
  | _ :: _, _, 0, _, ⟨v, r, e, q, z⟩, h => by
    rw [e]
    have h : some _ = some _ := h
    cases h
    exact ⟨v, rfl, q⟩
  | _ :: _, _, i + 1, _, ⟨v, r, e, q, z⟩, h => by
    rw [e]
    exact reps.get (i := i) z h
theorem reps.get' : ∀ {ds : List D} {vs : List V} {i : Nat} {v : V}, reps F ds vs → vs[i]? = some v → ∃ d, ds[i]? = some d ∧ rep F d v
  | [], _, _, _, r, e => by rw [show _ = [] from r] at e; simp at e
  | d :: _, _, 0, _, ⟨v, r, e, q, z⟩, h => by
    rw [e] at h
    have h : some _ = some _ := h
    cases h
    exact ⟨d, rfl, q⟩
  | _ :: _, _, i + 1, _, ⟨v, r, e, q, z⟩, h => by
    rw [e] at h
    exact reps.get' (i := i) z h
theorem reps.take : ∀ {ds : List D} {vs : List V} (n : Nat), reps F ds vs → reps F (ds.take n) (vs.take n)
  | _, _, 0, _ => rfl
  | [], _, _ + 1, r => by rw [show _ = [] from r]; rfl
  | _ :: _, _, n + 1, ⟨v, r, e, q, z⟩ => by rw [e]; exact ⟨v, _, rfl, q, reps.take n z⟩
theorem reps.drop : ∀ {ds : List D} {vs : List V} (n : Nat), reps F ds vs → reps F (ds.drop n) (vs.drop n)
  | _, _, 0, r => r
  | [], _, _ + 1, r => by rw [show _ = [] from r]; rfl
  | _ :: _, _, n + 1, ⟨v, r, e, q, z⟩ => by rw [e]; exact reps.drop n z
theorem reps.set : ∀ {ds : List D} {vs : List V} (n : Nat) {d : D} {v : V}, reps F ds vs → rep F d v → reps F (ds.set n d) (vs.set n v)
  | [], _, _, _, _, r, _ => by rw [show _ = [] from r]; rfl
  | _ :: _, _, 0, _, _, ⟨v, r, e, q, z⟩, h => by rw [e]; exact ⟨_, _, rfl, h, z⟩
  | _ :: _, _, n + 1, _, _, ⟨v, r, e, q, z⟩, h => by rw [e]; exact ⟨v, _, rfl, q, reps.set n z h⟩
theorem reps.reverse : ∀ {ds : List D} {vs : List V}, reps F ds vs → reps F ds.reverse vs.reverse
  | [], _, r => by rw [show _ = [] from r]; rfl
  | _ :: _, _, ⟨v, r, e, q, z⟩ => by
    rw [e, List.reverse_cons, List.reverse_cons]
    exact reps.append (reps.reverse z) ⟨v, [], rfl, q, rfl⟩
theorem reps.map_int : ∀ {ns : List Int} {vs : List V}, reps F (ns.map D.int) vs → vs = ns.map V.int
  | [], _, r => r
  | _ :: ns, _, ⟨v, r, e, q, z⟩ => by
    rw [e, show v = _ from q, reps.map_int (ns := ns) z]
    rfl
theorem reps.of_int : ∀ {ns : List Int}, reps F (ns.map D.int) (ns.map V.int)
  | [] => rfl
  | _ :: ns => ⟨_, _, rfl, rfl, reps.of_int (ns := ns)⟩
theorem reps.map_str : ∀ {ns : List Str} {vs : List V}, reps F (ns.map D.str) vs → vs = ns.map V.str ∧ ∀ x ∈ ns, okS x
  | [], _, r => ⟨r, fun _ h => nomatch h⟩
  | n :: ns, _, ⟨v, r, e, q, z⟩ => by
    obtain ⟨h1, h2⟩ := reps.map_str (ns := ns) z
    refine ⟨by rw [e, show v = _ from q.1, h1]; rfl, fun x h => ?_⟩
    rcases List.mem_cons.mp h with rfl | h
    · exact q.2
    · exact h2 x h
theorem reps.map_bl : ∀ {ns : List Bool} {vs : List V}, reps F (ns.map D.bl) vs → vs = ns.map V.bl
  | [], _, r => r
  | _ :: ns, _, ⟨v, r, e, q, z⟩ => by
    rw [e, show v = _ from q, reps.map_bl (ns := ns) z]
    rfl
end

/-- how a value is held: a frozen tree; an object of this frame's own, not yet shared; a parameter's object that is only read; an object just looked at; the bag -/
inductive SV where
  | tr (d : D) | own (d : D) | brw (d : D) | pk (d : D) | bag
def SV.d : SV → D
  | .tr d => d
  | .own d => d
  | .brw d => d
  | .pk d => d
  | .bag => .opq

/-- the ghosts: what is frozen, where the bag stands -/
structure Gh where
  F : Hp
  pb : Option Addr

/-- the bag: cells (frozen), place, rest, mixed -/
def BagAt (G : Gh) (H : Hp) (p : Addr) : Prop := ∃ (c : Addr) (ns : List Int) (i r m : Int), H p = some (.lst [.ref c, .int i, .int r, .int m]) ∧ G.F c = some (.lst (ns.map V.int)) ∧ ns.length ≤ 63 ∧ 0 ≤ i ∧ 0 ≤ r ∧ 0 ≤ m ∧ m < 2147483648

structure OkG (G : Gh) (H : Hp) : Prop where
  sub : ∀ b o, G.F b = some o → H b = some o
  bag : ∀ p, G.pb = some p → BagAt G H p ∧ G.F p = none

/-- the heap went on: nothing that stood was changed but the bag -/
structure Ext (G : Gh) (H : Hp) (G' : Gh) (H' : Hp) : Prop where
  ok : OkG G' H'
  same : ∀ b o, H b = some o → G.pb ≠ some b → H' b = some o
  pb : ∀ p, G.pb = some p → G'.pb = some p
  pnew : ∀ p, G'.pb = some p → G.pb = some p ∨ H p = none
  frz : ∀ b o, G.F b = some o → G'.F b = some o
  new : ∀ b o, G'.F b = some o → G.F b = some o ∨ H b = none

section
variable {G G' G1 G2 : Gh} {H H' H1 H2 : Hp}
theorem Ext.refl (ok : OkG G H) : Ext G H G H := ⟨ok, fun _ _ h _ => h, fun _ h => h, fun _ h => .inl h, fun _ _ h => h, fun _ _ h => .inl h⟩
/-- what stood stands -/
theorem Ext.dom (E : Ext G H G' H') {b : Addr} (h : H' b = none) : H b = none := by
  cases e : H b with
  | none => rfl
  | some o =>
    by_cases q : G.pb = some b
    · obtain ⟨⟨c, ns, i, r, m, z, _⟩, _⟩ := E.ok.bag b (E.pb b q)
      rw [z] at h
      cases h
    · rw [E.same b o e q] at h
      cases h
theorem Ext.trans (a : Ext G H G1 H1) (b : Ext G1 H1 G2 H2) : Ext G H G2 H2 where
  ok := b.ok
  same := fun c o h q => b.same c o (a.same c o h q) fun z => by
    rcases a.pnew c z with z | z
    · exact q z
    · rw [h] at z; cases z
  pb := fun p h => b.pb p (a.pb p h)
  pnew := fun p h => by
    rcases b.pnew p h with z | z
    · exact a.pnew p z
    · exact .inr (a.dom z)
  frz := fun c o h => b.frz c o (a.frz c o h)
  new := fun c o h => by
    rcases b.new c o h with z | z
    · exact a.new c o z
    · exact .inr (a.dom z)
end

/-- what stands at a, to be changed -/
def cont (F H : Hp) (a : Addr) : D → Prop
  | .lst ds => ∃ vs, H a = some (.lst vs) ∧ reps F ds vs
  | .dic kvs => ∃ ws, H a = some (.dK ws) ∧ repk F kvs ws
  | .dit kvs => ∃ ws, H a = some (.dT ws) ∧ rept F kvs ws
  | _ => False
/-- H0: the heap at the frame's entry (a parameter's object stood there); Hs: the heap ahead of which an own object did not stand -/
def RepV (H0 Hs : Hp) (G : Gh) (H : Hp) (v : V) : SV → Prop
  | .tr d => rep G.F d v
  | .own d => ∃ a, v = .ref a ∧ Hs a = none ∧ G.F a = none ∧ G.pb ≠ some a ∧ cont G.F H a d
  | .brw d => ∃ a, v = .ref a ∧ H0 a ≠ none ∧ G.pb ≠ some a ∧ cont G.F H a d
  | .pk d => ∃ a, v = .ref a ∧ G.pb ≠ some a ∧ cont G.F H a d
  | .bag => ∃ a, v = .ref a ∧ G.pb = some a

section
variable {G G' G1 G2 : Gh} {H0 Hs Hs' H H' H1 H2 : Hp} {v : V} {sv : SV} {a : Addr} {d : D}
theorem Rd.ext (E : Ext G H G' H') {u : HO} (q : G.pb ≠ some a) (h : Rd H a u) : Rd H' a u := by
  rcases h with h | ⟨o, h⟩
  · exact .inl (E.same a _ h q)
  · exact .inr ⟨o, E.same a _ h q⟩
theorem cont.ext (E : Ext G H G' H') (q : G.pb ≠ some a) (h : cont G.F H a d) : cont G'.F H' a d := by
  cases d with
  | lst ds => obtain ⟨vs, e, r⟩ := h; exact ⟨vs, E.same _ _ e q, reps.mono E.frz _ _ r⟩
  | dic kvs => obtain ⟨vs, e, r⟩ := h; exact ⟨vs, E.same _ _ e q, repk.mono E.frz _ _ r⟩
  | dit kvs => obtain ⟨vs, e, r⟩ := h; exact ⟨vs, E.same _ _ e q, rept.mono E.frz _ _ r⟩
  | _ => exact h.elim
theorem cont.there (h : cont G.F H a d) : H a ≠ none := by
  cases d with
  | lst ds => obtain ⟨vs, e, r⟩ := h; rw [e]; simp
  | dic kvs => obtain ⟨vs, e, r⟩ := h; rw [e]; simp
  | dit kvs => obtain ⟨vs, e, r⟩ := h; rw [e]; simp
  | _ => exact h.elim
theorem Ext.npb (E : Ext G H G' H') (q : G.pb ≠ some a) (h : H a ≠ none) : G'.pb ≠ some a := fun z => by
  rcases E.pnew a z with z | z
  · exact q z
  · exact h z
theorem Ext.nF (E : Ext G H G' H') (q : G.F a = none) (h : H a ≠ none) : G'.F a = none := by
  cases e : G'.F a with
  | none => rfl
  | some o =>
    rcases E.new a o e with z | z
    · rw [q] at z; cases z
    · exact (h z).elim
/-- a held value stays -/
theorem RepV.ext (E : Ext G H G' H') (r : RepV H0 Hs G H v sv) : RepV H0 Hs G' H' v sv := by
  cases sv with
  | tr d => exact rep.mono E.frz d v r
  | own d =>
    obtain ⟨a, e, h1, h2, h3, h4⟩ := r
    exact ⟨a, e, h1, E.nF h2 h4.there, E.npb h3 h4.there, h4.ext E h3⟩
  | brw d =>
    obtain ⟨a, e, h1, h3, h4⟩ := r
    exact ⟨a, e, h1, E.npb h3 h4.there, h4.ext E h3⟩
  | pk d =>
    obtain ⟨a, e, h3, h4⟩ := r
    exact ⟨a, e, E.npb h3 h4.there, h4.ext E h3⟩
  | bag =>
    obtain ⟨a, e, h⟩ := r
    exact ⟨a, e, E.pb a h⟩
/-- newer than a later heap is newer than an earlier one -/
theorem RepV.back (h : ∀ b, Hs b = none → Hs' b = none) (r : RepV H0 Hs G H v sv) : RepV H0 Hs' G H v sv := by
  cases sv with
  | own d =>
    obtain ⟨a, e, h1, h2⟩ := r
    exact ⟨a, e, h a h1, h2⟩
  | _ => exact r
end

abbrev S := List (Option SV)
/-- the frame's slots as they are told -/
structure Rel (G0 : Gh) (H0 : Hp) (G : Gh) (H : Hp) (σ : L2.St) (S : S) : Prop where
  ext : Ext G0 H0 G H
  len : S.length = σ.length
  slot : ∀ (i : Nat) (sv : SV), S[i]? = some (some sv) → ∃ v, σ[i]? = some (some v) ∧ RepV H0 H0 G H v sv
  inj : ∀ (i j : Nat) (c c' : D) (a : Addr), S[i]? = some (some (.own c)) → S[j]? = some (some (.own c')) → σ[i]? = some (some (.ref a)) → σ[j]? = some (some (.ref a)) → i = j
  nopk : ∀ (i : Nat) (d : D), S[i]? ≠ some (some (.pk d))
theorem Rel.ok {G0 G : Gh} {H0 H : Hp} {σ : L2.St} {S : S} (R : Rel G0 H0 G H σ S) : OkG G H := R.ext.ok
theorem Rel.go {G0 G G' : Gh} {H0 H H' : Hp} {σ : L2.St} {S : S} (R : Rel G0 H0 G H σ S) (E : Ext G H G' H') : Rel G0 H0 G' H' σ S :=
  ⟨R.ext.trans E, R.len, fun i sv e => let ⟨v, e1, r⟩ := R.slot i sv e; ⟨v, e1, r.ext E⟩, R.inj, R.nopk⟩

/-! ### readings -/
abbrev GE := S → (SV → Prop) → Prop
abbrev GT := S → (Bool → Prop) → Prop
abbrev GA := S → (List SV → Prop) → Prop
abbrev KQ (H0 : Hp) (G : Gh) (H : Hp) (Qs : SV → Prop) (Q : VK) : Prop := ∀ v H' G' sv, Ext G H G' H' → RepV H0 H G' H' v sv → Qs sv → Q v H'
def TV (G0 : Gh) (H0 : Hp) (g : GE) : TE := fun σ H Q => ∃ G S Qs, Rel G0 H0 G H σ S ∧ g S Qs ∧ KQ H0 G H Qs Q
def TTV (G0 : Gh) (H0 : Hp) (g : GT) : TT := fun σ H Q => ∃ G S Qs, Rel G0 H0 G H σ S ∧ g S Qs ∧ ∀ b H' G', Ext G H G' H' → Qs b → Q b H'
/-- where the own ones of a row stand -/
def ownsOf : List SV → List V → List Addr
  | .own _ :: svs, .ref a :: vs => a :: ownsOf svs vs
  | _ :: svs, _ :: vs => ownsOf svs vs
  | _, _ => []
inductive RepL (H0 Hs : Hp) (G : Gh) (H : Hp) : List V → List SV → Prop
  | nil : RepL H0 Hs G H [] []
  | cons {v : V} {sv : SV} {vs : List V} {svs : List SV} : RepV H0 Hs G H v sv → RepL H0 Hs G H vs svs → (∀ a d, v = .ref a → sv = .own d → a ∉ ownsOf svs vs) → RepL H0 Hs G H (v :: vs) (sv :: svs)
def TAV (G0 : Gh) (H0 : Hp) (g : GA) : TA := fun σ H Q => ∃ G S Qs, Rel G0 H0 G H σ S ∧ g S Qs ∧ ∀ vs H' G' svs, Ext G H G' H' → RepL H0 H G' H' vs svs → Qs svs → Q vs H'
structure VE (X : Cx) (e : Expr) (g : GE) : Prop where
  pe : ∀ G0 H0, PE X e (TV G0 H0 g)
structure VC (X : Cx) (e : Expr) (g : GT) : Prop where
  pt : ∀ G0 H0, PT X e (TTV G0 H0 g)
structure VW (X : Cx) (e : Expr) (g : GT) : Prop where
  pw : ∀ G0 H0, PW X e (TTV G0 H0 g)
structure VA (X : Cx) (es : List Expr) (g : GA) : Prop where
  pa : ∀ G0 H0, PA X es (TAV G0 H0 g)
section
variable {X : Cx} {e : Expr}
theorem peMono {t t' : TE} (h : PE X e t) (k : ∀ σ H Q, t' σ H Q → t σ H Q) : PE X e t' := ⟨fun pins s σ H Q I q => h.run pins s σ H Q I (k σ H Q q)⟩
theorem ptMono {t t' : TT} (h : PT X e t) (k : ∀ σ H Q, t' σ H Q → t σ H Q) : PT X e t' := ⟨fun pins s σ H Q I q => h.run pins s σ H Q I (k σ H Q q)⟩
theorem pwMono {t t' : TT} (h : PW X e t) (k : ∀ σ H Q, t' σ H Q → t σ H Q) : PW X e t' := ⟨fun wh pins s σ H Q I q => h.run wh pins s σ H Q I (k σ H Q q)⟩
theorem paMono {es : List Expr} {t t' : TA} (h : PA X es t) (k : ∀ σ H Q, t' σ H Q → t σ H Q) : PA X es t' := ⟨fun pos pins s σ H Q I q => h.run pos pins s σ H Q I (k σ H Q q)⟩
theorem peOf {t : TE} (h : ∀ σ H Q, t σ H Q → ∃ t', PE X e t' ∧ t' σ H Q) : PE X e t := ⟨fun pins s σ H Q I q => let ⟨_, p, z⟩ := h σ H Q q; p.run pins s σ H Q I z⟩
end
theorem RepL.ext {H0 Hs : Hp} {G G' : Gh} {H H' : Hp} (E : Ext G H G' H') : ∀ {vs : List V} {svs : List SV}, RepL H0 Hs G H vs svs → RepL H0 Hs G' H' vs svs
  | _, _, .nil => .nil
  | _, _, .cons r t n => .cons (r.ext E) (RepL.ext E t) n
theorem RepL.back {H0 Hs Hs' : Hp} {G : Gh} {H : Hp} (h : ∀ b, Hs b = none → Hs' b = none) : ∀ {vs : List V} {svs : List SV}, RepL H0 Hs G H vs svs → RepL H0 Hs' G H vs svs
  | _, _, .nil => .nil
  | _, _, .cons r t n => .cons (r.back h) (RepL.back h t) n
theorem RepL.length {H0 Hs : Hp} {G : Gh} {H : Hp} : ∀ {vs : List V} {svs : List SV}, RepL H0 Hs G H vs svs → vs.length = svs.length
  | _, _, .nil => rfl
  | _, _, .cons r t _ => by rw [List.length_cons, List.length_cons, RepL.length t]
theorem ownsOf_new {H0 Hs : Hp} {G : Gh} {H : Hp} : ∀ {vs : List V} {svs : List SV}, RepL H0 Hs G H vs svs → ∀ a ∈ ownsOf svs vs, Hs a = none
  | _, _, .nil, a, h => by simp [ownsOf] at h
  | _, _, .cons (v := v) (sv := sv) r t _, a, h => by
    have ih := ownsOf_new t a
    cases sv with
    | own d =>
      obtain ⟨b, rfl, hb, _⟩ := r
      rw [ownsOf] at h
      rcases List.mem_cons.mp h with rfl | h
      · exact hb
      · exact ih h
    | _ =>
      rw [ownsOf] at h
      · exact ih h
      · intro _ _ z; cases z

/-! ### names and constants -/
/-- what a name gives: its own object is only looked at -/
def SV.look : SV → SV
  | .own d => .pk d
  | sv => sv
def gName (i : Nat) : GE := fun S Q => ∃ sv, S[i]? = some (some sv) ∧ Q sv.look
@[simp] def gC (d : D) : GE := fun _ Q => Q (.tr d)
section
variable {X : Cx}
theorem ve_name (i : Nat) {x : Str} {pos : Pos} (hN : X.N[i]? = some x := by rfl) (hv : Vis X.env.scope x := by first | exact Or.inl rfl | exact Or.inr (Or.inl rfl) | exact Or.inr (Or.inr rfl)) (hd : (x == ("__debug__" : Str)) = false := by decide)
    (hcd : (x == ("__classdict__" : Str)) = false := by decide) : VE X (.Name x pos) (gName i) := by
  refine ⟨fun G0 H0 => peMono (pe_var hN hv hd hcd) fun σ H Q ⟨G, S, Qs, R, ⟨sv, e, q⟩, k⟩ => ?_⟩
  obtain ⟨v, e1, r⟩ := R.slot i sv e
  refine ⟨v, e1, k v H G sv.look (.refl R.ok) ?_ q⟩
  cases sv with
  | tr d => exact r
  | own d => obtain ⟨a, e, h1, h2, h3, h4⟩ := r; exact ⟨a, e, h3, h4⟩
  | _ => exact r
theorem ve_c {e : Expr} {v : V} {d : D} (h : PE X e (tC v)) (r : ∀ F, rep F d v) : VE X e (gC d) :=
  ⟨fun G0 H0 => peMono h fun σ H Q ⟨G, S, Qs, R, q, k⟩ => k v H G (.tr d) (.refl R.ok) (r G.F) q⟩
theorem ve_int {i j pos} : VE X (.Constant (.int i) j pos) (gC (.int i)) := ve_c pe_int fun _ => rfl
theorem ve_bl {b j pos} : VE X (.Constant (.bool b) j pos) (gC (.bl b)) := ve_c pe_bl fun _ => rfl
theorem ve_non {j pos} : VE X (.Constant .none j pos) (gC .non) := ve_c pe_non fun _ => rfl
theorem ve_str {x j pos} (h : okS x := by decide +kernel) : VE X (.Constant (.str x) j pos) (gC (.str x)) := ve_c pe_str fun _ => ⟨rfl, h⟩
end

/-! ### operators by values -/
abbrev KB (H0 : Hp) (G : Gh) (H : Hp) (Qs : SV → Prop) (Q : VK) : Prop := KQ H0 G H Qs Q
/-- f on two held values gives what g tells -/
def OpW (X : Cx) (f : Value → Value → Sem Value) (g : D → D → (SV → Prop) → Prop) : Prop :=
  ∀ (H0 Ha Hb : Hp) (G : Gh) (H : Hp) (x y : V) (sx sy : SV) (Qs : SV → Prop) (Q : VK), OkG G H → RepV H0 Ha G H x sx → RepV H0 Hb G H y sy → g sx.d sy.d Qs → KQ H0 G H Qs Q → ∃ r, OpR X f r ∧ r x y H Q
@[simp] def gOp (g : D → D → (SV → Prop) → Prop) (ga gb : GE) : GE := fun S Q => ga S fun x => gb S fun y => g x.d y.d Q
section
variable {X : Cx} {a b c : Expr} {ga gb gc : GE} {pos : Pos}
theorem opr_any {f : Value → Value → Sem Value} : OpR X f (fun x y H Q => ∃ r, OpR X f r ∧ r x y H Q) := fun pins s σ H x y v u Q I rx ry ⟨_, h, q⟩ => h pins s σ H x y v u Q I rx ry q
theorem kq_back {H0 : Hp} {G G1 : Gh} {H H1 : Hp} {Qs : SV → Prop} {Q : VK} (E : Ext G H G1 H1) (k : KQ H0 G H Qs Q) : KQ H0 G1 H1 Qs Q :=
  fun v H' G' sv E' r q => k v H' G' sv (E.trans E') (r.back fun _ z => E.dom z) q
theorem gOp_t {f : Value → Value → Sem Value} {g : D → D → (SV → Prop) → Prop} (ho : OpW X f g) {G0 : Gh} {H0 : Hp} {σ : L2.St} {H : Hp} {Q : VK} (h : TV G0 H0 (gOp g ga gb) σ H Q) :
    tOp (fun x y H Q => ∃ r, OpR X f r ∧ r x y H Q) (TV G0 H0 ga) (TV G0 H0 gb) σ H Q := by
  obtain ⟨G, S, Qs, R, q, k⟩ := h
  refine ⟨G, S, _, R, q, fun x H1 G1 sx E1 r1 q1 => ?_⟩
  refine ⟨G1, S, _, R.go E1, q1, fun y H2 G2 sy E2 r2 q2 => ?_⟩
  exact ho H0 _ _ G2 H2 x y sx sy Qs Q E2.ok (r1.ext E2) r2 q2 (kq_back (E1.trans E2) k)
theorem ve_op {op : Operator} {g : D → D → (SV → Prop) → Prop} (ho : OpW X (binaryOp op) g) (ha : VE X a ga) (hb : VE X b gb) : VE X (.BinOp a op b pos) (gOp g ga gb) :=
  ⟨fun G0 H0 => peMono (pe_op opr_any (ha.pe G0 H0) (hb.pe G0 H0)) fun _ _ _ h => gOp_t ho h⟩
theorem ve_cmp {op : CmpOp} {g : D → D → (SV → Prop) → Prop} (ho : OpW X (compareOp op) g) (ha : VE X a ga) (hb : VE X b gb) (hm : behindInMarks op b = false := by first | exact nobehind _ (by decide) (by decide) | rfl) : VE X (.Compare a [op] [b] pos) (gOp g ga gb) :=
  ⟨fun G0 H0 => peMono (pe_cmpR opr_any (ha.pe G0 H0) (hb.pe G0 H0) hm) fun _ _ _ h => gOp_t ho h⟩
/-- two comparisons in a chain -/
@[simp] def gChain (g g' : D → D → (SV → Prop) → Prop) (ga gb gc : GE) : GE := fun S Q => ga S fun x => gb S fun y => g x.d y.d fun z => ∃ k, z = .tr (.bl k) ∧ if k = true then gc S fun w => g' y.d w.d Q else Q (.tr (.bl false))
theorem ve_chain {op op' : CmpOp} {g g' : D → D → (SV → Prop) → Prop} (ho : OpW X (compareOp op) g) (ho' : OpW X (compareOp op') g') (ha : VE X a ga) (hb : VE X b gb) (hc : VE X c gc)
    (hm : lastMarks [op, op'] [b, c] = false := by with_unfolding_all rfl) : VE X (.Compare a [op, op'] [b, c] pos) (gChain g g' ga gb gc) := by
  refine ⟨fun G0 H0 => peMono (pe_chain opr_any opr_any (ha.pe G0 H0) (hb.pe G0 H0) (hc.pe G0 H0) hm) fun σ H Q ⟨G, S, Qs, R, q, k⟩ => ?_⟩
  refine ⟨G, S, _, R, q, fun x H1 G1 sx E1 r1 q1 => ?_⟩
  refine ⟨G1, S, _, R.go E1, q1, fun y H2 G2 sy E2 r2 q2 => ?_⟩
  refine ho H0 _ _ G2 H2 x y sx sy _ _ E2.ok (r1.ext E2) r2 q2 fun z H3 G3 sz E3 r3 q3 => ?_
  obtain ⟨kb, rfl, q3⟩ := q3
  cases kb with
  | true =>
    refine ⟨true, r3, ?_⟩
    rw [if_pos rfl] at q3 ⊢
    refine ⟨G3, S, _, (R.go E1).go (E2.trans E3), q3, fun w H4 G4 sw E4 r4 q4 => ?_⟩
    exact ho' H0 _ _ G4 H4 y w sy sw Qs Q E4.ok ((r2.ext E3).ext E4) r4 q4 (kq_back ((E1.trans E2).trans (E3.trans E4)) k)
  | false =>
    refine ⟨false, r3, ?_⟩
    rw [if_neg Bool.false_ne_true] at q3 ⊢
    exact k (V.bl false) H3 G3 (.tr (.bl false)) ((E1.trans E2).trans E3) rfl q3
/-! ### tests -/
@[simp] def gTest (g : GE) : GT := fun S Q => g S fun z => ∃ k, z = .tr (.bl k) ∧ Q k
theorem vc_val {e : Expr} {g : GE} (h : VE X e g) (he : ∀ whole, isTrue e X.env whole = (do let v ← whole; standAt e.pos; holding [v] (truthy v)) := by intro _; rfl) : VC X e (gTest g) := by
  refine ⟨fun G0 H0 => ptMono (pt_val (h.pe G0 H0) he) fun σ H Q ⟨G, S, Qs, R, q, k⟩ => ?_⟩
  refine ⟨G, S, _, R, q, fun v H1 G1 sv E1 r1 q1 => ?_⟩
  obtain ⟨b, rfl, q1⟩ := q1
  exact ⟨b, r1, k b H1 G1 E1 q1⟩
theorem vc_cmp {op : CmpOp} {g : D → D → (SV → Prop) → Prop} (ho : OpW X (compareOp op) g) (ha : VE X a ga) (hb : VE X b gb) (hm : behindInMarks op b = false := by first | exact nobehind _ (by decide) (by decide) | rfl) : VC X (.Compare a [op] [b] pos) (gTest (gOp g ga gb)) := by
  refine ⟨fun G0 H0 => ptMono (pt_cmpR opr_any (ha.pe G0 H0) (hb.pe G0 H0) hm) fun σ H Q ⟨G, S, Qs, R, q, k⟩ => ?_⟩
  refine ⟨G, S, _, R, q, fun x H1 G1 sx E1 r1 q1 => ?_⟩
  refine ⟨G1, S, _, R.go E1, q1, fun y H2 G2 sy E2 r2 q2 => ?_⟩
  refine ho H0 _ _ G2 H2 x y sx sy _ _ E2.ok (r1.ext E2) r2 q2 fun z H3 G3 sz E3 r3 q3 => ?_
  obtain ⟨b, rfl, q3⟩ := q3
  exact ⟨b, r3, k b H3 G3 ((E1.trans E2).trans E3) q3⟩
theorem vc_chain {op op' : CmpOp} {g g' : D → D → (SV → Prop) → Prop} (ho : OpW X (compareOp op) g) (ho' : OpW X (compareOp op') g') (ha : VE X a ga) (hb : VE X b gb) (hc : VE X c gc)
    (hm : lastMarks [op, op'] [b, c] = false := by with_unfolding_all rfl) : VC X (.Compare a [op, op'] [b, c] pos) (gTest (gChain g g' ga gb gc)) := by
  refine ⟨fun G0 H0 => ptMono (pt_chain opr_any opr_any (ha.pe G0 H0) (hb.pe G0 H0) (hc.pe G0 H0) hm) fun σ H Q ⟨G, S, Qs, R, q, k⟩ => ?_⟩
  refine ⟨G, S, _, R, q, fun x H1 G1 sx E1 r1 q1 => ?_⟩
  refine ⟨G1, S, _, R.go E1, q1, fun y H2 G2 sy E2 r2 q2 => ?_⟩
  refine ho H0 _ _ G2 H2 x y sx sy _ _ E2.ok (r1.ext E2) r2 q2 fun z H3 G3 sz E3 r3 q3 => ?_
  obtain ⟨kb, rfl, q3⟩ := q3
  cases kb with
  | true =>
    refine ⟨true, r3, ?_⟩
    rw [if_pos rfl] at q3 ⊢
    refine ⟨G3, S, _, (R.go E1).go (E2.trans E3), q3, fun w H4 G4 sw E4 r4 q4 => ?_⟩
    refine ho' H0 _ _ G4 H4 y w sy sw _ _ E4.ok ((r2.ext E3).ext E4) r4 q4 fun z H5 G5 sz5 E5 r5 q5 => ?_
    obtain ⟨b, rfl, q5⟩ := q5
    exact ⟨b, r5, k b H5 G5 (((E1.trans E2).trans (E3.trans E4)).trans E5) q5⟩
  | false =>
    refine ⟨false, r3, ?_⟩
    rw [if_neg Bool.false_ne_true] at q3 ⊢
    obtain ⟨b, e, q3⟩ := q3
    cases e
    exact ⟨false, rfl, k _ _ _ ((E1.trans E2).trans E3) q3⟩
@[simp] def gAndT (t u : GT) : GT := fun S Q => t S fun c => if c = true then u S Q else Q false
@[simp] def gOrT (t u : GT) : GT := fun S Q => t S fun c => if c = true then Q true else u S Q
@[simp] def gNotT (t : GT) : GT := fun S Q => t S fun c => Q (!c)
variable {gA gB : GT} {rest : List Expr}
theorem VW.vc {e : Expr} (h : VW X e gA) : VC X e gA := ⟨fun G0 H0 => (h.pw G0 H0).pt⟩
theorem vw_and1 (ha : VC X a gA) : VW X (.BoolOp .And [a] pos) gA := ⟨fun G0 H0 => pw_and1 (ha.pt G0 H0)⟩
theorem vw_or1 (ha : VC X a gA) : VW X (.BoolOp .Or [a] pos) gA := ⟨fun G0 H0 => pw_or1 (ha.pt G0 H0)⟩
theorem vw_and (ha : VC X a gA) (hb : VW X (.BoolOp .And (b :: rest) pos) gB) : VW X (.BoolOp .And (a :: b :: rest) pos) (gAndT gA gB) := by
  refine ⟨fun G0 H0 => pwMono (pw_and (ha.pt G0 H0) (hb.pw G0 H0)) fun σ H Q ⟨G, S, Qs, R, q, k⟩ => ?_⟩
  refine ⟨G, S, _, R, q, fun c H1 G1 E1 q1 => ?_⟩
  cases c with
  | true =>
    rw [if_pos rfl] at q1 ⊢
    exact ⟨G1, S, _, R.go E1, q1, fun b H2 G2 E2 q2 => k b H2 G2 (E1.trans E2) q2⟩
  | false =>
    rw [if_neg Bool.false_ne_true] at q1 ⊢
    exact k _ _ _ E1 q1
theorem vw_or (ha : VC X a gA) (hb : VW X (.BoolOp .Or (b :: rest) pos) gB) : VW X (.BoolOp .Or (a :: b :: rest) pos) (gOrT gA gB) := by
  refine ⟨fun G0 H0 => pwMono (pw_or (ha.pt G0 H0) (hb.pw G0 H0)) fun σ H Q ⟨G, S, Qs, R, q, k⟩ => ?_⟩
  refine ⟨G, S, _, R, q, fun c H1 G1 E1 q1 => ?_⟩
  cases c with
  | true =>
    rw [if_pos rfl] at q1 ⊢
    exact k _ _ _ E1 q1
  | false =>
    rw [if_neg Bool.false_ne_true] at q1 ⊢
    exact ⟨G1, S, _, R.go E1, q1, fun b H2 G2 E2 q2 => k b H2 G2 (E1.trans E2) q2⟩
theorem vc_not (ha : VC X a gA) : VC X (.UnaryOp .Not a pos) (gNotT gA) := by
  refine ⟨fun G0 H0 => ptMono (pt_not (ha.pt G0 H0)) fun σ H Q ⟨G, S, Qs, R, q, k⟩ => ?_⟩
  exact ⟨G, S, _, R, q, fun c H1 G1 E1 q1 => k _ _ _ E1 q1⟩
/-! ### and, or, not as values, all but the last bools -/
@[simp] def gAndV (ga gb : GE) : GE := fun S Q => ga S fun x => ∃ c, x = .tr (.bl c) ∧ if c = true then gb S Q else Q (.tr (.bl false))
@[simp] def gOrV (ga gb : GE) : GE := fun S Q => ga S fun x => ∃ c, x = .tr (.bl c) ∧ if c = true then Q (.tr (.bl true)) else gb S Q
@[simp] def gNotV (ga : GE) : GE := fun S Q => ga S fun x => ∃ c, x = .tr (.bl c) ∧ Q (.tr (.bl (!c)))
theorem ve_one {op} (h : VE X a ga) : VE X (.BoolOp op [a] pos) ga := ⟨fun G0 H0 => pe_one (h.pe G0 H0)⟩
theorem ve_and (ha : VE X a ga) (hb : VE X (.BoolOp .And (b :: rest) pos) gb) : VE X (.BoolOp .And (a :: b :: rest) pos) (gAndV ga gb) := by
  refine ⟨fun G0 H0 => peMono (pe_and (ha.pe G0 H0) (hb.pe G0 H0)) fun σ H Q ⟨G, S, Qs, R, q, k⟩ => ?_⟩
  refine ⟨G, S, _, R, q, fun v H1 G1 sv E1 r1 q1 => ?_⟩
  obtain ⟨c, rfl, q1⟩ := q1
  refine ⟨c, r1, ?_⟩
  cases c with
  | true =>
    rw [if_pos rfl] at q1 ⊢
    exact ⟨G1, S, Qs, R.go E1, q1, kq_back E1 k⟩
  | false =>
    rw [if_neg Bool.false_ne_true] at q1 ⊢
    exact k (V.bl false) H1 G1 (.tr (.bl false)) E1 rfl q1
theorem ve_or (ha : VE X a ga) (hb : VE X (.BoolOp .Or (b :: rest) pos) gb) : VE X (.BoolOp .Or (a :: b :: rest) pos) (gOrV ga gb) := by
  refine ⟨fun G0 H0 => peMono (pe_or (ha.pe G0 H0) (hb.pe G0 H0)) fun σ H Q ⟨G, S, Qs, R, q, k⟩ => ?_⟩
  refine ⟨G, S, _, R, q, fun v H1 G1 sv E1 r1 q1 => ?_⟩
  obtain ⟨c, rfl, q1⟩ := q1
  refine ⟨c, r1, ?_⟩
  cases c with
  | true =>
    rw [if_pos rfl] at q1 ⊢
    exact k (V.bl true) H1 G1 (.tr (.bl true)) E1 rfl q1
  | false =>
    rw [if_neg Bool.false_ne_true] at q1 ⊢
    exact ⟨G1, S, Qs, R.go E1, q1, kq_back E1 k⟩
theorem ve_not (ha : VE X a ga) : VE X (.UnaryOp .Not a pos) (gNotV ga) := by
  refine ⟨fun G0 H0 => peMono (pe_not (ha.pe G0 H0)) fun σ H Q ⟨G, S, Qs, R, q, k⟩ => ?_⟩
  refine ⟨G, S, _, R, q, fun v H1 G1 sv E1 r1 q1 => ?_⟩
  obtain ⟨c, rfl, q1⟩ := q1
  exact ⟨c, r1, k (V.bl (!c)) H1 G1 (.tr (.bl (!c))) E1 rfl q1⟩
@[simp] def gIf (t : GT) (ga gb : GE) : GE := fun S Q => t S fun c => if c = true then ga S Q else gb S Q
theorem ve_if {c : Expr} (hc : VC X c gA) (ha : VE X a ga) (hb : VE X b gb) : VE X (.IfExp c a b pos) (gIf gA ga gb) := by
  refine ⟨fun G0 H0 => peMono (pe_ifExp (hc.pt G0 H0) (ha.pe G0 H0) (hb.pe G0 H0)) fun σ H Q ⟨G, S, Qs, R, q, k⟩ => ?_⟩
  refine ⟨G, S, _, R, q, fun c H1 G1 E1 q1 => ?_⟩
  cases c with
  | true =>
    rw [if_pos rfl] at q1 ⊢
    exact ⟨G1, S, Qs, R.go E1, q1, kq_back E1 k⟩
  | false =>
    rw [if_neg Bool.false_ne_true] at q1 ⊢
    exact ⟨G1, S, Qs, R.go E1, q1, kq_back E1 k⟩
/-! ### lists of expressions -/
@[simp] def gaNil : GA := fun _ Q => Q []
@[simp] def gaCons (ga : GE) (gr : GA) : GA := fun S Q => ga S fun x => gr S fun xs => Q (x :: xs)
theorem va_nil : VA X [] gaNil := ⟨fun G0 H0 => paMono pa_nil fun σ H Q ⟨G, S, Qs, R, q, k⟩ => k [] H G [] (.refl R.ok) .nil q⟩
theorem va_cons {e : Expr} {es : List Expr} {g : GE} {gr : GA} (ha : VE X e g) (hr : VA X es gr) (hs : starEach (e :: es) X.env = (false, eval e X.env) :: starEach es X.env := by rfl) : VA X (e :: es) (gaCons g gr) := by
  refine ⟨fun G0 H0 => paMono (pa_cons (ha.pe G0 H0) (hr.pa G0 H0) hs) fun σ H Q ⟨G, S, Qs, R, q, k⟩ => ?_⟩
  refine ⟨G, S, _, R, q, fun v H1 G1 sv E1 r1 q1 => ?_⟩
  refine ⟨G1, S, _, R.go E1, q1, fun vs H2 G2 svs E2 r2 q2 => ?_⟩
  refine k _ _ _ _ (E1.trans E2) (.cons (r1.ext E2) (r2.back fun _ z => E1.dom z) fun a d e1 e2 ha => ?_) q2
  subst e1 e2
  obtain ⟨b, eb, _, _, _, c⟩ := r1
  cases eb
  exact c.there (ownsOf_new r2 _ ha)
end
end VT

namespace VT
open PySem PySem.Spec PyProof.Rows L2

/-! ### new objects -/
section
variable {G Gs : Gh} {H0 H Hs : Hp} {p a : Addr} {o : HO} {Qs : SV → Prop} {Q : VK} {ds : List D} {vs : List V} {d : D} {v : V}
theorem OkG.nF (ok : OkG G H) (hp : H p = none) : G.F p = none := by
  cases e : G.F p with
  | none => rfl
  | some o => rw [ok.sub p o e] at hp; cases hp
theorem OkG.npb (ok : OkG G H) (hp : H p = none) : G.pb ≠ some p := fun z => by
  obtain ⟨⟨c, ns, i, r, m, e, _⟩, _⟩ := ok.bag p z
  rw [e] at hp; cases hp
/-- the bag is as it was where its own place is -/
theorem BagAt.go {G' : Gh} {H' : Hp} {q : Addr} (b : BagAt G H q) (h : ∀ o, H q = some o → H' q = some o) (hF : ∀ b o, G.F b = some o → G'.F b = some o) : BagAt G' H' q := by
  obtain ⟨c, ns, i, r, m, e, ec, z⟩ := b
  exact ⟨c, ns, i, r, m, h _ e, hF _ _ ec, z⟩
theorem BagAt.upd {q : Addr} (b : BagAt G H q) (hp : H p = none) : BagAt G (upd H p o) q := b.go (fun u e => by rw [upd_ne (ne_of_none e hp)]; exact e) fun _ _ z => z
theorem upd_mono {F : Hp} (hn : F p = none) : ∀ b u, F b = some u → upd F p o b = some u := fun b u e => by rw [upd_ne (ne_of_none e hn)]; exact e
theorem ext_new (ok : OkG G H) (hp : H p = none) (o : HO) : Ext G H G (upd H p o) where
  ok := ⟨fun b u e => by rw [upd_ne (ne_of_none (ok.sub b u e) hp)]; exact ok.sub b u e, fun q e => ⟨(ok.bag q e).1.upd hp, (ok.bag q e).2⟩⟩
  same := fun b u e _ => by rw [upd_ne (ne_of_none e hp)]; exact e
  pb := fun _ h => h
  pnew := fun _ h => .inl h
  frz := fun _ _ h => h
  new := fun _ _ h => .inl h
theorem ext_frz (ok : OkG G H) (hp : H p = none) (o : HO) : Ext G H ⟨upd G.F p o, G.pb⟩ (upd H p o) where
  ok := by
    refine ⟨fun b u e => ?_, fun q e => ⟨((ok.bag q e).1.upd hp).go (fun _ z => z) (upd_mono (ok.nF hp)), ?_⟩⟩
    · by_cases h : b = p
      · subst h
        have e : upd G.F b o b = some u := e
        rw [upd_same] at e
        rw [upd_same]
        exact e
      · have e : upd G.F p o b = some u := e
        rw [upd_ne h] at e
        rw [upd_ne h]
        exact ok.sub b u e
    · show upd G.F p o q = none
      rw [upd_ne (fun z => ok.npb hp (by rw [← z]; exact e))]
      exact (ok.bag q e).2
  same := fun b u e _ => by rw [upd_ne (ne_of_none e hp)]; exact e
  pb := fun _ h => h
  pnew := fun _ h => .inl h
  frz := upd_mono (ok.nF hp)
  new := fun b u h => by
    by_cases z : b = p
    · subst z; exact .inr hp
    · have h : upd G.F p o b = some u := h
      rw [upd_ne z] at h
      exact .inl h
theorem ext_freeze (E : Ext Gs Hs G H) (hs : Hs a = none) (ha : H a = some o) (hF : G.F a = none) (hb : G.pb ≠ some a) : Ext Gs Hs ⟨upd G.F a o, G.pb⟩ H where
  ok := by
    refine ⟨fun b u e => ?_, fun q e => ⟨(E.ok.bag q e).1.go (fun _ z => z) (upd_mono hF), ?_⟩⟩
    · by_cases h : b = a
      · subst h
        have e : upd G.F b o b = some u := e
        rw [upd_same] at e
        rw [ha]
        exact e
      · have e : upd G.F a o b = some u := e
        rw [upd_ne h] at e
        exact E.ok.sub b u e
    · show upd G.F a o q = none
      rw [upd_ne (fun z => hb (by rw [← z]; exact e))]
      exact (E.ok.bag q e).2
  same := E.same
  pb := E.pb
  pnew := E.pnew
  frz := fun b u h => upd_mono hF b u (E.frz b u h)
  new := fun b u h => by
    by_cases z : b = a
    · subst z; exact .inr hs
    · have h : upd G.F a o b = some u := h
      rw [upd_ne z] at h
      exact E.new b u h
theorem kq_lst (k : KQ H0 G H Qs Q) (ok : OkG G H) (hp : H p = none) (r : reps G.F ds vs) (q : Qs (.own (.lst ds))) : Q (.ref p) (upd H p (.lst vs)) :=
  k _ _ G (.own (.lst ds)) (ext_new ok hp _) ⟨p, rfl, hp, ok.nF hp, ok.npb hp, vs, upd_same, r⟩ q
theorem kq_tup (k : KQ H0 G H Qs Q) (ok : OkG G H) (hp : H p = none) (r : reps G.F ds vs) (q : Qs (.tr (.tup ds))) : Q (.ref p) (upd H p (.tup vs)) :=
  k _ _ ⟨upd G.F p (.tup vs), G.pb⟩ (.tr (.tup ds)) (ext_frz ok hp _) ⟨p, vs, rfl, upd_same, reps.mono (upd_mono (ok.nF hp)) _ _ r⟩ q
theorem kq_dic {ds : List (Key × D)} {vs : List (Key × V)} (k : KQ H0 G H Qs Q) (ok : OkG G H) (hp : H p = none) (r : repk G.F ds vs) (q : Qs (.own (.dic ds))) : Q (.ref p) (upd H p (.dK vs)) :=
  k _ _ G (.own (.dic ds)) (ext_new ok hp _) ⟨p, rfl, hp, ok.nF hp, ok.npb hp, vs, upd_same, r⟩ q
theorem kq_tr (k : KQ H0 G H Qs Q) (ok : OkG G H) (r : rep G.F d v) (q : Qs (.tr d)) : Q v H := k _ _ G (.tr d) (.refl ok) r q
end

/-! ### what stands behind a held value -/
section
variable {H0 Hs H : Hp} {G : Gh} {v : V} {sv : SV} {ds : List D}
theorem RepV.lst (r : RepV H0 Hs G H v sv) (ok : OkG G H) (e : sv.d = .lst ds) : ∃ a vs, v = .ref a ∧ H a = some (.lst vs) ∧ reps G.F ds vs := by
  cases sv with
  | tr d => cases e; obtain ⟨a, vs, e1, e2, r⟩ := r; exact ⟨a, vs, e1, ok.sub _ _ e2, r⟩
  | own d => cases e; obtain ⟨a, e1, _, _, _, vs, e2, r⟩ := r; exact ⟨a, vs, e1, e2, r⟩
  | brw d => cases e; obtain ⟨a, e1, _, _, vs, e2, r⟩ := r; exact ⟨a, vs, e1, e2, r⟩
  | pk d => cases e; obtain ⟨a, e1, _, vs, e2, r⟩ := r; exact ⟨a, vs, e1, e2, r⟩
  | bag => cases e
theorem RepV.dic {ds : List (Key × D)} (r : RepV H0 Hs G H v sv) (ok : OkG G H) (e : sv.d = .dic ds) : ∃ a vs, v = .ref a ∧ H a = some (.dK vs) ∧ repk G.F ds vs := by
  cases sv with
  | tr d => cases e; obtain ⟨a, vs, e1, e2, r⟩ := r; exact ⟨a, vs, e1, ok.sub _ _ e2, r⟩
  | own d => cases e; obtain ⟨a, e1, _, _, _, vs, e2, r⟩ := r; exact ⟨a, vs, e1, e2, r⟩
  | brw d => cases e; obtain ⟨a, e1, _, _, vs, e2, r⟩ := r; exact ⟨a, vs, e1, e2, r⟩
  | pk d => cases e; obtain ⟨a, e1, _, vs, e2, r⟩ := r; exact ⟨a, vs, e1, e2, r⟩
  | bag => cases e
theorem RepV.dit {ds : List (List Key × D)} (r : RepV H0 Hs G H v sv) (ok : OkG G H) (e : sv.d = .dit ds) : ∃ a vs, v = .ref a ∧ H a = some (.dT vs) ∧ rept G.F ds vs := by
  cases sv with
  | tr d => cases e; obtain ⟨a, vs, e1, e2, r⟩ := r; exact ⟨a, vs, e1, ok.sub _ _ e2, r⟩
  | own d => cases e; obtain ⟨a, e1, _, _, _, vs, e2, r⟩ := r; exact ⟨a, vs, e1, e2, r⟩
  | brw d => cases e; obtain ⟨a, e1, _, _, vs, e2, r⟩ := r; exact ⟨a, vs, e1, e2, r⟩
  | pk d => cases e; obtain ⟨a, e1, _, vs, e2, r⟩ := r; exact ⟨a, vs, e1, e2, r⟩
  | bag => cases e
/-- whatever is no list and no dict is a tree -/
theorem RepV.tree {d : D} (r : RepV H0 Hs G H v sv) (e : sv.d = d) (h : ∀ F K a, ¬ cont F K a d) (ho : d ≠ .opq) : rep G.F d v := by
  cases sv with
  | tr d => cases e; exact r
  | own d => cases e; obtain ⟨a, e1, _, _, _, c⟩ := r; exact (h _ _ _ c).elim
  | brw d => cases e; obtain ⟨a, e1, _, _, c⟩ := r; exact (h _ _ _ c).elim
  | pk d => cases e; obtain ⟨a, e1, _, c⟩ := r; exact (h _ _ _ c).elim
  | bag => exact (ho e.symm).elim
theorem RepV.tup (r : RepV H0 Hs G H v sv) (ok : OkG G H) (e : sv.d = .tup ds) : ∃ a vs, v = .ref a ∧ H a = some (.tup vs) ∧ reps G.F ds vs := by
  obtain ⟨a, vs, e1, e2, q⟩ := r.tree e (fun _ _ _ z => z) (fun z => nomatch z)
  exact ⟨a, vs, e1, ok.sub _ _ e2, q⟩
theorem RepV.int {i : Int} (r : RepV H0 Hs G H v sv) (e : sv.d = .int i) : v = .int i := r.tree e (fun _ _ _ z => z) (fun z => nomatch z)
theorem RepV.bl {i : Bool} (r : RepV H0 Hs G H v sv) (e : sv.d = .bl i) : v = .bl i := r.tree e (fun _ _ _ z => z) (fun z => nomatch z)
theorem RepV.non (r : RepV H0 Hs G H v sv) (e : sv.d = .non) : v = .non := r.tree e (fun _ _ _ z => z) (fun z => nomatch z)
theorem RepV.str {x : Str} (r : RepV H0 Hs G H v sv) (e : sv.d = .str x) : v = .str x ∧ okS x := r.tree e (fun _ _ _ z => z) (fun z => nomatch z)
end

/-! ### texts are texts -/
theorem strOk_append {x y : Str} (h : PyData.strOk x = true) (k : PyData.strOk y = true) : PyData.strOk (x ++ y) = true := by
  obtain ⟨x⟩ := x
  obtain ⟨y⟩ := y
  show (x ++ y).all (· < 0x110000) = true
  have h : x.all (· < 0x110000) = true := h
  have k : y.all (· < 0x110000) = true := k
  rw [Array.all_append, h, k]
  rfl

theorem length_append (x y : Str) : (x ++ y).length = x.length + y.length := by
  obtain ⟨x⟩ := x
  obtain ⟨y⟩ := y
  exact Array.size_append

/-! ### + -/
def gAdd : D → D → (SV → Prop) → Prop
  | .int i, .int j, Q => Q (.tr (.int (i + j)))
  | .str x, .str y, Q => x.length + y.length ≤ sizeLine ∧ Q (.tr (.str (x ++ y)))
  | .lst xs, .lst ys, Q => xs.length + ys.length ≤ sizeLine ∧ Q (.own (.lst (xs ++ ys)))
  | .tup xs, .tup ys, Q => xs.length + ys.length ≤ sizeLine ∧ Q (.tr (.tup (xs ++ ys)))
  | _, _, _ => False
section
variable {X : Cx}
theorem ow_add : OpW X (binaryOp .Add) gAdd := by
  intro H0 Ha Hb G H x y sx sy Qs Q ok rx ry q k
  unfold gAdd at q
  split at q
  · rename_i i j hx hy
    cases rx.int hx
    cases ry.int hy
    exact ⟨_, op_add, i, j, rfl, rfl, kq_tr (d := .int (i + j)) k ok rfl q⟩
  · rename_i i j hx hy
    obtain ⟨rfl, o1⟩ := rx.str hx
    obtain ⟨rfl, o2⟩ := ry.str hy
    exact ⟨_, op_add_str, i, j, rfl, rfl, q.1, kq_tr (d := .str (i ++ j)) k ok ⟨rfl, strOk_append o1.1 o2.1, by rw [length_append]; exact q.1⟩ q.2⟩
  · rename_i xs ys hx hy
    obtain ⟨a, vs, rfl, ea, r1⟩ := rx.lst ok hx
    obtain ⟨b, ws, rfl, eb, r2⟩ := ry.lst ok hy
    exact ⟨_, op_cat, a, b, vs, ws, rfl, rfl, ea, eb, by rw [r1.length, r2.length]; exact q.1, fun p hp => kq_lst k ok hp (r1.append r2) q.2⟩
  · rename_i xs ys hx hy
    have t1 := rx.tree hx (fun _ _ _ z => z) (fun z => nomatch z)
    have t2 := ry.tree hy (fun _ _ _ z => z) (fun z => nomatch z)
    obtain ⟨a, vs, rfl, ea, r1⟩ := rx.tup ok hx
    obtain ⟨b, ws, rfl, eb, r2⟩ := ry.tup ok hy
    refine ⟨_, op_catA, a, b, vs, ws, rfl, rfl, .of ea, .of eb, by rw [r1.length, r2.length]; exact q.1, fun z => ?_, fun _ z => ?_, fun _ _ p hp => kq_tup k ok hp (r1.append r2) q.2⟩
    · have e : xs = [] := List.eq_nil_of_length_eq_zero (by rw [← r1.length, z]; rfl)
      subst e
      exact kq_tr k ok t2 q.2
    · have e : ys = [] := List.eq_nil_of_length_eq_zero (by rw [← r2.length, z]; rfl)
      subst e
      rw [List.append_nil] at q
      exact kq_tr k ok t1 q.2
  · exact q.elim
/-! ### numbers -/
def gI (C : Int → Int → Prop) (f : Int → Int → D) : D → D → (SV → Prop) → Prop
  | .int i, .int j, Q => C i j ∧ Q (.tr (f i j))
  | _, _, _ => False
theorem ow_I {f : Value → Value → Sem Value} {C C' : Int → Int → Prop} {g : Int → Int → V} {d : Int → Int → D} (h : OpR X f (rI C g)) (hc : ∀ i j, C' i j → C i j) (hd : ∀ F i j, C' i j → rep F (d i j) (g i j)) : OpW X f (gI C' d) := by
  intro H0 Ha Hb G H x y sx sy Qs Q ok rx ry q k
  unfold gI at q
  split at q
  · rename_i i j hx hy
    cases rx.int hx
    cases ry.int hy
    exact ⟨_, h, i, j, rfl, rfl, hc i j q.1, kq_tr k ok (hd _ i j q.1) q.2⟩
  · exact q.elim
theorem ow_I0 {f : Value → Value → Sem Value} {g : Int → Int → V} {d : Int → Int → D} (h : OpR X f (rI0 g)) (hd : ∀ F i j, rep F (d i j) (g i j)) : OpW X f (gI (fun _ _ => True) d) := by
  intro H0 Ha Hb G H x y sx sy Qs Q ok rx ry q k
  unfold gI at q
  split at q
  · rename_i i j hx hy
    cases rx.int hx
    cases ry.int hy
    exact ⟨_, h, i, j, rfl, rfl, kq_tr k ok (hd _ i j) q.2⟩
  · exact q.elim
abbrev gSub := gI (fun _ _ => True) fun i j => .int (i - j)
theorem ow_sub : OpW X (binaryOp .Sub) gSub := ow_I0 op_sub fun _ _ _ => rfl
abbrev gDiv := gI CDivW fun i j => .int (i / j)
theorem ow_div : OpW X (binaryOp .FloorDiv) gDiv := ow_I op_fdivW (fun _ _ h => h) fun _ _ _ _ => rfl
abbrev gMod := gI (fun _ j => 0 < j) fun i j => .int (i % j)
theorem ow_mod : OpW X (binaryOp .Mod) gMod := ow_I op_mod (fun _ _ h => h) fun _ _ _ _ => rfl
abbrev gPow := gI CPow fun i j => .int (i ^ j.toNat)
theorem ow_pow : OpW X (binaryOp .Pow) gPow := ow_I op_pow (fun _ _ h => h) fun _ _ _ _ => rfl
abbrev gLt := gI (fun _ _ => True) fun i j => .bl (decide (i < j))
abbrev gLe := gI (fun _ _ => True) fun i j => .bl (decide (i ≤ j))
abbrev gGt := gI (fun _ _ => True) fun i j => .bl (decide (j < i))
abbrev gGe := gI (fun _ _ => True) fun i j => .bl (decide (j ≤ i))
theorem ow_lt : OpW X (compareOp .Lt) gLt := ow_I0 op_lt fun _ _ _ => rfl
theorem ow_le : OpW X (compareOp .LtE) gLe := ow_I0 op_le fun _ _ _ => rfl
theorem ow_gt : OpW X (compareOp .Gt) gGt := ow_I0 op_gt fun _ _ _ => rfl
theorem ow_ge : OpW X (compareOp .GtE) gGe := ow_I0 op_ge fun _ _ _ => rfl
/-- a list as often -/
def repL {α : Type} (xs : List α) : Nat → List α
  | 0 => []
  | n + 1 => xs ++ repL xs n
end
end VT

namespace VT
open PySem PySem.Spec PyProof.Rows L2

/-! ### data as data: ==, in -/
mutual
/-- no dict, no object -/
def D.dat : D → Bool
  | .non | .bl _ | .int _ | .str _ => true
  | .lst xs | .tup xs => dats xs
  | _ => false
def dats : List D → Bool
  | [] => true
  | x :: xs => x.dat && dats xs
end
mutual
def D.dep : D → Nat
  | .lst xs | .tup xs => deps xs + 1
  | _ => 0
def deps : List D → Nat
  | [] => 0
  | x :: xs => max x.dep (deps xs)
end
mutual
def deq : D → D → Bool
  | .non, .non => true
  | .bl a, .bl b => a == b
  | .bl a, .int j => (if a then 1 else 0) == j
  | .int i, .bl b => i == (if b then 1 else 0)
  | .int i, .int j => i == j
  | .str x, .str y => x == y
  | .lst xs, .lst ys => deqs xs ys
  | .tup xs, .tup ys => deqs xs ys
  | _, _ => false
def deqs : List D → List D → Bool
  | [], [] => true
  | x :: xs, y :: ys => deq x y && deqs xs ys
  | _, _ => false
end
mutual
def toPy : D → PyData
  | .non => .none
  | .bl b => .bool b
  | .int i => .int i
  | .str x => .str x
  | .lst xs => .list (toPys xs)
  | .tup xs => .tuple (toPys xs)
  | _ => .none
def toPys : List D → List PyData
  | [] => []
  | x :: xs => toPy x :: toPys xs
end
mutual
theorem dep_py : ∀ d : D, (toPy d).depth = d.dep
  | .lst xs => by simp only [toPy, PyData.depth, D.dep, dep_pys xs]
  | .tup xs => by simp only [toPy, PyData.depth, D.dep, dep_pys xs]
  | .non | .bl _ | .int _ | .str _ => by simp only [toPy, PyData.depth, D.dep]
  | .dic _ | .dit _ | .ins _ _ | .opq => by simp only [toPy, PyData.depth, PyData.depthKv, D.dep]
theorem dep_pys : ∀ ds : List D, PyData.depthAll (toPys ds) = deps ds
  | [] => by simp only [toPys, PyData.depthAll, deps]
  | d :: ds => by simp only [toPys, PyData.depthAll, deps, dep_py d, dep_pys ds]
end
mutual
theorem eqv_py : ∀ d e : D, d.dat = true → e.dat = true → PyData.eqv (toPy d) (toPy e) = deq d e
  | .lst xs, .lst ys, h, k => by simp only [toPy, PyData.eqv, deq]; exact eqv_pys xs ys h k
  | .tup xs, .tup ys, h, k => by simp only [toPy, PyData.eqv, deq]; exact eqv_pys xs ys h k
  | .non, .non, _, _ | .non, .bl _, _, _ | .non, .int _, _, _ | .non, .str _, _, _ | .non, .lst _, _, _ | .non, .tup _, _, _ => by simp only [toPy, PyData.eqv, deq]
  | .bl _, .non, _, _ | .bl _, .bl _, _, _ | .bl _, .int _, _, _ | .bl _, .str _, _, _ | .bl _, .lst _, _, _ | .bl _, .tup _, _, _ => by simp only [toPy, PyData.eqv, deq]
  | .int _, .non, _, _ | .int _, .bl _, _, _ | .int _, .int _, _, _ | .int _, .str _, _, _ | .int _, .lst _, _, _ | .int _, .tup _, _, _ => by simp only [toPy, PyData.eqv, deq]
  | .str _, .non, _, _ | .str _, .bl _, _, _ | .str _, .int _, _, _ | .str _, .str _, _, _ | .str _, .lst _, _, _ | .str _, .tup _, _, _ => by simp only [toPy, PyData.eqv, deq]
  | .lst _, .non, _, _ | .lst _, .bl _, _, _ | .lst _, .int _, _, _ | .lst _, .str _, _, _ | .lst _, .tup _, _, _ => by simp only [toPy, PyData.eqv, deq]
  | .tup _, .non, _, _ | .tup _, .bl _, _, _ | .tup _, .int _, _, _ | .tup _, .str _, _, _ | .tup _, .lst _, _, _ => by simp only [toPy, PyData.eqv, deq]
  | .dic _, _, h, _ | .dit _, _, h, _ | .ins _ _, _, h, _ | .opq, _, h, _ => by simp [D.dat] at h
  | _, .dic _, _, h | _, .dit _, _, h | _, .ins _ _, _, h | _, .opq, _, h => by simp [D.dat] at h
theorem eqv_pys : ∀ ds es : List D, dats ds = true → dats es = true → PyData.eqvAll (toPys ds) (toPys es) = deqs ds es
  | [], [], _, _ => by simp only [toPys, PyData.eqvAll, deqs]
  | [], _ :: _, _, _ => by simp only [toPys, PyData.eqvAll, deqs]
  | _ :: _, [], _, _ => by simp only [toPys, PyData.eqvAll, deqs]
  | d :: ds, e :: es, h, k => by
    rw [dats, Bool.and_eq_true] at h k
    simp only [toPys, PyData.eqvAll, deqs]
    rw [eqv_py d e h.1 k.1, eqv_pys ds es h.2 k.2]
end
section
variable {K : PySem.W.Frag} {F H : Hp}
mutual
theorem rep_dp (hF : ∀ b o, F b = some o → H b = some o) : ∀ (d : D) (v : V), d.dat = true → rep F d v → Dp K H v (toPy d) ∧ (toPy d).canLay0 = true
  | .non, _, _, r => by rw [show _ = _ from r]; exact ⟨.non, rfl⟩
  | .bl _, _, _, r => by rw [show _ = _ from r]; exact ⟨.bl _, rfl⟩
  | .int _, _, _, r => by rw [show _ = _ from r]; exact ⟨.int _, rfl⟩
  | .str _, _, _, r => by rw [show _ = _ from r.1]; exact ⟨.str _, r.2.1⟩
  | .lst ds, _, h, ⟨a, vs, e, q, r⟩ => by
    obtain ⟨h1, h2⟩ := reps_dp hF ds vs h r
    rw [e]
    exact ⟨.lst (SqL.of (hF _ _ q)) h1, h2⟩
  | .tup ds, _, h, ⟨a, vs, e, q, r⟩ => by
    obtain ⟨h1, h2⟩ := reps_dp hF ds vs h r
    rw [e]
    exact ⟨.tup (SqT.of (hF _ _ q)) h1, h2⟩
  | .dic _, _, h, _ | .dit _, _, h, _ | .ins _ _, _, h, _ | .opq, _, h, _ => by simp [D.dat] at h
theorem reps_dp (hF : ∀ b o, F b = some o → H b = some o) : ∀ (ds : List D) (vs : List V), dats ds = true → reps F ds vs → DpAll K H vs (toPys ds) ∧ PyData.canLayAll0 (toPys ds) = true
  | [], _, _, r => by rw [show _ = _ from r]; exact ⟨.nil, rfl⟩
  | d :: ds, _, h, ⟨v, r, e, q, z⟩ => by
    rw [dats, Bool.and_eq_true] at h
    obtain ⟨h1, h2⟩ := rep_dp hF d v h.1 q
    obtain ⟨h3, h4⟩ := reps_dp hF ds r h.2 z
    rw [e]
    refine ⟨.cons h1 h3, ?_⟩
    rw [toPys, PyData.canLayAll0, h2, h4]
    rfl
end
end
section
variable {X : Cx} {H0 Hs H : Hp} {G : Gh} {v : V} {sv : SV}
theorem RepV.dp {K : PySem.W.Frag} (r : RepV H0 Hs G H v sv) (ok : OkG G H) (h : sv.d.dat = true) : Dp K H v (toPy sv.d) ∧ (toPy sv.d).canLay0 = true := by
  have top : ∀ (d : D) (a : Addr), d.dat = true → cont G.F H a d → Dp K H (.ref a) (toPy d) ∧ (toPy d).canLay0 = true := fun d a h c => by
    cases d with
    | lst ds =>
      obtain ⟨vs, e, r⟩ := c
      obtain ⟨h1, h2⟩ := reps_dp ok.sub ds vs h r
      exact ⟨.lst (SqL.of e) h1, h2⟩
    | dic _ => simp [D.dat] at h
    | dit _ => simp [D.dat] at h
    | _ => exact c.elim
  cases sv with
  | tr d => exact rep_dp ok.sub d v h r
  | own d => obtain ⟨a, e, _, _, _, c⟩ := r; rw [e]; exact top d a h c
  | brw d => obtain ⟨a, e, _, _, c⟩ := r; rw [e]; exact top d a h c
  | pk d => obtain ⟨a, e, _, c⟩ := r; rw [e]; exact top d a h c
  | bag => simp [SV.d, D.dat] at h
@[simp] def gEq (neg : Bool) (x y : D) (Q : SV → Prop) : Prop := x.dat = true ∧ y.dat = true ∧ x.dep ≤ 64 ∧ y.dep ≤ 64 ∧ Q (.tr (.bl (if neg then !deq x y else deq x y)))
theorem shaped_of {d : D} (h : (toPy d).canLay0 = true) (k : d.dep ≤ 64) : SeqAt.shaped (toPy d) = true := by
  unfold SeqAt.shaped
  rw [h, dep_py]
  simpa using k
theorem ow_eq (hu : X.A.units + 64 < cLine) : OpW X (compareOp .Eq) (gEq false) := by
  intro H0 Ha Hb G H x y sx sy Qs Q ok rx ry ⟨d1, d2, h1, h2, q⟩ k
  obtain ⟨p1, l1⟩ := rx.dp (K := X.K) ok d1
  obtain ⟨p2, l2⟩ := ry.dp (K := X.K) ok d2
  refine ⟨_, op_eqD hu, _, _, p1, p2, shaped_of l1 h1, shaped_of l2 h2, ?_⟩
  rw [eqv_py _ _ d1 d2]
  exact kq_tr (d := .bl _) k ok rfl q
theorem ow_ne (hu : X.A.units + 64 < cLine) : OpW X (compareOp .NotEq) (gEq true) := by
  intro H0 Ha Hb G H x y sx sy Qs Q ok rx ry ⟨d1, d2, h1, h2, q⟩ k
  obtain ⟨p1, l1⟩ := rx.dp (K := X.K) ok d1
  obtain ⟨p2, l2⟩ := ry.dp (K := X.K) ok d2
  refine ⟨_, op_neD hu, _, _, p1, p2, shaped_of l1 h1, shaped_of l2 h2, ?_⟩
  rw [eqv_py _ _ d1 d2]
  exact kq_tr (d := .bl _) k ok rfl q
/-- x is None -/
def D.isNon : D → Bool
  | .non => true
  | _ => false
@[simp] def gIsN (neg : Bool) (x y : D) (Q : SV → Prop) : Prop := x ≠ .opq ∧ y = .non ∧ Q (.tr (.bl (if neg then !x.isNon else x.isNon)))
theorem RepV.isN (r : RepV H0 Hs G H v sv) (h : sv.d ≠ .opq) : decide (v = .non) = sv.d.isNon := by
  have top : ∀ (d : D) (a : Addr), cont G.F H a d → decide (V.ref a = .non) = d.isNon := fun d a c => by
    cases d <;> first | exact c.elim | rfl
  cases sv with
  | tr d =>
    show _ = d.isNon
    cases d with
    | non => rw [show v = .non from r]; rfl
    | bl _ => rw [show v = _ from r]; rfl
    | int _ => rw [show v = _ from r]; rfl
    | str _ => rw [show v = _ from r.1]; rfl
    | lst _ => obtain ⟨a, _, e, _⟩ := r; rw [e]; rfl
    | tup _ => obtain ⟨a, _, e, _⟩ := r; rw [e]; rfl
    | dic _ => obtain ⟨a, _, e, _⟩ := r; rw [e]; rfl
    | dit _ => obtain ⟨a, _, e, _⟩ := r; rw [e]; rfl
    | ins _ _ => obtain ⟨a, _, _, e, _⟩ := r; rw [e]; rfl
    | opq => exact (h rfl).elim
  | own d => obtain ⟨a, e, _, _, _, c⟩ := r; rw [e]; exact top d a c
  | brw d => obtain ⟨a, e, _, _, c⟩ := r; rw [e]; exact top d a c
  | pk d => obtain ⟨a, e, _, c⟩ := r; rw [e]; exact top d a c
  | bag => exact (h rfl).elim
theorem ow_is : OpW X (compareOp .Is) (gIsN false) := by
  intro H0 Ha Hb G H x y sx sy Qs Q ok rx ry ⟨h1, h2, q⟩ k
  refine ⟨_, op_isN, ry.non h2, ?_⟩
  rw [rx.isN h1]
  exact kq_tr (d := .bl _) k ok rfl q
theorem ow_isnot : OpW X (compareOp .IsNot) (gIsN true) := by
  intro H0 Ha Hb G H x y sx sy Qs Q ok rx ry ⟨h1, h2, q⟩ k
  refine ⟨_, op_notN, ry.non h2, ?_⟩
  rw [rx.isN h1]
  exact kq_tr (d := .bl _) k ok rfl q
/-- is True, is False -/
def gIsB (neg : Bool) : D → D → (SV → Prop) → Prop
  | .bl a, .bl b, Q => Q (.tr (.bl (if neg then !decide (a = b) else decide (a = b))))
  | _, _, _ => False
theorem ow_isB : OpW X (compareOp .Is) (gIsB false) := by
  intro H0 Ha Hb G H x y sx sy Qs Q ok rx ry q k
  unfold gIsB at q
  split at q
  · rename_i a b hx hy
    exact ⟨_, op_isBl, a, b, rx.bl hx, ry.bl hy, kq_tr (d := .bl _) k ok rfl q⟩
  · exact q.elim
theorem ow_isnotB : OpW X (compareOp .IsNot) (gIsB true) := by
  intro H0 Ha Hb G H x y sx sy Qs Q ok rx ry q k
  unfold gIsB at q
  split at q
  · rename_i a b hx hy
    exact ⟨_, op_notBl, a, b, rx.bl hx, ry.bl hy, kq_tr (d := .bl _) k ok rfl q⟩
  · exact q.elim
/-! ### in -/
/-- a flat value -/
def D.flat : D → Bool
  | .non | .bl _ | .int _ | .str _ => true
  | _ => false
/-- one sign in a text: the sign's code -/
def sign? (x : Str) : Option Nat := match x.cps.toList with
  | [c] => some c
  | _ => none
/-- x in y -/
def gIn (neg : Bool) (x y : D) (Q : SV → Prop) : Prop := match y with
  | .lst ys => x.dat = true ∧ dats ys = true ∧ x.dep ≤ 60 ∧ deps ys ≤ 60 ∧ Q (.tr (.bl (if neg then !ys.any (fun z => deq z x) else ys.any fun z => deq z x)))
  | .tup ys => x.flat = true ∧ ys.all D.flat = true ∧ Q (.tr (.bl (if neg then !ys.any (fun z => deq z x) else ys.any fun z => deq z x)))
  | .str z => ∃ s, x = .str s ∧ match sign? s with
    | some c => Q (.tr (.bl (if neg then !decide (c ∈ z.cps.toList) else decide (c ∈ z.cps.toList))))
    | none => Q (.tr (.bl (if neg then !!(Builtin.Str.occurrences z s 0 z.length 1).isEmpty else !(Builtin.Str.occurrences z s 0 z.length 1).isEmpty)))
  | _ => False
theorem flat_V {F : Hp} : ∀ {d : D} {v : V}, d.flat = true → rep F d v → flatV v = true
  | .non, _, _, r => by rw [show _ = _ from r]; rfl
  | .bl _, _, _, r => by rw [show _ = _ from r]; rfl
  | .int _, _, _, r => by rw [show _ = _ from r]; rfl
  | .str _, _, _, r => by rw [show _ = _ from r.1]; rfl
  | .lst _, _, h, _ | .tup _, _, h, _ | .dic _, _, h, _ | .dit _, _, h, _ | .ins _ _, _, h, _ | .opq, _, h, _ => by simp [D.flat] at h
theorem flat_eq {F : Hp} {d e : D} {v w : V} (hd : d.flat = true) (he : e.flat = true) (r : rep F d v) (q : rep F e w) : eqV v w = deq d e := by
  cases d <;> first
    | (simp [D.flat] at hd; done)
    | (cases e <;> first
        | (simp [D.flat] at he; done)
        | (first | (have r := r.1; rw [r]) | (have r : _ = _ := r; rw [r])
           first | (have q := q.1; rw [q]) | (have q : _ = _ := q; rw [q])
           simp only [eqV, deq]))
theorem flats_any {F : Hp} {x : D} {v : V} (hx : x.flat = true) (r : rep F x v) : ∀ {ds : List D} {vs : List V}, ds.all D.flat = true → reps F ds vs → inV v vs = (ds.any fun z => deq z x) ∧ vs.all flatV = true
  | [], _, _, q => by rw [show _ = _ from q]; exact ⟨rfl, rfl⟩
  | d :: ds, _, h, ⟨w, t, e, q, z⟩ => by
    rw [List.all_cons, Bool.and_eq_true] at h
    obtain ⟨h1, h2⟩ := flats_any hx r h.2 z
    rw [e]
    constructor
    · show (eqV w v || inV v t) = _
      rw [h1, flat_eq h.1 hx q r, List.any_cons]
    · rw [List.all_cons, flat_V h.1 q, h2]
      rfl
theorem sign_eq {s : Str} {c : Nat} (h : sign? s = some c) : s = ⟨#[c]⟩ := by
  obtain ⟨⟨l⟩⟩ := s
  unfold sign? at h
  match l, h with
  | [c'], h => rw [show c' = c from Option.some.inj h]
theorem toPys_any (x : D) (hx : x.dat = true) : ∀ ds : List D, dats ds = true → ((toPys ds).any fun z => PyData.eqv z (toPy x)) = ds.any fun z => deq z x
  | [], _ => rfl
  | d :: ds, h => by
    rw [dats, Bool.and_eq_true] at h
    rw [toPys, List.any_cons, List.any_cons, eqv_py d x h.1 hx, toPys_any x hx ds h.2]
theorem ow_in (hu : X.A.units + 64 < cLine) (hu' : X.A.units + 65 < cLine) : OpW X (compareOp .In) (gIn false) := by
  intro H0 Ha Hb G H x y sx sy Qs Q ok rx ry q k
  unfold gIn at q
  split at q
  · rename_i ys hy
    obtain ⟨d1, d2, h1, h2, q⟩ := q
    obtain ⟨p1, l1⟩ := rx.dp (K := X.K) ok d1
    have hyd : sy.d.dat = true := by rw [hy]; exact d2
    obtain ⟨p2, l2⟩ := ry.dp (K := X.K) ok hyd
    rw [hy] at p2 l2
    refine ⟨_, op_inD hu', _, _, p1, p2, shaped_of l1 (by omega), shaped_of (d := .lst ys) l2 (by rw [D.dep]; omega), ?_⟩
    rw [toPys_any _ d1 _ d2]
    exact kq_tr (d := .bl _) k ok rfl q
  · rename_i ys hy
    obtain ⟨d1, d2, q⟩ := q
    have t1 := rx.tree rfl (fun F K a c => by cases hh : sx.d <;> first | (rw [hh] at c; exact c) | (rw [hh] at d1; simp [D.flat] at d1)) (fun z => by rw [z] at d1; simp [D.flat] at d1)
    obtain ⟨a, vs, rfl, ea, r⟩ := ry.tup ok hy
    obtain ⟨e1, e2⟩ := flats_any d1 t1 d2 r
    refine ⟨_, op_in_seq, a, vs, rfl, .inr (.of ea), flat_V d1 t1, e2, ?_⟩
    rw [e1]
    exact kq_tr (d := .bl _) k ok rfl q
  · rename_i z hz
    obtain ⟨s, hs, q⟩ := q
    obtain ⟨rfl, _⟩ := rx.str hs
    obtain ⟨rfl, _⟩ := ry.str hz
    split at q
    · rename_i c hc
      have e := sign_eq hc
      subst e
      exact ⟨_, op_in_sign, c, z, rfl, rfl, kq_tr (d := .bl _) k ok rfl q⟩
    · exact ⟨_, op_in_str, s, z, rfl, rfl, kq_tr (d := .bl _) k ok rfl q⟩
  · exact q.elim
theorem ow_notin (hu : X.A.units + 64 < cLine) (hu' : X.A.units + 65 < cLine) : OpW X (compareOp .NotIn) (gIn true) := by
  intro H0 Ha Hb G H x y sx sy Qs Q ok rx ry q k
  unfold gIn at q
  split at q
  · rename_i ys hy
    obtain ⟨d1, d2, h1, h2, q⟩ := q
    obtain ⟨p1, l1⟩ := rx.dp (K := X.K) ok d1
    have hyd : sy.d.dat = true := by rw [hy]; exact d2
    obtain ⟨p2, l2⟩ := ry.dp (K := X.K) ok hyd
    rw [hy] at p2 l2
    refine ⟨_, op_notInD hu', _, _, p1, p2, shaped_of l1 (by omega), shaped_of (d := .lst ys) l2 (by rw [D.dep]; omega), ?_⟩
    rw [toPys_any _ d1 _ d2]
    exact kq_tr (d := .bl _) k ok rfl q
  · rename_i ys hy
    obtain ⟨d1, d2, q⟩ := q
    have t1 := rx.tree rfl (fun F K a c => by cases hh : sx.d <;> first | (rw [hh] at c; exact c) | (rw [hh] at d1; simp [D.flat] at d1)) (fun z => by rw [z] at d1; simp [D.flat] at d1)
    obtain ⟨a, vs, rfl, ea, r⟩ := ry.tup ok hy
    obtain ⟨e1, e2⟩ := flats_any d1 t1 d2 r
    refine ⟨_, op_notIn_seq, a, vs, rfl, .inr (.of ea), flat_V d1 t1, e2, ?_⟩
    rw [e1]
    exact kq_tr (d := .bl _) k ok rfl q
  · rename_i z hz
    obtain ⟨s, hs, q⟩ := q
    obtain ⟨rfl, _⟩ := rx.str hs
    obtain ⟨rfl, _⟩ := ry.str hz
    split at q
    · rename_i c hc
      have e := sign_eq hc
      subst e
      exact ⟨_, op_notIn_sign, c, z, rfl, rfl, kq_tr (d := .bl _) k ok rfl q⟩
    · exact ⟨_, op_notIn_str, s, z, rfl, rfl, kq_tr (d := .bl _) k ok rfl q⟩
  · exact q.elim
end
end VT

namespace VT
open PySem PySem.Spec PyProof.Rows L2

/-! ### a new object is let go of: it is a tree from now on -/
def SV.let_ : SV → SV
  | .own d => .tr d
  | sv => sv
@[simp] def gFz (g : GE) : GE := fun S Q => g S fun sv => Q sv.let_
theorem own_freeze {Gs G : Gh} {H0 Hs H : Hp} {v : V} {d : D} (E : Ext Gs Hs G H) (r : RepV H0 Hs G H v (.own d)) : ∃ G', Ext Gs Hs G' H ∧ Ext G H G' H = Ext G H G' H ∧ RepV H0 Hs G' H v (.tr d) ∧ (∀ b o, G.F b = some o → G'.F b = some o) := by
  obtain ⟨a, rfl, h1, h2, h3, c⟩ := r
  cases d with
  | lst ds =>
    obtain ⟨vs, e, r⟩ := c
    exact ⟨_, ext_freeze E h1 e h2 h3, rfl, ⟨a, vs, rfl, upd_same, reps.mono (upd_mono h2) _ _ r⟩, upd_mono h2⟩
  | dic ds =>
    obtain ⟨vs, e, r⟩ := c
    exact ⟨_, ext_freeze E h1 e h2 h3, rfl, ⟨a, vs, rfl, upd_same, repk.mono (upd_mono h2) _ _ r⟩, upd_mono h2⟩
  | dit ds =>
    obtain ⟨vs, e, r⟩ := c
    exact ⟨_, ext_freeze E h1 e h2 h3, rfl, ⟨a, vs, rfl, upd_same, rept.mono (upd_mono h2) _ _ r⟩, upd_mono h2⟩
  | _ => exact c.elim
section
variable {X : Cx} {e : Expr} {g : GE}
theorem ve_fz (h : VE X e g) : VE X e (gFz g) := by
  refine ⟨fun G0 H0 => peMono (h.pe G0 H0) fun σ H Q ⟨G, S, Qs, R, q, k⟩ => ?_⟩
  refine ⟨G, S, _, R, q, fun v H1 G1 sv E1 r1 q1 => ?_⟩
  cases sv with
  | own d =>
    obtain ⟨G', E', _, r', _⟩ := own_freeze E1 r1
    exact k v H1 G' (.tr d) E' r' q1
  | _ => exact k v H1 G1 _ E1 r1 q1
end

/-! ### all trees -/
@[simp] def onTrs : List SV → (List D → Prop) → Prop
  | [], P => P []
  | .tr d :: r, P => onTrs r fun ds => P (d :: ds)
  | _ :: _, _ => False
theorem onTrs_of {H0 Hs : Hp} {G : Gh} {H : Hp} : ∀ {svs : List SV} {vs : List V} {P : List D → Prop}, RepL H0 Hs G H vs svs → onTrs svs P → ∃ ds, reps G.F ds vs ∧ P ds
  | [], _, P, .nil, h => ⟨[], rfl, h⟩
  | .tr d :: r, _, P, .cons rv rr _, h => by
    obtain ⟨ds, h1, h2⟩ := onTrs_of rr h
    exact ⟨d :: ds, ⟨_, _, rfl, rv, h1⟩, h2⟩
  | .own _ :: _, _, _, _, h => h.elim
  | .brw _ :: _, _, _, _, h => h.elim
  | .pk _ :: _, _, _, _, h => h.elim
  | .bag :: _, _, _, _, h => h.elim
@[simp] def gTup (ga : GA) : GE := fun S Q => ga S fun svs => onTrs svs fun ds => ds.length ≤ sizeLine ∧ Q (.tr (.tup ds))
@[simp] def gLst (ga : GA) : GE := fun S Q => ga S fun svs => onTrs svs fun ds => ds.length ≤ sizeLine ∧ Q (.own (.lst ds))
section
variable {X : Cx} {es : List Expr} {ga : GA} {pos : Pos}
theorem ve_tup {x1} (h : VA X es ga) : VE X (.Tuple es x1 pos) (gTup ga) := by
  refine ⟨fun G0 H0 => peMono (pe_tup (h.pa G0 H0)) fun σ H Q ⟨G, S, Qs, R, q, k⟩ => ?_⟩
  refine ⟨G, S, _, R, q, fun vs H1 G1 svs E1 r1 q1 => ?_⟩
  obtain ⟨ds, r2, hz, q2⟩ := onTrs_of r1 q1
  exact ⟨by rw [r2.length]; exact hz, fun p hp => kq_tup (kq_back E1 k) E1.ok hp r2 q2⟩
theorem ve_lst (h : VA X es ga) : VE X (.List es pos) (gLst ga) := by
  refine ⟨fun G0 H0 => peMono (pe_lst (h.pa G0 H0)) fun σ H Q ⟨G, S, Qs, R, q, k⟩ => ?_⟩
  refine ⟨G, S, _, R, q, fun vs H1 G1 svs E1 r1 q1 => ?_⟩
  obtain ⟨ds, r2, hz, q2⟩ := onTrs_of r1 q1
  exact ⟨by rw [r2.length]; exact hz, fun p hp => kq_lst (kq_back E1 k) E1.ok hp r2 q2⟩
end

/-! ### built-in functions -/
def CallW (X : Cx) (f : Value) (g : List D → (SV → Prop) → Prop) : Prop :=
  ∀ (H0 Hs : Hp) (G : Gh) (H : Hp) (vs : List V) (svs : List SV) (Qs : SV → Prop) (Q : VK), OkG G H → RepL H0 Hs G H vs svs → g (svs.map SV.d) Qs → KQ H0 G H Qs Q → ∃ r, CallR X f r ∧ r vs H Q
@[simp] def gCB (g : List D → (SV → Prop) → Prop) (ga : GA) : GE := fun S Q => ga S fun svs => g (svs.map SV.d) Q
section
variable {X : Cx} {x : Str} {p pos : Pos} {e : Expr} {es : List Expr} {ga : GA} {id T : String} {g : List D → (SV → Prop) → Prop}
theorem callr_any {f : Value} : CallR X f (fun vs H Q => ∃ r, CallR X f r ∧ r vs H Q) := fun pins s σ H xs us Q I r ⟨_, h, q⟩ => h pins s σ H xs us Q I r q
theorem gCB_t {f : Value} (hc : CallW X f g) {G0 : Gh} {H0 : Hp} {σ : L2.St} {H : Hp} {Q : VK} (h : TV G0 H0 (gCB g ga) σ H Q) : tCB (fun vs H Q => ∃ r, CallR X f r ∧ r vs H Q) (TAV G0 H0 ga) σ H Q := by
  obtain ⟨G, S, Qs, R, q, k⟩ := h
  refine ⟨G, S, _, R, q, fun vs H1 G1 svs E1 r1 q1 => ?_⟩
  exact hc H0 _ G1 H1 vs svs Qs Q E1.ok r1 q1 (kq_back E1 k)
theorem ve_callB (hc : CallW X (.builtin id) g) (hg : Gl X x) (hm : X.mg x = none) (hv : bootBuiltins x = some (.builtin id)) (ha : VA X (e :: es) ga) (hn : x ≠ "__name__" := by decide) (hdb : (x == ("__debug__" : Str)) = false := by decide)
    (he : starEach (e :: es) X.env = (false, eval e X.env) :: starEach es X.env := by rfl) (hpl : (backTo pos (starEach es X.env)).any (·.1) = false := by rfl) : VE X (.Call (.Name x p) (e :: es) [] pos) (gCB g ga) :=
  ⟨fun G0 H0 => peMono (pe_callB callr_any hg hm hv (ha.pa G0 H0) hn hdb he hpl) fun _ _ _ h => gCB_t hc h⟩
theorem ve_callT (hc : CallW X (.type T) g) (hg : Gl X x) (hm : X.mg x = none) (hv : bootBuiltins x = some (.type T)) (ha : VA X (e :: es) ga) (hn : x ≠ "__name__" := by decide) (hdb : (x == ("__debug__" : Str)) = false := by decide)
    (he : starEach (e :: es) X.env = (false, eval e X.env) :: starEach es X.env := by rfl) (hpl : (backTo pos (starEach es X.env)).any (·.1) = false := by rfl) : VE X (.Call (.Name x p) (e :: es) [] pos) (gCB g ga) :=
  ⟨fun G0 H0 => peMono (pe_callTy callr_any hg hm hv (ha.pa G0 H0) hn hdb he hpl) fun _ _ _ h => gCB_t hc h⟩
end
section
variable {X : Cx} {H0 Hs H : Hp} {G : Gh}
theorem repl1 {vs : List V} {svs : List SV} {d : D} (r : RepL H0 Hs G H vs svs) (e : svs.map SV.d = [d]) : ∃ v sv, vs = [v] ∧ svs = [sv] ∧ sv.d = d ∧ RepV H0 Hs G H v sv := by
  cases r with
  | nil => cases e
  | cons rv rr _ =>
    cases rr with
    | nil =>
      simp only [List.map_cons, List.map_nil, List.cons.injEq, and_true] at e
      exact ⟨_, _, rfl, rfl, e, rv⟩
    | cons _ _ _ => simp at e
theorem repl2 {vs : List V} {svs : List SV} {d e : D} (r : RepL H0 Hs G H vs svs) (h : svs.map SV.d = [d, e]) : ∃ v sv w sw, vs = [v, w] ∧ svs = [sv, sw] ∧ sv.d = d ∧ sw.d = e ∧ RepV H0 Hs G H v sv ∧ RepV H0 Hs G H w sw := by
  cases r with
  | nil => cases h
  | cons rv rr _ =>
    cases rr with
    | nil => simp at h
    | cons rw_ rr _ =>
      cases rr with
      | nil =>
        simp only [List.map_cons, List.map_nil, List.cons.injEq, and_true] at h
        exact ⟨_, _, _, _, rfl, rfl, h.1, h.2, rv, rw_⟩
      | cons _ _ _ => simp at h
def gLen : List D → (SV → Prop) → Prop
  | [.lst xs], Q => Q (.tr (.int xs.length))
  | [.tup xs], Q => Q (.tr (.int xs.length))
  | [.str x], Q => Q (.tr (.int x.length))
  | _, _ => False
theorem cw_len : CallW X (.builtin "len") gLen := by
  intro H0 Hs G H vs svs Qs Q ok r q k
  unfold gLen at q
  split at q
  · rename_i xs h
    obtain ⟨v, sv, rfl, rfl, e, rv⟩ := repl1 r h
    obtain ⟨a, ws, rfl, ea, rw_⟩ := rv.lst ok e
    refine ⟨_, call_len_seq, a, ws, rfl, .inl (.of ea), ?_⟩
    rw [rw_.length]
    exact kq_tr (d := .int _) k ok rfl q
  · rename_i xs h
    obtain ⟨v, sv, rfl, rfl, e, rv⟩ := repl1 r h
    obtain ⟨a, ws, rfl, ea, rw_⟩ := rv.tup ok e
    refine ⟨_, call_len_seq, a, ws, rfl, .inr (.of ea), ?_⟩
    rw [rw_.length]
    exact kq_tr (d := .int _) k ok rfl q
  · rename_i x h
    obtain ⟨v, sv, rfl, rfl, e, rv⟩ := repl1 r h
    obtain ⟨rfl, hx⟩ := rv.str e
    exact ⟨_, call_len_str, x, rfl, hx.2, kq_tr (d := .int _) k ok rfl q⟩
  · exact q.elim
def gAbs : List D → (SV → Prop) → Prop
  | [.int i], Q => Q (.tr (.int (if i < 0 then -i else i)))
  | _, _ => False
theorem cw_abs : CallW X (.builtin "abs") gAbs := by
  intro H0 Hs G H vs svs Qs Q ok r q k
  unfold gAbs at q
  split at q
  · rename_i i h
    obtain ⟨v, sv, rfl, rfl, e, rv⟩ := repl1 r h
    cases rv.int e
    exact ⟨_, call_abs, i, rfl, kq_tr (d := .int _) k ok rfl q⟩
  · exact q.elim
def gInt : List D → (SV → Prop) → Prop
  | [.int i], Q => Q (.tr (.int i))
  | [.bl b], Q => Q (.tr (.int (if b then 1 else 0)))
  | _, _ => False
theorem cw_int : CallW X (.type "int") gInt := by
  intro H0 Hs G H vs svs Qs Q ok r q k
  unfold gInt at q
  split at q
  · rename_i i h
    obtain ⟨v, sv, rfl, rfl, e, rv⟩ := repl1 r h
    cases rv.int e
    exact ⟨_, call_int1, .inl ⟨i, rfl, kq_tr (d := .int _) k ok rfl q⟩⟩
  · rename_i i h
    obtain ⟨v, sv, rfl, rfl, e, rv⟩ := repl1 r h
    cases rv.bl e
    exact ⟨_, call_int1, .inr ⟨i, rfl, kq_tr (d := .int _) k ok rfl q⟩⟩
  · exact q.elim
def gMax : List D → (SV → Prop) → Prop
  | [.int i, .int j], Q => Q (.tr (.int (if j > i then j else i)))
  | _, _ => False
def gMin : List D → (SV → Prop) → Prop
  | [.int i, .int j], Q => Q (.tr (.int (if j < i then j else i)))
  | _, _ => False
theorem cw_max (hc : X.calm = true) : CallW X (.builtin "max") gMax := by
  intro H0 Hs G H vs svs Qs Q ok r q k
  unfold gMax at q
  split at q
  · rename_i i j h
    obtain ⟨v, sv, w, sw, rfl, rfl, e, e2, rv, rw_⟩ := repl2 r h
    cases rv.int e
    cases rw_.int e2
    exact ⟨_, call_max2 hc, i, j, rfl, kq_tr (d := .int _) k ok rfl q⟩
  · exact q.elim
theorem cw_min (hc : X.calm = true) : CallW X (.builtin "min") gMin := by
  intro H0 Hs G H vs svs Qs Q ok r q k
  unfold gMin at q
  split at q
  · rename_i i j h
    obtain ⟨v, sv, w, sw, rfl, rfl, e, e2, rv, rw_⟩ := repl2 r h
    cases rv.int e
    cases rw_.int e2
    exact ⟨_, call_min2 hc, i, j, rfl, kq_tr (d := .int _) k ok rfl q⟩
  · exact q.elim
def gListOf : List D → (SV → Prop) → Prop
  | [.lst xs], Q => Q (.own (.lst xs))
  | [.tup xs], Q => Q (.own (.lst xs))
  | _, _ => False
theorem cw_list : CallW X (.type "list") gListOf := by
  intro H0 Hs G H vs svs Qs Q ok r q k
  unfold gListOf at q
  split at q
  · rename_i xs h
    obtain ⟨v, sv, rfl, rfl, e, rv⟩ := repl1 r h
    obtain ⟨a, ws, rfl, ea, rw_⟩ := rv.lst ok e
    exact ⟨_, call_list_of, a, ws, rfl, .inl (.of ea), fun p hp => kq_lst k ok hp rw_ q⟩
  · rename_i xs h
    obtain ⟨v, sv, rfl, rfl, e, rv⟩ := repl1 r h
    obtain ⟨a, ws, rfl, ea, rw_⟩ := rv.tup ok e
    exact ⟨_, call_list_of, a, ws, rfl, .inr (.of ea), fun p hp => kq_lst k ok hp rw_ q⟩
  · exact q.elim
def gTupOf : List D → (SV → Prop) → Prop
  | [.lst xs], Q => Q (.tr (.tup xs))
  | [.tup xs], Q => Q (.tr (.tup xs))
  | _, _ => False
theorem cw_tuple : CallW X (.type "tuple") gTupOf := by
  intro H0 Hs G H vs svs Qs Q ok r q k
  unfold gTupOf at q
  split at q
  · rename_i xs h
    obtain ⟨v, sv, rfl, rfl, e, rv⟩ := repl1 r h
    obtain ⟨a, ws, rfl, ea, rw_⟩ := rv.lst ok e
    exact ⟨_, call_tuple_of, a, ws, rfl, .inl ⟨.of ea, fun p hp => kq_tup k ok hp rw_ q⟩⟩
  · rename_i xs h
    obtain ⟨v, sv, rfl, rfl, e, rv⟩ := repl1 r h
    have t := rv.tree e (fun _ _ _ z => z) (fun z => nomatch z)
    obtain ⟨a, ws, rfl, ea, rw_⟩ := rv.tup ok e
    exact ⟨_, call_tuple_of, a, ws, rfl, .inr ⟨.of ea, kq_tr k ok t q⟩⟩
  · exact q.elim
/-- the bools, the intsD, the texts of a list -/
def blsD : List D → Option (List Bool)
  | [] => some []
  | .bl b :: r => (blsD r).map (b :: ·)
  | _ => none
def intsD : List D → Option (List Int)
  | [] => some []
  | .int b :: r => (intsD r).map (b :: ·)
  | _ => none
def strsD : List D → Option (List Str)
  | [] => some []
  | .str b :: r => (strsD r).map (b :: ·)
  | _ => none
theorem blsD_eq : ∀ {ds : List D} {bs : List Bool}, blsD ds = some bs → ds = bs.map D.bl
  | [], _, h => by cases h; rfl
  | .bl b :: r, bs, h => by
    rw [blsD] at h
    cases e : blsD r with
    | none => rw [e] at h; cases h
    | some t => rw [e] at h; cases h; rw [blsD_eq e]; rfl
theorem intsD_eq : ∀ {ds : List D} {bs : List Int}, intsD ds = some bs → ds = bs.map D.int
  | [], _, h => by cases h; rfl
  | .int b :: r, bs, h => by
    rw [intsD] at h
    cases e : intsD r with
    | none => rw [e] at h; cases h
    | some t => rw [e] at h; cases h; rw [intsD_eq e]; rfl
theorem strsD_eq : ∀ {ds : List D} {bs : List Str}, strsD ds = some bs → ds = bs.map D.str
  | [], _, h => by cases h; rfl
  | .str b :: r, bs, h => by
    rw [strsD] at h
    cases e : strsD r with
    | none => rw [e] at h; cases h
    | some t => rw [e] at h; cases h; rw [strsD_eq e]; rfl
@[simp] theorem blsD_map {α : Type} (f : α → Bool) : ∀ xs : List α, blsD (xs.map fun x => D.bl (f x)) = some (xs.map f)
  | [] => rfl
  | x :: xs => by rw [List.map_cons, blsD, blsD_map f xs]; rfl
@[simp] theorem intsD_map {α : Type} (f : α → Int) : ∀ xs : List α, intsD (xs.map fun x => D.int (f x)) = some (xs.map f)
  | [] => rfl
  | x :: xs => by rw [List.map_cons, intsD, intsD_map f xs]; rfl
@[simp] theorem strsD_map {α : Type} (f : α → Str) : ∀ xs : List α, strsD (xs.map fun x => D.str (f x)) = some (xs.map f)
  | [] => rfl
  | x :: xs => by rw [List.map_cons, strsD, strsD_map f xs]; rfl
def gAll : List D → (SV → Prop) → Prop
  | [.lst xs], Q => ∃ bs, blsD xs = some bs ∧ Q (.tr (.bl (bs.all id)))
  | _, _ => False
def gAny : List D → (SV → Prop) → Prop
  | [.lst xs], Q => ∃ bs, blsD xs = some bs ∧ Q (.tr (.bl (bs.any id)))
  | _, _ => False
def gSum : List D → (SV → Prop) → Prop
  | [.lst xs], Q => ∃ bs, intsD xs = some bs ∧ Q (.tr (.int bs.sum))
  | _, _ => False
theorem cw_all (hc : X.calm = true) : CallW X (.builtin "all") gAll := by
  intro H0 Hs G H vs svs Qs Q ok r q k
  unfold gAll at q
  split at q
  · rename_i xs h
    obtain ⟨bs, hb, q⟩ := q
    obtain ⟨v, sv, rfl, rfl, e, rv⟩ := repl1 r h
    obtain ⟨a, ws, rfl, ea, rw_⟩ := rv.lst ok e
    rw [blsD_eq hb] at rw_
    rw [rw_.map_bl] at ea
    exact ⟨_, cr_all hc, a, bs, rfl, .of ea, kq_tr (d := .bl _) k ok rfl q⟩
  · exact q.elim
theorem cw_any (hc : X.calm = true) : CallW X (.builtin "any") gAny := by
  intro H0 Hs G H vs svs Qs Q ok r q k
  unfold gAny at q
  split at q
  · rename_i xs h
    obtain ⟨bs, hb, q⟩ := q
    obtain ⟨v, sv, rfl, rfl, e, rv⟩ := repl1 r h
    obtain ⟨a, ws, rfl, ea, rw_⟩ := rv.lst ok e
    rw [blsD_eq hb] at rw_
    rw [rw_.map_bl] at ea
    exact ⟨_, cr_any hc, a, bs, rfl, .of ea, kq_tr (d := .bl _) k ok rfl q⟩
  · exact q.elim
theorem cw_sum (hc : X.calm = true) : CallW X (.builtin "sum") gSum := by
  intro H0 Hs G H vs svs Qs Q ok r q k
  unfold gSum at q
  split at q
  · rename_i xs h
    obtain ⟨bs, hb, q⟩ := q
    obtain ⟨v, sv, rfl, rfl, e, rv⟩ := repl1 r h
    obtain ⟨a, ws, rfl, ea, rw_⟩ := rv.lst ok e
    rw [intsD_eq hb] at rw_
    rw [rw_.map_int] at ea
    exact ⟨_, cr_sum hc, a, bs, rfl, .of ea, kq_tr (d := .int _) k ok rfl q⟩
  · exact q.elim
end
end VT

namespace VT
open PySem PySem.Spec PyProof.Rows L2

/-! ### kinds -/
inductive Ty where
  | int | str | bool | list | tuple | dict
@[simp] def Ty.nm : Ty → String
  | .int => "int" | .str => "str" | .bool => "bool" | .list => "list" | .tuple => "tuple" | .dict => "dict"
def D.isT : D → Ty → Bool
  | .bl _, .bool | .bl _, .int => true
  | .int _, .int => true
  | .str _, .str => true
  | .lst _, .list => true
  | .tup _, .tuple => true
  | .dic _, .dict | .dit _, .dict => true
  | _, _ => false
def D.kind : D → Option String
  | .non => some "NoneType"
  | .bl _ => some "bool"
  | .int _ => some "int"
  | .str _ => some "str"
  | .lst _ => some "list"
  | .tup _ => some "tuple"
  | .dic _ | .dit _ => some "dict"
  | _ => none
section
variable {X : Cx} {H0 Hs H : Hp} {G : Gh} {v : V} {sv : SV}
theorem RepV.ty {K : PySem.W.Frag} {n : String} (r : RepV H0 Hs G H v sv) (ok : OkG G H) (e : sv.d.kind = some n) : TyX K H v (.type n) := by
  cases hd : sv.d with
  | non => rw [hd] at e; cases e; rw [r.non hd]; exact .base .non
  | bl b => rw [hd] at e; cases e; rw [r.bl hd]; exact .base (.bl b)
  | int b => rw [hd] at e; cases e; rw [r.int hd]; exact .base (.int b)
  | str b => rw [hd] at e; cases e; rw [(r.str hd).1]; exact .base (.str b)
  | lst b => rw [hd] at e; cases e; obtain ⟨a, vs, rfl, ea, _⟩ := r.lst ok hd; exact .base (.lst ea)
  | tup b => rw [hd] at e; cases e; obtain ⟨a, vs, rfl, ea, _⟩ := r.tup ok hd; exact .base (.tup ea)
  | dic b => rw [hd] at e; cases e; obtain ⟨a, vs, rfl, ea, _⟩ := r.dic ok hd; exact .base (.dK ea)
  | dit b => rw [hd] at e; cases e; obtain ⟨a, vs, rfl, ea, _⟩ := r.dit ok hd; exact .base (.dT ea)
  | ins _ _ => rw [hd] at e; cases e
  | opq => rw [hd] at e; cases e
theorem isT_kit (d : D) (T : Ty) (n : String) (e : d.kind = some n) : kitB n T.nm = some (d.isT T) := by
  cases d <;> first
    | (cases e; done)
    | (cases e; cases T <;> (simp only [D.isT, Ty.nm]; decide +kernel))
@[simp] def gIsi (T : Ty) (g : GE) : GE := fun S Q => g S fun sv => sv.d.kind.isSome = true ∧ Q (.tr (.bl (sv.d.isT T)))
theorem ve_isi (T : Ty) {e : Expr} {g : GE} {x : Str} {p p2 pos : Pos} (he : VE X e g) (gI : Gl X "isinstance") (mI : X.mg "isinstance" = none) (gT : Gl X x) (mT : X.mg x = none) (hT : bootBuiltins x = some (.type T.nm)) (hn : x ≠ "__name__" := by decide) (hd : (x == ("__debug__" : Str)) = false := by decide)
    (h1 : starEach [e, .Name x p2] X.env = (false, eval e X.env) :: starEach [.Name x p2] X.env := by rfl) (h2 : starEach [.Name x p2] X.env = (false, eval (.Name x p2) X.env) :: starEach [] X.env := by rfl)
    (hpl : (backTo pos (starEach [.Name x p2] X.env)).any (·.1) = false := by rfl) : VE X (.Call (.Name "isinstance" p) [e, .Name x p2] [] pos) (gIsi T g) := by
  refine ⟨fun G0 H0 => peMono (pe_callB call_isi gI mI (by decide +kernel) (pa_cons (he.pe G0 H0) (pa_cons (pe_bltn (v := .ty T.nm) gT mT hT rfl hn hd) pa_nil h2) h1) (by decide) (by decide) h1 hpl) fun σ H Q ⟨G, S, Qs, R, q, k⟩ => ?_⟩
  refine ⟨G, S, _, R, q, fun v H1 G1 sv E1 r1 q1 => ?_⟩
  obtain ⟨hk, q1⟩ := q1
  obtain ⟨n, hn⟩ := Option.isSome_iff_exists.mp hk
  exact ⟨v, .ty T.nm, .type n, .type T.nm, _, rfl, .ty _, r1.ty E1.ok hn, kit_ty (isT_kit _ T n hn), kq_tr (d := .bl _) (kq_back E1 k) E1.ok rfl q1⟩
/-! ### truth -/
def D.tru : D → Option Bool
  | .non => some false
  | .bl b => some b
  | .int i => some (i != 0)
  | .str x => some (x.length != 0)
  | .lst xs => some (!xs.isEmpty)
  | .tup xs => some (!xs.isEmpty)
  | .dic kvs => some (!kvs.isEmpty)
  | _ => none
@[simp] def gTru (g : GE) : GT := fun S Q => g S fun sv => ∃ k, sv.d.tru = some k ∧ Q k
theorem isEmpty_len {α β : Type} {xs : List α} {ys : List β} (h : xs.length = ys.length) : xs.isEmpty = ys.isEmpty := by
  cases xs <;> cases ys <;> simp_all
theorem repk_len {F : Hp} : ∀ {ds : List (Key × D)} {vs : List (Key × V)}, repk F ds vs → vs.length = ds.length
  | [], _, r => by rw [show _ = [] from r]; rfl
  | (_, _) :: _, _, ⟨v, r, e, _, z⟩ => by rw [e, List.length_cons, List.length_cons, repk_len z]
theorem vc_tru {e : Expr} {g : GE} (h : VE X e g) (he : ∀ whole, isTrue e X.env whole = (do let v ← whole; standAt e.pos; holding [v] (truthy v)) := by intro _; rfl) : VC X e (gTru g) := by
  refine ⟨fun G0 H0 => ptMono (pt_truth (h.pe G0 H0) he) fun σ H Q ⟨G, S, Qs, R, q, k⟩ => ?_⟩
  refine ⟨G, S, _, R, q, fun v H1 G1 sv E1 r1 q1 => ?_⟩
  obtain ⟨b, hb, q1⟩ := q1
  refine ⟨b, ?_, k b H1 G1 E1 q1⟩
  cases hd : sv.d with
  | non => rw [hd] at hb; cases hb; rw [r1.non hd]; rfl
  | bl b => rw [hd] at hb; cases hb; rw [r1.bl hd]; rfl
  | int b => rw [hd] at hb; cases hb; rw [r1.int hd]; rfl
  | str x =>
    rw [hd] at hb
    cases hb
    rw [(r1.str hd).1]
    refine ⟨(r1.str hd).2.2, ?_⟩
    show (x.length != 0) = ((x.length : Int) != 0)
    cases x.length <;> rfl
  | lst xs =>
    rw [hd] at hb
    cases hb
    obtain ⟨a, vs, rfl, ea, r⟩ := r1.lst E1.ok hd
    exact .inl ⟨vs, .of ea, by rw [isEmpty_len r.length]⟩
  | tup xs =>
    rw [hd] at hb
    cases hb
    obtain ⟨a, vs, rfl, ea, r⟩ := r1.tup E1.ok hd
    exact .inr (.inl ⟨vs, .of ea, by rw [isEmpty_len r.length]⟩)
  | dic xs =>
    rw [hd] at hb
    cases hb
    obtain ⟨a, vs, rfl, ea, r⟩ := r1.dic E1.ok hd
    exact .inr (.inr ⟨vs, ea, by rw [isEmpty_len (repk_len r)]⟩)
  | dit _ => rw [hd] at hb; cases hb
  | ins _ _ => rw [hd] at hb; cases hb
  | opq => rw [hd] at hb; cases hb
/-! ### subscripts -/
def gIxD (x y : D) (Q : SV → Prop) : Prop := match x, y with
  | .lst xs, .int i => ∃ d, atI xs i = some d ∧ Q (.tr d)
  | .tup xs, .int i => ∃ d, atI xs i = some d ∧ Q (.tr d)
  | .str z, .int i => ∃ c, atI z.cps.toList i = some c ∧ Q (.tr (.str ⟨#[c]⟩))
  | _, _ => False
theorem reps_at {F : Hp} {ds : List D} {vs : List V} {i : Int} {d : D} (r : reps F ds vs) (h : atI ds i = some d) : ∃ v, atI vs i = some v ∧ rep F d v := by
  unfold atI at h ⊢
  rw [r.length]
  cases e : ixN ds.length i with
  | none => rw [e] at h; cases h
  | some j =>
    rw [e] at h
    exact r.get h
theorem okS_one {z : Str} {c : Nat} {i : Int} (h : okS z) (k : atI z.cps.toList i = some c) : okS ⟨#[c]⟩ := by
  obtain ⟨h1, h2⟩ := h
  refine ⟨?_, by show 1 ≤ sizeLine; decide⟩
  have hm : c ∈ z.cps.toList := by
    unfold atI at k
    cases e : ixN z.cps.toList.length i with
    | none => rw [e] at k; cases k
    | some j => rw [e] at k; exact List.mem_of_getElem? k
  have hc : c < 0x110000 := by
    have h1 : z.cps.all (· < 0x110000) = true := h1
    rw [Array.all_eq_true_iff_forall_mem] at h1
    have := h1 c (by simpa using hm)
    simpa using this
  show (#[c] : Array Nat).all (· < 0x110000) = true
  simp [hc]
theorem ixr_any : IxR X (fun x y H Q => ∃ r, IxR X r ∧ r x y H Q) := fun a b pins s σ H x y v u Q I rx ry ⟨_, h, q⟩ hs => h a b pins s σ H x y v u Q I rx ry q hs
theorem ve_ix {a b : Expr} {ga gb : GE} {pos : Pos} (ha : VE X a ga) (hb : VE X b gb) (hs : PlainIx b := by exact fun _ _ => rfl) : VE X (.Subscript a b pos) (gOp gIxD ga gb) := by
  refine ⟨fun G0 H0 => peMono (pe_ix ixr_any (ha.pe G0 H0) (hb.pe G0 H0) hs) fun σ H Q ⟨G, S, Qs, R, q, k⟩ => ?_⟩
  refine ⟨G, S, _, R, q, fun x H1 G1 sx E1 r1 q1 => ?_⟩
  refine ⟨G1, S, _, R.go E1, q1, fun y H2 G2 sy E2 r2 q2 => ?_⟩
  have kk := kq_back (E1.trans E2) k
  have r1 := r1.ext E2
  have ok := E2.ok
  unfold gIxD at q2
  split at q2
  · rename_i xs i hx hy
    obtain ⟨d, hd, q2⟩ := q2
    obtain ⟨a, vs, rfl, ea, r⟩ := r1.lst ok hx
    obtain ⟨w, hw, rw_⟩ := reps_at r hd
    exact ⟨_, ix_list, a, vs, i, w, rfl, r2.int hy, .of ea, hw, kq_tr kk ok rw_ q2⟩
  · rename_i xs i hx hy
    obtain ⟨d, hd, q2⟩ := q2
    obtain ⟨a, vs, rfl, ea, r⟩ := r1.tup ok hx
    obtain ⟨w, hw, rw_⟩ := reps_at r hd
    exact ⟨_, ix_tup, a, vs, i, w, rfl, r2.int hy, .of ea, hw, kq_tr kk ok rw_ q2⟩
  · rename_i z i hx hy
    obtain ⟨c, hc, q2⟩ := q2
    obtain ⟨rfl, hz⟩ := r1.str hx
    exact ⟨_, ix_str, z, i, c, rfl, r2.int hy, hz.2, hc, kq_tr (d := .str _) kk ok ⟨rfl, okS_one hz hc⟩ q2⟩
  · exact q2.elim
/-! ### slices -/
abbrev GO := S → (Option Int → Prop) → Prop
def TOV (G0 : Gh) (H0 : Hp) (g : GO) : TO := fun σ H Q => ∃ G S Qs, Rel G0 H0 G H σ S ∧ g S Qs ∧ ∀ b H' G', Ext G H G' H' → Qs b → Q b H'
structure VO (X : Cx) (e : Option Expr) (g : GO) : Prop where
  po : ∀ G0 H0, PO X e (TOV G0 H0 g)
@[simp] def goNone : GO := fun _ Q => Q none
@[simp] def goSome (g : GE) : GO := fun S Q => g S fun sv => ∃ i, sv.d = .int i ∧ Q (some i)
theorem vo_none : VO X none goNone := ⟨fun G0 H0 => ⟨fun pins s σ H Q I ⟨G, S, Qs, R, q, k⟩ => po_none.run pins s σ H Q I (k none H G (.refl R.ok) q)⟩⟩
theorem vo_some {e : Expr} {g : GE} (h : VE X e g) : VO X (some e) (goSome g) := ⟨fun G0 H0 => ⟨fun pins s σ H Q I ⟨G, S, Qs, R, q, k⟩ => (po_some (h.pe G0 H0)).run pins s σ H Q I
  ⟨G, S, _, R, q, fun v H1 G1 sv E1 r1 ⟨i, hi, q1⟩ => ⟨i, r1.int hi, k _ _ _ E1 q1⟩⟩⟩⟩
/-- the items of xs[lo:hi] -/
def cutD {α : Type} (xs : List α) (lo hi : Option Int) : List α := (xs.drop (HT.sIx xs.length 0 lo)).take (HT.sIx xs.length xs.length hi - HT.sIx xs.length 0 lo)
theorem reps_cut {F : Hp} {ds : List D} {vs : List V} (r : reps F ds vs) (lo hi : Option Int) : reps F (cutD ds lo hi) (cutV vs lo hi) := by
  unfold cutD cutV
  rw [r.length]
  exact (r.drop _).take _
def gSlD (x : D) (lo hi : Option Int) (Q : SV → Prop) : Prop := match x with
  | .lst xs => Q (.own (.lst (cutD xs lo hi)))
  | .tup xs => Q (.tr (.tup (cutD xs lo hi)))
  | .str z => Q (.tr (.str (cutS z lo hi)))
  | _ => False
@[simp] def gSl (g : GE) (gl gh : GO) : GE := fun S Q => g S fun x => gl S fun lo => gh S fun hi => gSlD x.d lo hi Q
theorem okS_cut {z : Str} (h : okS z) (lo hi : Option Int) : okS (cutS z lo hi) := by
  obtain ⟨h1, h2⟩ := h
  refine ⟨?_, Nat.le_trans (cutS_length z lo hi) h2⟩
  have h1 : z.cps.all (· < 0x110000) = true := h1
  show (cutS z lo hi).cps.all (· < 0x110000) = true
  rw [Array.all_eq_true_iff_forall_mem] at h1 ⊢
  intro c hc
  refine h1 c ?_
  have hc : c ∈ ((z.cps.toList.drop (HT.sIx z.length 0 lo)).take (HT.sIx z.length z.length hi - HT.sIx z.length 0 lo)).toArray := hc
  rw [List.mem_toArray] at hc
  simpa using List.mem_of_mem_drop (List.mem_of_mem_take hc)
theorem slr_any : SlR X (fun x lo hi H Q => ∃ r, SlR X r ∧ r x lo hi H Q) := fun pins s σ H x v vl vu lo hi sl Q I rx hs pl pu ⟨_, h, q⟩ => h pins s σ H x v vl vu lo hi sl Q I rx hs pl pu q
theorem map_cut {α β : Type} (f : α → β) (xs : List α) (lo hi : Option Int) : (cutD xs lo hi).map f = cutD (xs.map f) lo hi := by
  unfold cutD
  rw [List.map_take, List.map_drop, List.length_map]
theorem cut_eq (xs : List V) (lo hi : Option Int) : cutV xs lo hi = cutD xs lo hi := rfl
theorem sIx_whole {n : Nat} {lo hi : Option Int} {α : Type} {xs : List α} (hn : xs.length = n) (h : HT.sIx n 0 lo = 0 ∧ HT.sIx n n hi = n) : cutD xs lo hi = xs := by
  unfold cutD
  rw [hn, h.1, h.2, List.drop_zero, Nat.sub_zero, List.take_of_length_le (by omega)]
theorem ve_slice {e : Expr} {g : GE} {lo hi : Option Expr} {gl gh : GO} {pos p2 : Pos} (he : VE X e g) (hl : VO X lo gl) (hh : VO X hi gh) : VE X (.Subscript e (.Slice lo hi none p2) pos) (gSl g gl gh) := by
  refine ⟨fun G0 H0 => peMono (pe_slice slr_any (he.pe G0 H0) (hl.po G0 H0) (hh.po G0 H0)) fun σ H Q ⟨G, S, Qs, R, q, k⟩ => ?_⟩
  refine ⟨G, S, _, R, q, fun v H1 G1 sx E1 r1 q1 => ?_⟩
  refine ⟨G1, S, _, R.go E1, q1, fun l H2 G2 E2 q2 => ?_⟩
  refine ⟨G2, S, _, (R.go E1).go E2, q2, fun u H3 G3 E3 q3 => ?_⟩
  have kk := kq_back ((E1.trans E2).trans E3) k
  have r1 := (r1.ext E2).ext E3
  have ok := E3.ok
  unfold gSlD at q3
  split at q3
  · rename_i xs hx
    obtain ⟨a, vs, rfl, ea, r⟩ := r1.lst ok hx
    exact ⟨_, sl_list, a, vs, rfl, .of ea, fun p hp => kq_lst kk ok hp (reps_cut r l u) q3⟩
  · rename_i xs hx
    have t := r1.tree hx (fun _ _ _ z => z) (fun z => nomatch z)
    obtain ⟨a, vs, rfl, ea, r⟩ := r1.tup ok hx
    refine ⟨_, sl_tupA, a, vs, rfl, .of ea, fun w => ?_, fun _ p hp => kq_tup kk ok hp (reps_cut r l u) q3⟩
    rw [r.length] at w
    rw [sIx_whole rfl w] at q3
    exact kq_tr kk ok t q3
  · rename_i z hx
    obtain ⟨rfl, hz⟩ := r1.str hx
    exact ⟨_, sl_str, z, rfl, hz.2, kq_tr (d := .str _) kk ok ⟨rfl, okS_cut hz l u⟩ q3⟩
  · exact q3.elim
end
end VT

namespace VT
open PySem PySem.Spec PyProof.Rows L2

/-! ### times -/
/-- a text as often -/
def gMul : D → D → (SV → Prop) → Prop
  | .int i, .int j, Q => CMulW i j ∧ Q (.tr (.int (i * j)))
  | .lst xs, .int k, Q => (0 ≤ k ∧ k < 2 ^ 40 ∧ xs.length * k.toNat ≤ sizeLine) ∧ Q (.own (.lst (List.replicate k.toNat xs).flatten))
  | .str x, .int k, Q => (0 ≤ k ∧ k ≤ 1000 ∧ x.length ≤ 1000) ∧ Q (.tr (.str (Txt.mul x k)))
  | _, _, _ => False
theorem reps_rep {F : Hp} {ds : List D} {vs : List V} (r : reps F ds vs) : ∀ n : Nat, reps F (List.replicate n ds).flatten (List.replicate n vs).flatten
  | 0 => rfl
  | n + 1 => by
    rw [List.replicate_succ, List.replicate_succ, List.flatten_cons, List.flatten_cons]
    exact r.append (reps_rep r n)
theorem arr_rep_all (p : Nat → Bool) (a : Array Nat) (h : a.all p = true) : ∀ (n : Nat) (b : Array Nat), b.all p = true → ((List.replicate n a).foldl (· ++ ·) b).all p = true
  | 0, b, k => k
  | n + 1, b, k => by
    rw [List.replicate_succ, List.foldl_cons]
    exact arr_rep_all p a h n (b ++ a) (by rw [Array.all_append, k, h]; rfl)
theorem arr_rep_size (a : Array Nat) : ∀ (n : Nat) (b : Array Nat), ((List.replicate n a).foldl (· ++ ·) b).size = b.size + n * a.size
  | 0, b => by simp
  | n + 1, b => by
    rw [List.replicate_succ, List.foldl_cons, arr_rep_size a n, Array.size_append, Nat.succ_mul]
    omega
theorem okS_mul {x : Str} {k : Int} (h : okS x) (h0 : 0 ≤ k) (h1 : k ≤ 1000) (h2 : x.length ≤ 1000) : okS (Txt.mul x k) := by
  unfold Txt.mul
  split
  · exact ⟨by decide +kernel, by decide +kernel⟩
  · split
    · exact h
    · refine ⟨arr_rep_all _ _ h.1 _ _ (by simp), ?_⟩
      show ((List.replicate k.toNat x.cps).foldl (· ++ ·) #[]).size ≤ sizeLine
      rw [arr_rep_size]
      have h2 : x.cps.size ≤ 1000 := h2
      have h3 : k.toNat ≤ 1000 := by omega
      have h4 := Nat.mul_le_mul h3 h2
      have h5 := sizeLine_eq
      show (#[] : Array Nat).size + _ ≤ _
      simp only [List.size_toArray, List.length_nil]
      omega
theorem mulOk {x : Str} {k : Int} (h0 : 0 ≤ k) (h1 : k ≤ 1000) (h2 : x.length ≤ 1000) : PySem.MulOk x k := by
  refine ⟨?_, fun hk _ => ?_, fun hk _ => ?_⟩
  · rw [decide_eq_false (by omega), decide_eq_false (by omega)]
    rfl
  · have e : (9223372036854775 : Int) ≤ (2 ^ 63 - 1) / k := by
      refine Int.le_ediv_of_mul_le (by omega) ?_
      omega
    omega
  · have h3 : k.toNat ≤ 1000 := by omega
    have h4 := Nat.mul_le_mul h2 h3
    have h5 := sizeLine_eq
    exact decide_eq_false (by omega)
section
variable {X : Cx}
theorem op_mulS : OpR X (binaryOp .Mult) (fun x y H Q => ∃ z k, x = .str z ∧ y = .int k ∧ PySem.MulOk z k ∧ Q (.str (Txt.mul z k)) H) := by
  intro pins s σ H x y v u Q I rx ry h
  obtain ⟨z, k, rfl, rfl, hk, q⟩ := h
  obtain ⟨t, rfl⟩ := rx
  obtain ⟨t', rfl⟩ := ry
  exact PySem.SB.mul hk fun t'' tk => ⟨.str _, H, I.tok tk, ⟨t'', rfl⟩, q⟩
theorem ow_mul : OpW X (binaryOp .Mult) gMul := by
  intro H0 Ha Hb G H x y sx sy Qs Q ok rx ry q k
  unfold gMul at q
  split at q
  · rename_i i j hx hy
    cases rx.int hx
    cases ry.int hy
    exact ⟨_, op_mulW, i, j, rfl, rfl, q.1, kq_tr (d := .int _) k ok rfl q.2⟩
  · rename_i xs j hx hy
    obtain ⟨a, vs, rfl, ea, r⟩ := rx.lst ok hx
    cases ry.int hy
    exact ⟨_, op_rep, a, j, vs, rfl, rfl, ea, by omega, by have := q.1.2.1; omega, by rw [r.length]; exact q.1.2.2, fun p hp => kq_lst k ok hp (reps_rep r _) q.2⟩
  · rename_i z j hx hy
    obtain ⟨rfl, hz⟩ := rx.str hx
    cases ry.int hy
    exact ⟨_, op_mulS, z, j, rfl, rfl, mulOk q.1.1 q.1.2.1 q.1.2.2, kq_tr (d := .str _) k ok ⟨rfl, okS_mul hz q.1.1 q.1.2.1 q.1.2.2⟩ q.2⟩
  · exact q.elim
/-! ### methods of texts -/
def MtW (X : Cx) (id : String) (g : D → List D → (SV → Prop) → Prop) : Prop :=
  ∀ (H0 Ha Hs : Hp) (G : Gh) (H : Hp) (x : V) (sx : SV) (vs : List V) (svs : List SV) (Qs : SV → Prop) (Q : VK), OkG G H → RepV H0 Ha G H x sx → RepL H0 Hs G H vs svs → g sx.d (svs.map SV.d) Qs → KQ H0 G H Qs Q → ∃ r, MtR X id r ∧ r x vs H Q
def tyD (T : String) : D → Prop
  | .str _ => T = "str"
  | .lst _ => T = "list"
  | _ => False
theorem RepV.tyV {H0 Hs H : Hp} {G : Gh} {v : V} {sv : SV} {K : PySem.W.Frag} {T : String} (r : RepV H0 Hs G H v sv) (ok : OkG G H) (e : tyD T sv.d) : L2.tyV K T v H := by
  cases hd : sv.d <;> rw [hd] at e <;> first | exact e.elim | skip
  · rw [(r.str hd).1]; exact e
  · obtain ⟨a, vs, rfl, ea, _⟩ := r.lst ok hd; exact .inl ⟨e, vs, .of ea⟩
theorem mtr_any {id : String} : MtR X id (fun x vs H Q => ∃ r, MtR X id r ∧ r x vs H Q) := fun pins s σ H x xs v us Q I rx rs ⟨_, h, q⟩ => h pins s σ H x xs v us Q I rx rs q
@[simp] def gBM (T : String) (g : D → List D → (SV → Prop) → Prop) (go : GE) (ga : GA) : GE := fun S Q => go S fun sx => tyD T sx.d ∧ ga S fun svs => g sx.d (svs.map SV.d) Q
variable {o e : Expr} {es : List Expr} {go : GE} {ga : GA} {name : Str} {apos cpos : Pos} {T id : String} {g : D → List D → (SV → Prop) → Prop}
theorem ve_bm (pa : PlainAttrs T) (slot : Slot T name id) (hty : typeOf (.builtin id) = pure (.type "method_descriptor")) (hm : MtW X id g) (ho : VE X o go) (ha : VA X (e :: es) ga)
    (hbase : attributeBase o name X.env (eval o X.env) = eval o X.env := by rfl)
    (hfew : ((backTo cpos (starEach (e :: es) X.env)).all (fun x => !x.1) && (backToKw cpos (keywordEach [] X.env)).all (fun x => x.1.isSome)
      && decide ((e :: es).length + ([] : List Keyword).length + (if ([] : List Keyword).isEmpty then 0 else 1) < 30)) = true := by rfl)
    (hline : (apos.endLine == cpos.line) = true := by rfl) (hs : starEach (e :: es) X.env = (false, eval e X.env) :: starEach es X.env := by rfl) (hplain : (backTo cpos (starEach es X.env)).any (·.1) = false := by rfl) :
    VE X (.Call (.Attribute o name apos) (e :: es) [] cpos) (gBM T g go ga) := by
  refine ⟨fun G0 H0 => peMono (pe_bm pa slot hty mtr_any (ho.pe G0 H0) (ha.pa G0 H0) hbase hfew hline hs hplain) fun σ H Q ⟨G, S, Qs, R, q, k⟩ => ?_⟩
  refine ⟨G, S, _, R, q, fun v H1 G1 sx E1 r1 q1 => ⟨r1.tyV E1.ok q1.1, ?_⟩⟩
  refine ⟨G1, S, _, R.go E1, q1.2, fun vs H2 G2 svs E2 r2 q2 => ?_⟩
  exact hm H0 _ _ G2 H2 v sx vs svs Qs Q E2.ok (r1.ext E2) r2 q2 (kq_back (E1.trans E2) k)
theorem ve_bm0 (pa : PlainAttrs T) (slot : Slot T name id) (hty : typeOf (.builtin id) = pure (.type "method_descriptor")) (hm : MtW X id g) (ho : VE X o go)
    (hbase : attributeBase o name X.env (eval o X.env) = eval o X.env := by rfl) (hline : (apos.endLine == cpos.line) = true := by rfl) : VE X (.Call (.Attribute o name apos) [] [] cpos) (gBM T g go gaNil) := by
  refine ⟨fun G0 H0 => peMono (pe_bm0 pa slot hty mtr_any (ho.pe G0 H0) hbase hline) fun σ H Q ⟨G, S, Qs, R, q, k⟩ => ?_⟩
  refine ⟨G, S, _, R, q, fun v H1 G1 sx E1 r1 q1 => ⟨r1.tyV E1.ok q1.1, ?_⟩⟩
  exact hm H0 _ H _ _ v sx [] [] Qs Q E1.ok r1 .nil q1.2 (kq_back E1 k)
/-- sep.join(xs) -/
def gJoin : D → List D → (SV → Prop) → Prop
  | .str z, [.lst xs], Q => ∃ ys, strsD xs = some ys ∧ (ys.map (·.length)).sum + ys.length * z.length ≤ 16777216 ∧ okS (Txt.join z ys) ∧ Q (.tr (.str (Txt.join z ys)))
  | .str z, [.tup xs], Q => ∃ ys, strsD xs = some ys ∧ (ys.map (·.length)).sum + ys.length * z.length ≤ 16777216 ∧ okS (Txt.join z ys) ∧ Q (.tr (.str (Txt.join z ys)))
  | _, _, _ => False
theorem mw_join : MtW X "str.join" gJoin := by
  intro H0 Ha Hs G H x sx vs svs Qs Q ok rx r q k
  unfold gJoin at q
  split at q
  · rename_i z xs hx h
    obtain ⟨ys, e1, hz, ho, q⟩ := q
    obtain ⟨v, sv, rfl, rfl, e, rv⟩ := repl1 r h
    obtain ⟨rfl, _⟩ := rx.str hx
    obtain ⟨a, ws, rfl, ea, rw_⟩ := rv.lst ok e
    rw [strsD_eq e1] at rw_
    rw [rw_.map_str.1] at ea
    exact ⟨_, mt_join, z, a, ys, rfl, rfl, .inl (.of ea), hz, kq_tr (d := .str _) k ok ⟨rfl, ho⟩ q⟩
  · rename_i z xs hx h
    obtain ⟨ys, e1, hz, ho, q⟩ := q
    obtain ⟨v, sv, rfl, rfl, e, rv⟩ := repl1 r h
    obtain ⟨rfl, _⟩ := rx.str hx
    obtain ⟨a, ws, rfl, ea, rw_⟩ := rv.tup ok e
    rw [strsD_eq e1] at rw_
    rw [rw_.map_str.1] at ea
    exact ⟨_, mt_join, z, a, ys, rfl, rfl, .inr (.of ea), hz, kq_tr (d := .str _) k ok ⟨rfl, ho⟩ q⟩
  · exact q.elim
end
end VT

namespace VT
open PySem PySem.Spec PyProof.Rows L2

/-! ### slots set -/
theorem set_slot {α : Type} {l : List α} {i j : Nat} {a b : α} (h : (l.set i a)[j]? = some b) : (i = j ∧ b = a ∧ i < l.length) ∨ (i ≠ j ∧ l[j]? = some b) := by
  by_cases e : i = j
  · subst e
    by_cases hl : i < l.length
    · rw [List.getElem?_set_self hl] at h
      exact .inl ⟨rfl, (Option.some.inj h).symm, hl⟩
    · rw [List.getElem?_eq_none (by simpa using hl)] at h
      cases h
  · rw [List.getElem?_set_ne e] at h
    exact .inr ⟨e, h⟩
/-- may stand in a slot -/
def SV.ok : SV → Prop
  | .pk _ => False
  | _ => True
/-- a value goes to a slot: it is new, or no object of the frame's own -/
theorem Rel.set {G0 G : Gh} {H0 H Hs : Hp} {σ : L2.St} {S : S} {v : V} {sv : SV} (R : Rel G0 H0 G H σ S) (i : Nat) (r : RepV H0 Hs G H v sv) (hok : sv.ok)
    (h0 : ∀ b, Hs b = none → H0 b = none) (hd : ∀ (j : Nat) (d c : D) (a : Addr), sv = .own d → v = .ref a → j ≠ i → S[j]? = some (some (.own c)) → σ[j]? ≠ some (some (.ref a))) :
    Rel G0 H0 G H (σ.set i (some v)) (S.set i (some sv)) where
  ext := R.ext
  len := by rw [List.length_set, List.length_set, R.len]
  slot := fun j w e => by
    rcases set_slot e with ⟨rfl, e, hl⟩ | ⟨hne, e⟩
    · cases e
      exact ⟨v, by rw [List.getElem?_set_self (by rw [← R.len]; exact hl)], r.back h0⟩
    · obtain ⟨u, e1, r1⟩ := R.slot j w e
      exact ⟨u, by rw [List.getElem?_set_ne hne]; exact e1, r1⟩
  inj := fun j l c c' a e1 e2 e3 e4 => by
    rcases set_slot e1 with ⟨rfl, e1, hl⟩ | ⟨hne, e1⟩
    · rcases set_slot e2 with ⟨rfl, e2, _⟩ | ⟨hne2, e2⟩
      · rfl
      · rw [List.getElem?_set_self (by rw [← R.len]; exact hl)] at e3
        rw [List.getElem?_set_ne hne2] at e4
        exact (hd l c c' a (Option.some.inj e1).symm (Option.some.inj (Option.some.inj e3)) (Ne.symm hne2) e2 e4).elim
    · rw [List.getElem?_set_ne hne] at e3
      rcases set_slot e2 with ⟨rfl, e2, hl⟩ | ⟨hne2, e2⟩
      · rw [List.getElem?_set_self (by rw [← R.len]; exact hl)] at e4
        exact (hd j c' c a (Option.some.inj e2).symm (Option.some.inj (Option.some.inj e4)) (Ne.symm hne) e1 e3).elim
      · rw [List.getElem?_set_ne hne2] at e4
        exact R.inj j l c c' a e1 e2 e3 e4
  nopk := fun j d e => by
    rcases set_slot e with ⟨rfl, e, hl⟩ | ⟨hne, e⟩
    · cases e; exact hok
    · exact R.nopk j d e
/-- .. behind an expression that began at H -/
theorem Rel.setE {G0 G G' : Gh} {H0 H H' : Hp} {σ : L2.St} {S : S} {v : V} {sv : SV} (R : Rel G0 H0 G H σ S) (E : Ext G H G' H') (i : Nat) (r : RepV H0 H G' H' v sv) (hok : sv.ok) : Rel G0 H0 G' H' (σ.set i (some v)) (S.set i (some sv)) := by
  refine (R.go E).set i r hok (fun b z => R.ext.dom z) fun j d c a e1 e2 _ e3 e4 => ?_
  subst e1
  obtain ⟨a', e', hn, _⟩ := r
  rw [e2] at e'
  cases e'
  obtain ⟨w, e5, r5⟩ := R.slot j _ e3
  rw [e4] at e5
  cases e5
  obtain ⟨b, eb, _, _, _, cc⟩ := r5
  cases eb
  exact cc.there hn
/-- a slot is forgotten -/
theorem Rel.forget {G0 G : Gh} {H0 H : Hp} {σ : L2.St} {S : S} (R : Rel G0 H0 G H σ S) (i : Nat) : Rel G0 H0 G H (σ.set i none) (S.set i none) where
  ext := R.ext
  len := by rw [List.length_set, List.length_set, R.len]
  slot := fun j w e => by
    rcases set_slot e with ⟨rfl, e, hl⟩ | ⟨hne, e⟩
    · cases e
    · obtain ⟨u, e1, r1⟩ := R.slot j w e
      exact ⟨u, by rw [List.getElem?_set_ne hne]; exact e1, r1⟩
  inj := fun j l c c' a e1 e2 e3 e4 => by
    rcases set_slot e1 with ⟨rfl, e1, hl⟩ | ⟨hne, e1⟩
    · cases e1
    · rcases set_slot e2 with ⟨rfl, e2, hl⟩ | ⟨hne2, e2⟩
      · cases e2
      · rw [List.getElem?_set_ne hne] at e3
        rw [List.getElem?_set_ne hne2] at e4
        exact R.inj j l c c' a e1 e2 e3 e4
  nopk := fun j d e => by
    rcases set_slot e with ⟨rfl, e, hl⟩ | ⟨hne, e⟩
    · cases e
    · exact R.nopk j d e
@[simp] def wipeS (S : S) : List Nat → VT.S
  | [] => S
  | v :: vs => (wipeS S vs).set v none
theorem Rel.wipe {G0 G : Gh} {H0 H : Hp} {σ : L2.St} {S : S} (R : Rel G0 H0 G H σ S) : ∀ vs : List Nat, Rel G0 H0 G H (wipe σ vs) (wipeS S vs)
  | [] => R
  | v :: vs => (R.wipe vs).forget v

/-! ### targets of trees -/
/-- the slots at is alone were set -/
def Off (is : List Nat) (σ σ' : L2.St) : Prop := σ'.length = σ.length ∧ ∀ j, j ∉ is → σ'[j]? = σ[j]?
theorem Off.refl {is : List Nat} {σ : L2.St} : Off is σ σ := ⟨rfl, fun _ _ => rfl⟩
theorem Off.trans {is : List Nat} {σ σ1 σ2 : L2.St} (a : Off is σ σ1) (b : Off is σ1 σ2) : Off is σ σ2 := ⟨b.1.trans a.1, fun j h => (b.2 j h).trans (a.2 j h)⟩
theorem Off.mono {is js : List Nat} {σ σ1 : L2.St} (a : Off is σ σ1) (h : ∀ i ∈ is, i ∈ js) : Off js σ σ1 := ⟨a.1, fun j hj => a.2 j fun z => hj (h j z)⟩
theorem Off.set {i : Nat} {x : Option V} {σ : L2.St} : Off [i] σ (σ.set i x) := ⟨List.length_set, fun j h => List.getElem?_set_ne (fun e => h (by simp [e]))⟩
theorem wipe_get : ∀ (vs : List Nat) (σ : L2.St) (j : Nat), (wipe σ vs)[j]? = if j ∈ vs ∧ j < σ.length then some none else σ[j]?
  | [], σ, j => by simp [wipe]
  | v :: vs, σ, j => by
    rw [wipe]
    by_cases e : v = j
    · subst e
      by_cases hl : v < σ.length
      · rw [List.getElem?_set_self (by rw [wipe_length]; exact hl), if_pos ⟨by simp, hl⟩]
      · rw [List.getElem?_eq_none (by rw [List.length_set, wipe_length]; omega), if_neg (fun z => hl z.2), List.getElem?_eq_none (by omega)]
    · rw [List.getElem?_set_ne e, wipe_get vs σ j]
      have h1 : (j ∈ v :: vs ∧ j < σ.length) ↔ (j ∈ vs ∧ j < σ.length) := by
        rw [List.mem_cons]
        constructor
        · rintro ⟨z | z, k⟩
          · exact (e z.symm).elim
          · exact ⟨z, k⟩
        · exact fun z => ⟨.inr z.1, z.2⟩
      simp only [h1]
theorem Off.wiped {vs : List Nat} {σ σ' : L2.St} (o : Off vs (L2.wipe σ vs) σ') : L2.wipe σ' vs = L2.wipe σ vs := by
  refine List.ext_getElem? fun j => ?_
  have hl : σ'.length = σ.length := o.1.trans (wipe_length σ vs)
  rw [wipe_get, wipe_get, hl]
  by_cases h : j ∈ vs ∧ j < σ.length
  · rw [if_pos h, if_pos h]
  · rw [if_neg h, if_neg h]
    by_cases hj : j ∈ vs
    · have h2 : σ.length ≤ j := by
        have : ¬ j < σ.length := fun z => h ⟨hj, z⟩
        omega
      rw [List.getElem?_eq_none (by omega), List.getElem?_eq_none h2]
    · rw [o.2 j hj, wipe_get, if_neg (fun z => hj z.1)]
abbrev GG := D → S → (S → Prop) → Prop
def TGV (G0 : Gh) (H0 : Hp) (is : List Nat) (g : GG) : TG := fun v σ H Q => ∃ G S d Qs, Rel G0 H0 G H σ S ∧ rep G.F d v ∧ g d S Qs ∧ ∀ σ' S', Rel G0 H0 G H σ' S' → Off is σ σ' → Qs S' → Q σ' H
structure VG (X : Cx) (tg : Expr) (is : List Nat) (g : GG) : Prop where
  pg : ∀ G0 H0, PG X tg (TGV G0 H0 is g)
theorem pgMono {X : Cx} {tg : Expr} {t t' : TG} (h : PG X tg t) (k : ∀ v σ H Q, t' v σ H Q → t v σ H Q) : PG X tg t' := ⟨fun pins s σ H v u Q I r q => h.run pins s σ H v u Q I r (k v σ H Q q)⟩
@[simp] def ggName (i : Nat) : GG := fun d S Q => Q (S.set i (some (.tr d)))
/-- a row of names -/
@[simp] def ggAll : List Nat → List D → S → S
  | i :: is, d :: ds, S => ggAll is ds (S.set i (some (.tr d)))
  | _, _, S => S
@[simp] def ggTup (is : List Nat) : GG := fun d S Q => ∃ ds, d = .tup ds ∧ ds.length = is.length ∧ Q (ggAll is ds S)
section
variable {X : Cx} {pos : Pos}
theorem vg_name {i : Nat} {x : Str} (hN : X.N.Nodup) (hi : X.N[i]? = some x) (hx : Loc X.env.scope x) (hf : X.fn x = true ∨ X.env.scope.names.lookup x = some .local := by first | exact .inl rfl | exact .inr rfl | assumption) : VG X (.Name x pos) [i] (ggName i) :=
  ⟨fun G0 H0 => pgMono (pg_name hN hi hx hf) fun v σ H Q ⟨G, S, d, Qs, R, r, q, k⟩ => k _ _ (R.set (Hs := H0) i (sv := .tr d) r trivial (fun _ z => z) fun _ _ _ _ z => by cases z) Off.set q⟩
/-- several names -/
structure VGs (X : Cx) (ts : List Expr) (is : List Nat) : Prop where
  pgs : ∀ G0 H0, PGs X ts (fun vs σ H Q => ∃ G S ds, Rel G0 H0 G H σ S ∧ reps G.F ds vs ∧ ds.length = is.length ∧ ∀ σ' S', Rel G0 H0 G H σ' S' → Off is σ σ' → S' = ggAll is ds S → Q σ' H)
theorem pgsMono {ts : List Expr} {t t' : TGs} (h : PGs X ts t) (k : ∀ v σ H Q, t' v σ H Q → t v σ H Q) : PGs X ts t' := ⟨fun pins s σ H v u Q I r q => h.run pins s σ H v u Q I r (k v σ H Q q)⟩
theorem vgs_nil : VGs X [] [] := ⟨fun G0 H0 => pgsMono pgs_nil fun vs σ H Q ⟨G, S, ds, R, r, hl, k⟩ => by
  have e : ds = [] := List.eq_nil_of_length_eq_zero hl
  subst e
  exact ⟨r, k σ S R Off.refl rfl⟩⟩
theorem vgs_cons {i : Nat} {is : List Nat} {x : Str} {es : List Expr} {p : Pos} (hN : X.N.Nodup) (hi : X.N[i]? = some x) (hx : Loc X.env.scope x) (h2 : VGs X es is) (hf : X.fn x = true ∨ X.env.scope.names.lookup x = some .local := by first | exact .inl rfl | exact .inr rfl | assumption)
    (hs : (assignEach (.Name x p :: es) X.env).map (·.2) = assign (.Name x p) X.env :: (assignEach es X.env).map (·.2) := by rfl) : VGs X (.Name x p :: es) (i :: is) :=
  ⟨fun G0 H0 => pgsMono (pgs_cons (pg_name hN hi hx hf) (h2.pgs G0 H0) hs) fun vs σ H Q ⟨G, S, ds, R, r, hl, k⟩ => by
    cases ds with
    | nil => cases hl
    | cons d ds =>
      obtain ⟨v, t, rfl, rv, rt⟩ := r
      refine ⟨v, t, rfl, G, _, ds, R.set (Hs := H0) i (sv := .tr d) rv trivial (fun _ z => z) (fun _ _ _ _ z => by cases z), rt, by simpa using hl, fun σ' S' R' o e => k σ' S' R' ?_ e⟩
      exact (Off.set.mono (by simp)).trans (o.mono (by simp; exact fun _ h => .inr h))⟩
theorem vg_tup {es : List Expr} {kk : Nat} {is : List Nat} (hc : X.calm = true) (h : VGs X es is) (hn : (assignEach es X.env).length = is.length := by rfl) (hst : (assignEach es X.env).findIdx? (·.1) = none := by rfl) : VG X (.Tuple es kk pos) is (ggTup is) :=
  ⟨fun G0 H0 => pgMono (pg_tup hc (h.pgs G0 H0) hn hst) fun v σ H Q ⟨G, S, d, Qs, R, r, ⟨ds, e, hl, q⟩, k⟩ => by
    subst e
    obtain ⟨a, vs, rfl, ea, rs⟩ := r
    exact ⟨a, vs, rfl, .of (R.ok.sub _ _ ea), by rw [rs.length, hl], G, S, ds, R, rs, hl, fun σ' S' R' o e => k σ' S' R' o (by rw [e]; exact q)⟩⟩
end

/-! ### what is walked -/
abbrev GI := S → (List D → Prop) → Prop
/-- all is as it was: by a comprehension; by a loop's body -/
def Later (c : Bool) (G0 : Gh) (H0 : Hp) (G : Gh) (H : Hp) (G2 : Gh) (H2 : Hp) : Prop := if c = true then Ext G H G2 H2 else Ext G0 H0 G2 H2 ∧ ∀ b o, G.F b = some o → G2.F b = some o
theorem Later.ok {c : Bool} {G0 G G2 : Gh} {H0 H H2 : Hp} (l : Later c G0 H0 G H G2 H2) : OkG G2 H2 := by
  cases c with
  | true => exact Ext.ok l
  | false => exact l.1.ok
theorem Later.frz {c : Bool} {G0 G G2 : Gh} {H0 H H2 : Hp} (l : Later c G0 H0 G H G2 H2) : ∀ b o, G.F b = some o → G2.F b = some o := by
  cases c with
  | true => exact Ext.frz l
  | false => exact l.2
/-- the iterator J yields ds -/
def Yields (c : Bool) (G0 : Gh) (H0 : Hp) (G : Gh) (H : Hp) (J : It) (ds : List D) : Prop := ∀ G2 H2, Later c G0 H0 G H G2 H2 → (∀ i, ds.length ≤ i → J.stop i H2) ∧
  ∀ i d, ds[i]? = some d → J.go i H2 ∧ ∀ x H3, J.yld i H2 x H3 → ∃ G3, Ext G2 H2 G3 H3 ∧ rep G3.F d x
def TIV (c : Bool) (G0 : Gh) (H0 : Hp) (gi : GI) : TI := fun σ H R => ∃ G S Qs, Rel G0 H0 G H σ S ∧ gi S Qs ∧ ∀ J H' G' ds, Ext G H G' H' → Yields c G0 H0 G' H' J ds → Qs ds → R J H'
structure VI (c : Bool) (X : Cx) (tg iter : Expr) (gi : GI) : Prop where
  pi : ∀ G0 H0, PI X tg iter (TIV c G0 H0 gi)
theorem piMono {X : Cx} {tg it : Expr} {t t' : TI} (h : PI X tg it t) (k : ∀ σ H Q, t' σ H Q → t σ H Q) : PI X tg it t' := ⟨fun pins s σ H R I q => h.run pins s σ H R I (k σ H R q)⟩
theorem piOf {X : Cx} {tg it : Expr} {t : TI} (h : ∀ σ H Q, t σ H Q → ∃ t', PI X tg it t' ∧ t' σ H Q) : PI X tg it t := ⟨fun pins s σ H R I q => let ⟨_, p, z⟩ := h σ H R q; p.run pins s σ H R I z⟩
/-- a held list stays through what comes later -/
def SV.stays (c : Bool) : SV → Prop
  | .tr _ => True
  | .brw _ => True
  | .pk _ => c = true
  | .own _ => c = true
  | _ => False
theorem RepV.later {c : Bool} {G0 G G2 : Gh} {H0 Hs H H2 : Hp} {v : V} {sv : SV} {ds : List D} (E0 : Ext G0 H0 G H) (r : RepV H0 Hs G H v sv) (hs : sv.stays c) (e : sv.d = .lst ds) (l : Later c G0 H0 G H G2 H2) :
    ∃ a vs, v = .ref a ∧ H2 a = some (.lst vs) ∧ reps G2.F ds vs ∧ H a = some (.lst vs) := by
  cases sv with
  | tr d =>
    cases e
    obtain ⟨a, vs, rfl, ea, r⟩ := r
    exact ⟨a, vs, rfl, l.ok.sub _ _ (l.frz _ _ ea), reps.mono l.frz _ _ r, E0.ok.sub _ _ ea⟩
  | own d =>
    cases e
    have hc : c = true := hs
    subst hc
    obtain ⟨a, rfl, _, _, nb, vs, ea, r⟩ := r
    exact ⟨a, vs, rfl, Ext.same l _ _ ea nb, reps.mono l.frz _ _ r, ea⟩
  | pk d =>
    cases e
    have hc : c = true := hs
    subst hc
    obtain ⟨a, rfl, nb, vs, ea, r⟩ := r
    exact ⟨a, vs, rfl, Ext.same l _ _ ea nb, reps.mono l.frz _ _ r, ea⟩
  | brw d =>
    cases e
    obtain ⟨a, rfl, h0, nb, vs, ea, r⟩ := r
    cases c with
    | true => exact ⟨a, vs, rfl, Ext.same l _ _ ea nb, reps.mono l.frz _ _ r, ea⟩
    | false =>
      have nb0 : G0.pb ≠ some a := fun z => nb (E0.pb a z)
      obtain ⟨o, ho⟩ := Option.ne_none_iff_exists'.mp h0
      have e1 := E0.same a o ho nb0
      rw [ea] at e1
      cases e1
      exact ⟨a, vs, rfl, l.1.same _ _ ho nb0, reps.mono l.frz _ _ r, ea⟩
  | bag => exact hs.elim
/-- the items of a list, a tuple, a text -/
def D.items : D → Option (List D)
  | .lst ds => some ds
  | .tup ds => some ds
  | .str z => some (z.cps.toList.map fun c => .str ⟨#[c]⟩)
  | _ => none
@[simp] def giSeq (c : Bool) (g : GE) : GI := fun S Q => g S fun sv => ((∃ ds, sv.d = .lst ds) → sv.stays c) ∧ ∃ ds, sv.d.items = some ds ∧ Q ds
/-- range(n), range(a, b) -/
def rngD (lo : Int) (n : Nat) : List D := (List.range n).map fun i => D.int (lo + (i : Nat))
@[simp] def giR1 (ga : GA) : GI := fun S Q => ga S fun svs => ∃ n : Int, svs.map SV.d = [.int n] ∧ (-(2 ^ 62) ≤ n ∧ n < 2 ^ 62) ∧ Q (rngD 0 n.toNat)
@[simp] def giR2 (ga : GA) : GI := fun S Q => ga S fun svs => ∃ m n : Int, svs.map SV.d = [.int m, .int n] ∧ (-(2 ^ 62) ≤ m ∧ m < 2 ^ 62 ∧ -(2 ^ 62) ≤ n ∧ n < 2 ^ 62) ∧ Q (rngD m (n - m).toNat)
/-- enumerate(xs), zip(xs, ys) -/
def enumD (ds : List D) : List D := (List.range ds.length).map fun i => .tup [.int (i : Nat), ds.getD i .non]
def zipD : List D → List D → List D
  | d :: ds, e :: es => .tup [d, e] :: zipD ds es
  | _, _ => []
def giEnum (c : Bool) (ga : GA) : GI := fun S Q => ga S fun svs => ∃ sv ds, svs = [sv] ∧ sv.stays c ∧ sv.d = .lst ds ∧ Q (enumD ds)
def giZip (c : Bool) (ga : GA) : GI := fun S Q => ga S fun svs => ∃ sx sy, svs = [sx, sy] ∧ ((∃ ds es, sx.stays c ∧ sy.stays c ∧ sx.d = .lst ds ∧ sy.d = .lst es ∧ Q (zipD ds es)) ∨ (∃ ds es, sx.d = .tup ds ∧ sy.d = .tup es ∧ Q (zipD ds es)))
theorem zipD_get : ∀ {ds es : List D} {i : Nat} {d : D}, (zipD ds es)[i]? = some d → ∃ x y, d = .tup [x, y] ∧ ds[i]? = some x ∧ es[i]? = some y
  | d :: ds, e :: es, 0, _, h => by cases h; exact ⟨d, e, rfl, rfl, rfl⟩
  | d :: ds, e :: es, i + 1, _, h => by
    rw [zipD, List.getElem?_cons_succ] at h
    exact zipD_get (i := i) h
  | [], _, _, _, h => by simp [zipD] at h
  | _ :: _, [], _, _, h => by simp [zipD] at h
theorem zipD_len : ∀ (ds es : List D), (zipD ds es).length = min ds.length es.length
  | d :: ds, e :: es => by rw [zipD, List.length_cons, List.length_cons, List.length_cons, zipD_len ds es]; omega
  | [], _ => by simp [zipD]
  | _ :: _, [] => by simp [zipD]
section
variable {c : Bool} {X : Cx} {tg e : Expr} {g : GE} {ga : GA} {p pos tpos : Pos} {elts : List Expr} {kk : Nat}
theorem yields_pair {c : Bool} {G2 : Gh} {H2 H3 : Hp} {T : Addr} {x y : D} {v w : V} (ok : OkG G2 H2) (hT : H2 T = none) (rv : rep G2.F x v) (rw_ : rep G2.F y w) (e : H3 = upd H2 T (.tup [v, w])) : ∃ G3, Ext G2 H2 G3 H3 ∧ rep G3.F (.tup [x, y]) (.ref T) := by
  subst e
  refine ⟨_, ext_frz ok hT _, T, [v, w], rfl, upd_same, ?_⟩
  exact ⟨v, [w], rfl, rep.mono (upd_mono (ok.nF hT)) _ _ rv, w, [], rfl, rep.mono (upd_mono (ok.nF hT)) _ _ rw_, rfl⟩
theorem vi_seq (he : VE X e g) : VI c X tg e (giSeq c g) := by
  refine ⟨fun G0 H0 => piOf fun σ H Q ⟨G, S, Qs, R, q, k⟩ => ?_⟩
  -- which kind it is: the reading tells it
  refine ⟨fun σ H R' => TV G0 H0 g σ H fun v H1 => (∃ a, v = .ref a ∧ (∃ xs, SqL X.K H1 a xs) ∧ R' (Itl X.K a) H1) ∨ (∃ a, v = .ref a ∧ (∃ xs, SqT X.K H1 a xs) ∧ R' (Itt X.K a) H1) ∨ ∃ x, v = .str x ∧ R' (Its x) H1, ?_, ?_⟩
  · refine ⟨fun pins s σ H R I h => ?_⟩
    refine thn ((he.pe G0 H0).run pins s σ H _ I h) fun v s1 ⟨x, H1, I1, r1, q1⟩ => ?_
    rcases q1 with ⟨a, rfl, hx, q1⟩ | ⟨a, rfl, hx, q1⟩ | ⟨z, rfl, q1⟩
    · obtain ⟨xs, hq⟩ := hx
      obtain ⟨its, rv, pl, hz⟩ := I1.list hq
      cases r1
      refine wpAny_pyIter_list pl.isList ?_
      refine ⟨s1.heap.objs.size, [s1.heap.objs.size], _, _, H1, rfl, I1.kept (t' := s1.toks) fun b o e => Heap.get?_push_of_some _ e, turn_list a _, ⟨_, Heap.get?_push_size _ rfl, rfl, rfl⟩, fun b hb => ?_, q1⟩
      have e : b = s1.heap.objs.size := by simpa using hb
      subst e
      exact I1.fpOk (Nat.le_refl _) (I1.hok.fresh (Nat.le_refl _))
    · obtain ⟨xs, hq⟩ := hx
      obtain ⟨its, rv, pl, hz⟩ := I1.tuple hq
      cases r1
      refine wpAny_pyIter_tuple (show s1.heap.IsTuple a its.toArray from pl) ?_
      refine ⟨s1.heap.objs.size, [s1.heap.objs.size], _, _, H1, rfl, I1.kept (t' := s1.toks) fun b o e => Heap.get?_push_of_some _ e, turn_tuple a _, ⟨_, Heap.get?_push_size _ rfl, rfl, rfl⟩, fun b hb => ?_, q1⟩
      have e : b = s1.heap.objs.size := by simpa using hb
      subst e
      exact I1.fpOk (Nat.le_refl _) (I1.hok.fresh (Nat.le_refl _))
    · obtain ⟨t, rfl⟩ := r1
      cases ha : z.cps.all (· < 128)
      · exact wpAny_pyIter_wide ha (pi_one (tk := s1.toks) I1 _ (turn_str _ z t "str_iterator" (.inr rfl)) ⟨_, Heap.get?_push_size _ rfl, rfl, rfl⟩ q1)
      · exact wpAny_pyIter_ascii ha (pi_one (tk := s1.toks) I1 _ (turn_str _ z t "str_ascii_iterator" (.inl rfl)) ⟨_, Heap.get?_push_size _ rfl, rfl, rfl⟩ q1)
  · refine ⟨G, S, _, R, q, fun v H1 G1 sv E1 r1 q1 => ?_⟩
    obtain ⟨hst, ds, hds, q1⟩ := q1
    have E0 := R.ext.trans E1
    cases hd : sv.d with
    | lst xs =>
      rw [hd] at hds
      cases hds
      have st := hst ⟨_, hd⟩
      obtain ⟨a, vs, rfl, ea, ra⟩ := r1.lst E1.ok hd
      refine .inl ⟨a, rfl, ⟨vs, .of ea⟩, k _ _ _ _ E1 (fun G2 H2 l => ?_) q1⟩
      obtain ⟨a', ws, e', e2, r2, _⟩ := r1.later E0 st hd l
      cases e'
      refine ⟨fun i hi => ⟨ws, .of e2, by rw [r2.length]; exact hi⟩, fun i d hi => ?_⟩
      obtain ⟨w, hw, rw_⟩ := r2.get hi
      refine ⟨⟨ws, w, .of e2, hw⟩, fun x H3 y => ?_⟩
      obtain ⟨rfl, y⟩ := y
      have hx : x = w := Option.some.inj ((y ws (.of e2)).symm.trans hw)
      subst hx
      exact ⟨G2, .refl l.ok, rw_⟩
    | tup xs =>
      rw [hd] at hds
      cases hds
      have t := r1.tree hd (fun _ _ _ z => z) (fun z => nomatch z)
      obtain ⟨a, vs, rfl, ea, ra⟩ := t
      refine .inr (.inl ⟨a, rfl, ⟨vs, .of (E1.ok.sub _ _ ea)⟩, k _ _ _ _ E1 (fun G2 H2 l => ?_) q1⟩)
      have e2 := l.ok.sub _ _ (l.frz _ _ ea)
      have r2 := reps.mono l.frz _ _ ra
      refine ⟨fun i hi => ⟨vs, .of e2, by rw [r2.length]; exact hi⟩, fun i d hi => ?_⟩
      obtain ⟨w, hw, rw_⟩ := r2.get hi
      refine ⟨⟨vs, w, .of e2, hw⟩, fun x H3 y => ?_⟩
      obtain ⟨rfl, y⟩ := y
      have hx : x = w := Option.some.inj ((y vs (.of e2)).symm.trans hw)
      subst hx
      exact ⟨G2, .refl l.ok, rw_⟩
    | str z =>
      rw [hd] at hds
      cases hds
      obtain ⟨rfl, hz⟩ := r1.str hd
      refine .inr (.inr ⟨z, rfl, k _ _ _ _ E1 (fun G2 H2 l => ?_) q1⟩)
      refine ⟨fun i hi => ?_, fun i d hi => ?_⟩
      · rw [List.length_map, Array.length_toList] at hi
        exact hi
      · rw [List.getElem?_map] at hi
        cases hc : z.cps.toList[i]? with
        | none => rw [hc] at hi; cases hi
        | some cc =>
          rw [hc] at hi
          cases hi
          have hc' : z.cps[i]? = some cc := by rw [← Array.getElem?_toList]; exact hc
          have hlt : i < z.cps.size := (Array.getElem?_eq_some_iff.mp hc').1
          refine ⟨hlt, fun x H3 y => ?_⟩
          obtain ⟨rfl, c2, h2, rfl⟩ := y
          have hcc : c2 = cc := Option.some.inj (h2.symm.trans hc')
          subst hcc
          refine ⟨G2, .refl l.ok, rfl, ?_⟩
          refine okS_one (z := z) (i := (i : Nat)) hz ?_
          unfold atI ixN
          rw [if_pos (by omega), if_pos (by rw [Array.length_toList]; omega)]
          simpa using hc
    | non => rw [hd] at hds; cases hds
    | bl _ => rw [hd] at hds; cases hds
    | int _ => rw [hd] at hds; cases hds
    | dic _ => rw [hd] at hds; cases hds
    | dit _ => rw [hd] at hds; cases hds
    | ins _ _ => rw [hd] at hds; cases hds
    | opq => rw [hd] at hds; cases hds
theorem yields_rng {G0 G : Gh} {H0 H : Hp} (lo : Int) (n : Nat) : Yields c G0 H0 G H (Itr lo n) (rngD lo n) := fun G2 H2 l => by
  refine ⟨fun i hi => ?_, fun i d hi => ?_⟩
  · rw [rngD, List.length_map, List.length_range] at hi
    exact hi
  · rw [rngD, List.getElem?_map] at hi
    by_cases h : i < n
    · rw [List.getElem?_range h] at hi
      cases hi
      refine ⟨h, fun x H3 y => ?_⟩
      obtain ⟨rfl, rfl⟩ := y
      exact ⟨G2, .refl l.ok, rfl⟩
    · rw [List.getElem?_eq_none (by simpa using h)] at hi
      cases hi
theorem vi_r1 {a : Expr} (hg : Gl X "range") (hm : X.mg "range" = none) (ha : VA X [a] ga) (hs : starEach [a] X.env = [(false, eval a X.env)] := by rfl) : VI c X tg (.Call (.Name "range" p) [a] [] pos) (giR1 ga) := by
  refine ⟨fun G0 H0 => piMono (pi_range1 hg hm (ha.pa G0 H0) hs) fun σ H Q ⟨G, S, Qs, R, q, k⟩ => ?_⟩
  refine ⟨G, S, _, R, q, fun vs H1 G1 svs E1 r1 q1 => ?_⟩
  obtain ⟨n, hn, hb, q1⟩ := q1
  obtain ⟨v, sv, rfl, rfl, e, rv⟩ := repl1 r1 hn
  exact ⟨n, by rw [rv.int e], hb.1, hb.2, k _ _ _ _ E1 (yields_rng 0 _) q1⟩
theorem vi_r2 {a b : Expr} (hg : Gl X "range") (hm : X.mg "range" = none) (ha : VA X [a, b] ga) (hs : starEach [a, b] X.env = [(false, eval a X.env), (false, eval b X.env)] := by rfl) (hs2 : starEach [b] X.env = [(false, eval b X.env)] := by rfl) : VI c X tg (.Call (.Name "range" p) [a, b] [] pos) (giR2 ga) := by
  refine ⟨fun G0 H0 => piMono (pi_range2 hg hm (ha.pa G0 H0) hs hs2) fun σ H Q ⟨G, S, Qs, R, q, k⟩ => ?_⟩
  refine ⟨G, S, _, R, q, fun vs H1 G1 svs E1 r1 q1 => ?_⟩
  obtain ⟨m, n, hn, hb, q1⟩ := q1
  obtain ⟨v, sv, w, sw, rfl, rfl, e, e2, rv, rw_⟩ := repl2 r1 hn
  exact ⟨m, n, by rw [rv.int e, rw_.int e2], hb, k _ _ _ _ E1 (yields_rng m _) q1⟩
theorem vi_enum (hg : Gl X "enumerate") (hm : X.mg "enumerate" = none) (ha : VA X [e] ga) (hs : starEach [e] X.env = [(false, eval e X.env)] := by rfl) : VI c X (.Tuple elts kk tpos) (.Call (.Name "enumerate" p) [e] [] pos) (giEnum c ga) := by
  refine ⟨fun G0 H0 => piMono (pi_enum hg hm (ha.pa G0 H0) hs) fun σ H Q ⟨G, S, Qs, R, q, k⟩ => ?_⟩
  refine ⟨G, S, _, R, q, fun vs H1 G1 svs E1 r1 q1 => ?_⟩
  obtain ⟨sv, ds, rfl, st, hd, q1⟩ := q1
  cases r1 with
  | cons rv rr _ =>
    cases rr
    obtain ⟨a, vs, rfl, ea, ra⟩ := rv.lst E1.ok hd
    refine ⟨a, vs, rfl, .of ea, k _ _ _ _ E1 (fun G2 H2 l => ?_) q1⟩
    obtain ⟨a', ws, e', e2, r2, _⟩ := rv.later (R.ext.trans E1) st hd l
    cases e'
    refine ⟨fun i hi => ⟨ws, .of e2, ?_⟩, fun i d hi => ?_⟩
    · rw [enumD, List.length_map, List.length_range] at hi
      rw [r2.length]; exact hi
    · rw [enumD, List.getElem?_map] at hi
      by_cases h : i < ds.length
      · rw [List.getElem?_range h] at hi
        cases hi
        obtain ⟨w, hw, rw_⟩ := r2.get (List.getElem?_eq_getElem h)
        refine ⟨⟨ws, w, .of e2, hw⟩, fun x H3 y => ?_⟩
        obtain ⟨T, x', rfl, hT, eT, y⟩ := y
        have hx : x' = w := Option.some.inj ((y ws (.of e2)).symm.trans hw)
        subst hx
        refine yields_pair (c := true) l.ok hT (x := .int (i : Nat)) (show V.int _ = V.int _ from rfl) ?_ eT
        rw [show ds.getD i D.non = ds[i] by simp [h]]
        exact rw_
      · rw [List.getElem?_eq_none (by simpa using h)] at hi
        cases hi
theorem vi_zip {e2 : Expr} (hg : Gl X "zip") (hm : X.mg "zip" = none) (ha : VA X [e, e2] ga)
    (hs : starEach [e, e2] X.env = (false, eval e X.env) :: starEach [e2] X.env := by rfl) (hpl : (backTo pos (starEach [e2] X.env)).any (·.1) = false := by rfl) :
    VI c X (.Tuple elts kk tpos) (.Call (.Name "zip" p) [e, e2] [] pos) (giZip c ga) := by
  refine ⟨fun G0 H0 => piMono (RZ.pi_zipA hg hm (ha.pa G0 H0) hs hpl) fun σ H Q ⟨G, S, Qs, R, q, k⟩ => ?_⟩
  refine ⟨G, S, _, R, q, fun vs H1 G1 svs E1 r1 q1 => ?_⟩
  obtain ⟨sx, sy, rfl, q1⟩ := q1
  cases r1 with
  | cons rx rr _ =>
    cases rr with
    | cons ry rr _ =>
      cases rr
      rcases q1 with ⟨ds, es, s1, s2, hx, hy, q1⟩ | ⟨ds, es, hx, hy, q1⟩
      · obtain ⟨a, vs, rfl, ea, ra⟩ := rx.lst E1.ok hx
        obtain ⟨b, ws, rfl, eb, rb⟩ := ry.lst E1.ok hy
        refine ⟨a, b, vs, ws, rfl, .inl ⟨.of ea, .of eb, k _ _ _ _ E1 (fun G2 H2 l => ?_) q1⟩⟩
        obtain ⟨a', vs', e', ea2, ra2, _⟩ := rx.later (R.ext.trans E1) s1 hx l
        cases e'
        obtain ⟨b', ws', e', eb2, rb2, _⟩ := ry.later (R.ext.trans E1) s2 hy l
        cases e'
        refine ⟨fun i hi => ⟨vs', ws', .of ea2, .of eb2, ?_⟩, fun i d hi => ?_⟩
        · rw [zipD_len] at hi
          rw [ra2.length, rb2.length]
          omega
        · obtain ⟨x, y, rfl, hxi, hyi⟩ := zipD_get hi
          obtain ⟨v, hv, rv⟩ := ra2.get hxi
          obtain ⟨w, hw, rw_⟩ := rb2.get hyi
          refine ⟨⟨vs', ws', v, w, .of ea2, .of eb2, hv, hw⟩, fun z H3 yl => ?_⟩
          obtain ⟨T, x', y', rfl, hT, eT, y1, y2⟩ := yl
          have h1 : x' = v := Option.some.inj ((y1 vs' (.of ea2)).symm.trans hv)
          have h2 : y' = w := Option.some.inj ((y2 ws' (.of eb2)).symm.trans hw)
          subst h1 h2
          exact yields_pair (c := true) l.ok hT rv rw_ eT
      · obtain ⟨a, vs, rfl, ea, ra⟩ := rx.tree hx (fun _ _ _ z => z) (fun z => nomatch z)
        obtain ⟨b, ws, rfl, eb, rb⟩ := ry.tree hy (fun _ _ _ z => z) (fun z => nomatch z)
        refine ⟨a, b, vs, ws, rfl, .inr ⟨.of (E1.ok.sub _ _ ea), .of (E1.ok.sub _ _ eb), k _ _ _ _ E1 (fun G2 H2 l => ?_) q1⟩⟩
        have ea2 := l.ok.sub _ _ (l.frz _ _ ea)
        have eb2 := l.ok.sub _ _ (l.frz _ _ eb)
        have ra2 := reps.mono l.frz _ _ ra
        have rb2 := reps.mono l.frz _ _ rb
        refine ⟨fun i hi => ⟨vs, ws, .of ea2, .of eb2, ?_⟩, fun i d hi => ?_⟩
        · rw [zipD_len] at hi
          rw [ra2.length, rb2.length]
          omega
        · obtain ⟨x, y, rfl, hxi, hyi⟩ := zipD_get hi
          obtain ⟨v, hv, rv⟩ := ra2.get hxi
          obtain ⟨w, hw, rw_⟩ := rb2.get hyi
          refine ⟨⟨vs, ws, v, w, .of ea2, .of eb2, hv, hw⟩, fun z H3 yl => ?_⟩
          obtain ⟨T, x', y', rfl, hT, eT, y1, y2⟩ := yl
          have h1 : x' = v := Option.some.inj ((y1 vs (.of ea2)).symm.trans hv)
          have h2 : y' = w := Option.some.inj ((y2 ws (.of eb2)).symm.trans hw)
          subst h1 h2
          exact yields_pair (c := true) l.ok hT rv rw_ eT
end
end VT

namespace VT
open PySem PySem.Spec PyProof.Rows L2

/-! ### an object newer than the beginning is changed -/
theorem ext_write {G G' : Gh} {H H' : Hp} {a : Addr} (E : Ext G H G' H') (hn : H a = none) (hF : G'.F a = none) (hb : G'.pb ≠ some a) (o : HO) : Ext G H G' (upd H' a o) where
  ok := ⟨fun b u e => by
      rw [upd_ne (fun z => by rw [z, hF] at e; cases e)]
      exact E.ok.sub b u e, fun q e => ⟨(E.ok.bag q e).1.go (fun u h => by rw [upd_ne (fun z => hb (by rw [← z]; exact e))]; exact h) fun _ _ z => z, (E.ok.bag q e).2⟩⟩
  same := fun b u e q => by rw [upd_ne (ne_of_none e hn)]; exact E.same b u e q
  pb := E.pb
  pnew := E.pnew
  frz := E.frz
  new := E.new

/-! ### comprehensions -/
/-- the tests of a clause -/
structure VCs (X : Cx) (ifs : List Expr) (g : GT) : Prop where
  pts : ∀ G0 H0, PTs X ifs (TTV G0 H0 g)
@[simp] def gYes : GT := fun _ Q => Q true
section
variable {X : Cx}
theorem vcs_nil : VCs X [] gYes := ⟨fun G0 H0 => ⟨fun pins s σ H Q I ⟨G, S, Qs, R, q, k⟩ => pts_nil.run pins s σ H Q I (k true H G (.refl R.ok) q)⟩⟩
theorem vcs_one {c : Expr} {g : GT} (h : VC X c g) : VCs X [c] g := ⟨fun G0 H0 => pts_one (h.pt G0 H0)⟩
/-- [e for tg in it if t]: W of what is left and what is made -/
def gLc (gi : GI) (gg : GG) (gt : GT) (ge : GE) (vs : List Nat) : GE := fun S Q => gi S fun ds => ∃ W : List D → List D → Prop, W ds [] ∧ (∀ acc, W [] acc → Q (.own (.lst acc))) ∧
  ∀ d r acc, W (d :: r) acc → gg d (wipeS S vs) fun S2 => gt S2 fun b => if b = true then ge S2 fun sv => ∃ y, sv = .tr y ∧ acc.length < sizeLine ∧ W r (acc ++ [y]) else W r acc
theorem gLc_t {c : Bool} {gi : GI} {gg : GG} {gt : GT} {ge : GE} {vs : List Nat} {K : PySem.W.Frag} {G0 : Gh} {H0 : Hp} {σ : L2.St} {H : Hp} {Q : VK} (hc : c = true) (h : TV G0 H0 (gLc gi gg gt ge vs) σ H Q) : tLc (TIV c G0 H0 gi) (TGV G0 H0 vs gg) (TTV G0 H0 gt) (TV G0 H0 ge) vs σ H Q := by
  subst hc
  obtain ⟨G, S, Qs, R, q, k⟩ := h
  refine ⟨G, S, _, R, q, fun J H1 G1 ds E1 Y q1 => ?_⟩
  obtain ⟨W, w0, wd, ws⟩ := q1
  intro D hD
  have R1 := R.go E1
  refine ⟨fun i m H2 => ∃ G2 acc vsD, Ext G1 H1 G2 H2 ∧ H2 D = some (.lst vsD) ∧ G2.F D = none ∧ G2.pb ≠ some D ∧ reps G2.F acc vsD ∧ W (ds.drop i) acc ∧ m = ds.length - i ∧ i ≤ ds.length, ⟨ds.length, G1, [], [], ext_new E1.ok hD _, upd_same, E1.ok.nF hD, E1.ok.npb hD, rfl, w0, by simp, Nat.zero_le _⟩, ?_⟩
  rintro i m H2 ⟨G2, acc, vsD, E2, e2, f2, b2, ra, w, rfl, hi⟩
  by_cases hlt : i < ds.length
  · obtain ⟨y1, y2⟩ := Y G2 H2 E2
    have hd : ds[i]? = some ds[i] := List.getElem?_eq_getElem hlt
    obtain ⟨go, yl⟩ := y2 i _ hd
    rw [List.drop_eq_getElem_cons hlt] at w
    refine .inr ⟨go, fun H' => ∃ m', m' < ds.length - i ∧ ∃ G2 acc vsD, Ext G1 H1 G2 H' ∧ H' D = some (.lst vsD) ∧ G2.F D = none ∧ G2.pb ≠ some D ∧ reps G2.F acc vsD ∧ W (ds.drop (i + 1)) acc ∧ m' = ds.length - (i + 1) ∧ i + 1 ≤ ds.length, fun H' z => z, fun x H3 yx => ?_⟩
    obtain ⟨G3, E3, rx⟩ := yl x H3 yx
    refine ⟨G3, wipeS S vs, ds[i], _, ((R1.go E2).go E3).wipe vs, rx, ws _ _ _ w, fun σ2 S2 R2 off q2 => ⟨off.wiped, ?_⟩⟩
    refine ⟨G3, S2, _, R2, q2, fun b H4 G4 E4 q4 => ?_⟩
    have ne2 : H2 D ≠ none := by rw [e2]; simp
    have E24 := E3.trans E4
    have e4 : H4 D = some (.lst vsD) := E24.same _ _ e2 b2
    cases b with
    | false =>
      rw [if_neg Bool.false_ne_true] at q4
      refine iteF ?_
      exact ⟨_, by omega, G4, acc, vsD, E2.trans E24, e4, E24.nF f2 ne2, E24.npb b2 ne2, reps.mono E24.frz _ _ ra, q4, rfl, by omega⟩
    | true =>
      rw [if_pos rfl] at q4
      refine iteT ?_
      refine ⟨G4, S2, _, R2.go E4, q4, fun v H5 G5 sv E5 r5 q5 => ?_⟩
      obtain ⟨y, rfl, hz, q5⟩ := q5
      have E25 := E24.trans E5
      have e5 : H5 D = some (.lst vsD) := E25.same _ _ e2 b2
      have rz := reps.mono E25.frz _ _ ra
      refine ⟨vsD, e5, by rw [rz.length]; exact hz, _, by omega, G5, acc ++ [y], vsD ++ [v], ext_write (E2.trans E25) hD (E25.nF f2 ne2) (E25.npb b2 ne2) _, upd_same, E25.nF f2 ne2, E25.npb b2 ne2, rz.append ⟨v, [], rfl, r5, rfl⟩, q5, rfl, by omega⟩
  · have e : i = ds.length := by omega
    subst e
    rw [List.drop_length] at w
    obtain ⟨y1, _⟩ := Y G2 H2 E2
    exact .inl ⟨y1 _ (Nat.le_refl _), k _ _ G2 (.own (.lst acc)) (E1.trans E2) ⟨D, rfl, E1.dom hD, f2, b2, vsD, e2, ra⟩ (wd _ w)⟩
theorem ve_lc {elt tg iter : Expr} {ifs : List Expr} {scope : Scope} {own : List (Str × Nat)} {pos : Pos} {gi : GI} {gg : GG} {gt : GT} {ge : GE} (hc : X.calm = true) (hN : X.N.Nodup) (hi : VI true X tg iter gi) (ok : BlkOk X.N X.env.scope scope own)
    (hg : ∀ (s : Shared) (H : Hp) (C : Addr) (cl : List (Str × Addr)) (fp : List Addr), VG (X.blk s H scope (compEnvC scope cl C X.env) fp) tg (own.map (·.2)) gg) (ht : ∀ (s : Shared) (H : Hp) (C : Addr) (cl : List (Str × Addr)) (fp : List Addr), VCs (X.blk s H scope (compEnvC scope cl C X.env) fp) ifs gt)
    (he : ∀ (s : Shared) (H : Hp) (C : Addr) (cl : List (Str × Addr)) (fp : List Addr), VE (X.blk s H scope (compEnvC scope cl C X.env) fp) elt ge) (hs : ∀ x, foldedSetIterable iter X.env x = pure x := by intro _; rfl) :
    VE X (.ListComp elt [⟨tg, iter, ifs, 0⟩] scope pos) (gLc gi gg gt ge (own.map (·.2))) :=
  ⟨fun G0 H0 => peMono (pe_lc hc hN (hi.pi G0 H0) ok (fun s H C cl fp => (hg s H C cl fp).pg G0 H0) (fun s H C cl fp => (ht s H C cl fp).pts G0 H0) (fun s H C cl fp => (he s H C cl fp).pe G0 H0) hs) fun σ H Q h => gLc_t (K := X.K) rfl h⟩
end

/-- a result is a tree, an object of the frame's own or the bag -/
def SV.isRet : SV → Prop
  | .tr _ => True
  | .own _ => True
  | .bag => True
  | _ => False
/-! ### statements -/
structure VEnds where
  nx : S → Prop
  rt : SV → Prop
  bk : S → Prop := fun _ => False
  ct : S → Prop := fun _ => False
abbrev GS := VEnds → S → Prop
/-- what was frozen is frozen -/
abbrev Mono (G G' : Gh) : Prop := ∀ b o, G.F b = some o → G'.F b = some o
/-- behind a statement that began at Gs -/
structure KD (G0 : Gh) (H0 : Hp) (Gs : Gh) (DV : VEnds) (D : Ends) : Prop where
  nx : ∀ σ H G S, Rel G0 H0 G H σ S → Mono Gs G → DV.nx S → D.nx σ H
  rt : ∀ v H G sv, Ext G0 H0 G H → RepV H0 H0 G H v sv → sv.isRet → DV.rt sv → D.rt v H
  bk : ∀ σ H G S, Rel G0 H0 G H σ S → Mono Gs G → DV.bk S → D.bk σ H
  ct : ∀ σ H G S, Rel G0 H0 G H σ S → Mono Gs G → DV.ct S → D.ct σ H
theorem KD.go {G0 Gs G : Gh} {H0 : Hp} {DV : VEnds} {D : Ends} (k : KD G0 H0 Gs DV D) (m : Mono Gs G) : KD G0 H0 G DV D :=
  ⟨fun σ H G' S R m' q => k.nx σ H G' S R (fun b o h => m' b o (m b o h)) q, k.rt, fun σ H G' S R m' q => k.bk σ H G' S R (fun b o h => m' b o (m b o h)) q, fun σ H G' S R m' q => k.ct σ H G' S R (fun b o h => m' b o (m b o h)) q⟩
def TSV (G0 : Gh) (H0 : Hp) (g : GS) : TS := fun D σ H => ∃ G S DV, Rel G0 H0 G H σ S ∧ g DV S ∧ KD G0 H0 G DV D
structure VS (X : Cx) (st : Stmt) (g : GS) : Prop where
  ps : ∀ G0 H0, PS X st (TSV G0 H0 g)
structure VSs (X : Cx) (st : List Stmt) (g : GS) : Prop where
  pss : ∀ G0 H0, PSs X st (TSV G0 H0 g)
section
variable {X : Cx} {st : Stmt} {sts : List Stmt} {e : Expr} {ge : GE} {g g' : GS} {pos : Pos}
theorem psMono {t t' : TS} (h : PS X st t) (k : ∀ D σ H, t' D σ H → t D σ H) : PS X st t' := ⟨fun pins s σ H D I q => h.run pins s σ H D I (k D σ H q)⟩
theorem pssMono {t t' : TS} (h : PSs X sts t) (k : ∀ D σ H, t' D σ H → t D σ H) : PSs X sts t' := ⟨fun pins s σ H D I q => h.run pins s σ H D I (k D σ H q)⟩
@[simp] def gNext : GS := fun D S => D.nx S
def gSeq (g g' : GS) : GS := fun D S => g { D with nx := g' D } S
theorem vss_nil : VSs X [] gNext := ⟨fun G0 H0 => pssMono pss_nil fun D σ H ⟨G, S, DV, R, q, k⟩ => k.nx σ H G S R (fun _ _ h => h) q⟩
theorem vss_cons (h1 : VS X st g) (h2 : VSs X sts g') : VSs X (st :: sts) (gSeq g g') :=
  ⟨fun G0 H0 => pssMono (pss_cons (h1.ps G0 H0) (h2.pss G0 H0)) fun D σ H ⟨G, S, DV, R, q, k⟩ => ⟨G, S, _, R, q, fun σ' H' G' S' R' m q' => ⟨G', S', DV, R', q', k.go m⟩, k.rt, k.bk, k.ct⟩⟩
theorem vss_one (h1 : VS X st g) : VSs X [st] g := ⟨fun G0 H0 => pss_one (h1.ps G0 H0)⟩
@[simp] def gBreak : GS := fun D S => D.bk S
@[simp] def gCont : GS := fun D S => D.ct S
theorem vs_pass : VS X (.Pass pos) gNext := ⟨fun G0 H0 => psMono ps_pass fun D σ H ⟨G, S, DV, R, q, k⟩ => k.nx σ H G S R (fun _ _ h => h) q⟩
theorem vs_break : VS X (.Break pos) gBreak := ⟨fun G0 H0 => psMono ps_break fun D σ H ⟨G, S, DV, R, q, k⟩ => k.bk σ H G S R (fun _ _ h => h) q⟩
theorem vs_cont : VS X (.Continue pos) gCont := ⟨fun G0 H0 => psMono ps_continue fun D σ H ⟨G, S, DV, R, q, k⟩ => k.ct σ H G S R (fun _ _ h => h) q⟩
@[simp] def gDrop (ge : GE) : GS := fun D S => ge S fun _ => D.nx S
theorem vs_expr (he : VE X e ge) (hs : swapsWith e none pos.line X.env = pure false := by rfl) : VS X (.Expr e pos) (gDrop ge) :=
  ⟨fun G0 H0 => psMono (ps_expr (he.pe G0 H0) hs) fun D σ H ⟨G, S, DV, R, q, k⟩ => ⟨G, S, _, R, q, fun v H1 G1 sv E1 r1 q1 => k.nx σ H1 G1 S (R.go E1) E1.frz q1⟩⟩
@[simp] def gRet (ge : GE) : GS := fun D S => ge S fun sv => sv.isRet ∧ D.rt sv
theorem vs_ret (he : VE X e ge) : VS X (.Return (some e) pos) (gRet ge) :=
  ⟨fun G0 H0 => psMono (ps_ret (he.pe G0 H0)) fun D σ H ⟨G, S, DV, R, q, k⟩ => ⟨G, S, _, R, q, fun v H1 G1 sv E1 r1 q1 => k.rt v H1 G1 sv (R.ext.trans E1) (r1.back fun _ z => R.ext.dom z) q1.1 q1.2⟩⟩
/-- return x, x's own object goes out -/
@[simp] def gRetName (i : Nat) : GS := fun D S => ∃ sv, S[i]? = some (some sv) ∧ sv.isRet ∧ D.rt sv
theorem vs_retName (i : Nat) {x : Str} {p : Pos} (hN : X.N[i]? = some x := by rfl) (hv : Vis X.env.scope x := by first | exact Or.inl rfl | exact Or.inr (Or.inl rfl) | exact Or.inr (Or.inr rfl)) (hd : (x == ("__debug__" : Str)) = false := by decide)
    (hcd : (x == ("__classdict__" : Str)) = false := by decide) : VS X (.Return (some (.Name x p)) pos) (gRetName i) :=
  ⟨fun G0 H0 => psMono (ps_ret (pe_var hN hv hd hcd)) fun D σ H ⟨G, S, DV, R, q, k⟩ => by
    obtain ⟨sv, e, ir, q⟩ := q
    obtain ⟨v, e1, r⟩ := R.slot i sv e
    exact ⟨v, e1, k.rt v H G sv R.ext r ir q⟩⟩
@[simp] def gRetN : GS := fun D _ => D.rt (.tr .non)
theorem vs_retN : VS X (.Return none pos) gRetN := ⟨fun G0 H0 => psMono ps_retN fun D σ H ⟨G, S, DV, R, q, k⟩ => k.rt .non H G (.tr .non) R.ext rfl trivial q⟩
@[simp] def gIfS (gc : GT) (g g' : GS) : GS := fun D S => gc S fun b => if b = true then g D S else g' D S
theorem vs_if {c : Expr} {a b : List Stmt} {gc : GT} (hc : VC X c gc) (ha : VSs X a g) (hb : VSs X b g') : VS X (.If c a b pos) (gIfS gc g g') :=
  ⟨fun G0 H0 => psMono (ps_if (hc.pt G0 H0) (ha.pss G0 H0) (hb.pss G0 H0)) fun D σ H ⟨G, S, DV, R, q, k⟩ => ⟨G, S, _, R, q, fun b H1 G1 E1 q1 => by
    cases b with
    | true =>
      rw [if_pos rfl] at q1 ⊢
      exact ⟨G1, S, DV, R.go E1, q1, k.go E1.frz⟩
    | false =>
      rw [if_neg Bool.false_ne_true] at q1 ⊢
      exact ⟨G1, S, DV, R.go E1, q1, k.go E1.frz⟩⟩⟩
/-- x = e -/
@[simp] def gSet (i : Nat) (ge : GE) : GS := fun D S => ge S fun sv => sv.ok ∧ D.nx (S.set i (some sv))
theorem vs_set {i : Nat} {x : Str} {pos' : Pos} (hN : X.N.Nodup) (hi : X.N[i]? = some x) (hx : Loc X.env.scope x) (he : VE X e ge) (hs : swapsWith e (some (.Name x pos')) pos.line X.env = pure false := by rfl) (hf : X.fn x = true ∨ X.env.scope.names.lookup x = some .local := by first | exact .inl rfl | exact .inr rfl | assumption) :
    VS X (.Assign [.Name x pos'] e pos) (gSet i ge) :=
  ⟨fun G0 H0 => psMono (ps_set hN hi hx (he.pe G0 H0) hs hf) fun D σ H ⟨G, S, DV, R, q, k⟩ => ⟨G, S, _, R, q, fun v H1 G1 sv E1 r1 q1 => k.nx _ _ _ _ (R.setE E1 i r1 q1.1) E1.frz q1.2⟩⟩
/-- x = [e for ..], x a local -/
theorem vs_setLc {i : Nat} {y : Str} {py : Pos} {elt tg iter : Expr} {ifs : List Expr} {scope : Scope} {own : List (Str × Nat)} {cpos spos : Pos} {gi : GI} {gg : GG} {gt : GT} {ge : GE} (hc : X.calm = true) (hN : X.N.Nodup) (hy : X.N[i]? = some y) (hyl : X.env.scope.names.lookup y = some .local)
    (hsw : swapsWith (.ListComp elt [⟨tg, iter, ifs, 0⟩] scope cpos) (some (.Name y py)) spos.line X.env = pure true) (hi : VI true X tg iter gi) (ok : BlkOk X.N X.env.scope scope own)
    (hg : ∀ (s : Shared) (H : Hp) (C : Addr) (cl : List (Str × Addr)) (fp : List Addr), VG (X.blk s H scope (compEnvC scope cl C X.env) fp) tg (own.map (·.2)) gg) (ht : ∀ (s : Shared) (H : Hp) (C : Addr) (cl : List (Str × Addr)) (fp : List Addr), VCs (X.blk s H scope (compEnvC scope cl C X.env) fp) ifs gt)
    (he : ∀ (s : Shared) (H : Hp) (C : Addr) (cl : List (Str × Addr)) (fp : List Addr), VE (X.blk s H scope (compEnvC scope cl C X.env) fp) elt ge) (hs : ∀ x, foldedSetIterable iter X.env x = pure x := by intro _; rfl) :
    VS X (.Assign [.Name y py] (.ListComp elt [⟨tg, iter, ifs, 0⟩] scope cpos) spos) (gSet i (gLc gi gg gt ge (own.map (·.2)))) :=
  ⟨fun G0 H0 => psMono (ps_setLc hc hN hy hyl hsw (hi.pi G0 H0) ok (fun s H C cl fp => (hg s H C cl fp).pg G0 H0) (fun s H C cl fp => (ht s H C cl fp).pts G0 H0) (fun s H C cl fp => (he s H C cl fp).pe G0 H0) hs) fun D σ H ⟨G, S, DV, R, q, k⟩ =>
    gLc_t (K := X.K) rfl ⟨G, S, fun sv => sv.ok ∧ DV.nx (S.set i (some sv)), R, q, fun v H1 G1 sv E1 r1 q1 => k.nx _ _ _ _ (R.setE E1 i r1 q1.1) E1.frz q1.2⟩⟩
/-- a target of a tree -/
@[simp] def gAsg (gg : GG) (ge : GE) : GS := fun D S => ge S fun sv => ∃ d, sv = .tr d ∧ gg d S D.nx
theorem vs_asg {tg : Expr} {is : List Nat} {gg : GG} (he : VE X e ge) (hg : VG X tg is gg) (hs : swapsWithSole [tg] e pos.line X.env = pure false := by rfl) (hw : swappedStores [tg] e X.env = pure none := by rfl)
    (h1 : (assignEach [tg] X.env).map (·.2) = [assign tg X.env] := by rfl) : VS X (.Assign [tg] e pos) (gAsg gg ge) :=
  ⟨fun G0 H0 => psMono (ps_asg (he.pe G0 H0) (hg.pg G0 H0) hs hw h1) fun D σ H ⟨G, S, DV, R, q, k⟩ => ⟨G, S, _, R, q, fun v H1 G1 sv E1 r1 q1 => by
    obtain ⟨d, rfl, q1⟩ := q1
    exact ⟨G1, S, d, _, R.go E1, r1, q1, fun σ' S' R' _ q' => k.nx _ _ _ _ R' E1.frz q'⟩⟩⟩
/-- x += e -/
@[simp] def gAug (i : Nat) (gop : D → D → (SV → Prop) → Prop) (ge : GE) : GS := fun D S => ∃ dx, S[i]? = some (some (.tr dx)) ∧ ge S fun sv => gop dx sv.d fun z => z.ok ∧ D.nx (S.set i (some z))
@[simp] def gAugI (f : Int → Int → Int) (i : Nat) (ge : GE) : GS := fun D S => ∃ a, S[i]? = some (some (.tr (.int a))) ∧ ge S fun sv => ∃ b, sv.d = .int b ∧ D.nx (S.set i (some (.tr (.int (f a b)))))
theorem vs_augI {f : Int → Int → Int} {op : Operator} {i : Nat} {x : Str} {pos' : Pos} (ho : PIp X op (ipI f)) (hN : X.N.Nodup) (hi : X.N[i]? = some x) (hx : Loc X.env.scope x) (he : VE X e ge) (hf : X.fn x = true ∨ X.env.scope.names.lookup x = some .local := by first | exact .inl rfl | exact .inr rfl | assumption) :
    VS X (.AugAssign (.Name x pos') op e pos) (gAugI f i ge) :=
  ⟨fun G0 H0 => psMono (ps_aug hN hi hx (he.pe G0 H0) ho hf) fun D σ H ⟨G, S, DV, R, q, k⟩ => by
    obtain ⟨a, ea, q⟩ := q
    obtain ⟨v, e1, r⟩ := R.slot i _ ea
    refine ⟨v, e1, G, S, _, R, q, fun w H1 G1 sv E1 r1 q1 => ?_⟩
    obtain ⟨b, hb, q1⟩ := q1
    have e2 : v = .int a := r
    have e3 : w = .int b := r1.int hb
    subst e2 e3
    exact ⟨a, b, rfl, rfl, k.nx _ H1 G1 _ ((R.go E1).set (Hs := H0) i (show RepV H0 H0 G1 H1 (V.int (f a b)) (.tr (.int (f a b))) from rfl) trivial (fun _ z => z) (fun _ _ _ _ z => by cases z)) E1.frz q1⟩⟩
end
end VT

namespace VT
open PySem PySem.Spec PyProof.Rows L2

/-! ### loops -/
/-- W of what is left -/
def gFor (gi : GI) (gg : GG) (gb : GS) : GS := fun D S => gi S fun ds => ∃ W : List VT.D → VT.S → Prop, W ds S ∧ (∀ S', W [] S' → D.nx S') ∧
  ∀ d r S1, W (d :: r) S1 → gg d S1 fun S2 => gb { nx := W r, rt := D.rt, bk := D.nx, ct := W r } S2
def gWhile (gc : GT) (gb : GS) : GS := fun D S => ∃ W : Nat → VT.S → Prop, (∃ m, W m S) ∧ ∀ m S, W m S → gc S fun b =>
  if b = true then gb { nx := fun S' => ∃ m', m' < m ∧ W m' S', rt := D.rt, bk := D.nx, ct := fun S' => ∃ m', m' < m ∧ W m' S' } S else D.nx S
section
variable {X : Cx} {pos : Pos} {gb : GS}
theorem vs_for {tg iter : Expr} {body : List Stmt} {gi : GI} {is : List Nat} {gg : GG} (hp : PassesOwn (model X.prog X.w) X.A X.env X.xe) (hc : X.calm = true) (hi : VI false X tg iter gi) (hg : VG X tg is gg) (hb : VSs X body gb)
    (hs : ∀ x, foldedSetIterable iter X.env x = pure x := by intro _; rfl) : VS X (.For tg iter body [] pos) (gFor gi gg gb) := by
  refine ⟨fun G0 H0 => psMono (ps_for hp hc (hi.pi G0 H0) (hg.pg G0 H0) (hb.pss G0 H0) hs) fun D σ H ⟨G, S, DV, R, q, k⟩ => ?_⟩
  refine ⟨G, S, _, R, q, fun J H1 G1 ds E1 Y q1 => ?_⟩
  obtain ⟨W, w0, wd, ws⟩ := q1
  refine ⟨fun i m σ H => ∃ G' S', Rel G0 H0 G' H σ S' ∧ Mono G1 G' ∧ W (ds.drop i) S' ∧ m = ds.length - i ∧ i ≤ ds.length, ⟨ds.length, G1, S, R.go E1, fun _ _ h => h, w0, by simp, Nat.zero_le _⟩, ?_⟩
  rintro i m σ2 H2 ⟨G2, S2, R2, M2, w, rfl, hi⟩
  obtain ⟨y1, y2⟩ := Y G2 H2 ⟨R2.ext, M2⟩
  have MG : Mono G G2 := fun b o h => M2 b o (E1.frz b o h)
  by_cases hlt : i < ds.length
  · have hd : ds[i]? = some ds[i] := List.getElem?_eq_getElem hlt
    obtain ⟨go, yl⟩ := y2 i _ hd
    rw [List.drop_eq_getElem_cons hlt] at w
    refine .inr ⟨go, fun σ' H' => ∃ m', m' < ds.length - i ∧ ∃ G' S', Rel G0 H0 G' H' σ' S' ∧ Mono G1 G' ∧ W (ds.drop (i + 1)) S' ∧ m' = ds.length - (i + 1) ∧ i + 1 ≤ ds.length, fun _ _ z => z, fun x H3 yx => ?_⟩
    obtain ⟨G3, E3, rx⟩ := yl x H3 yx
    have M3 : Mono G1 G3 := fun b o h => E3.frz b o (M2 b o h)
    refine ⟨G3, S2, ds[i], _, R2.go E3, rx, ws _ _ _ w, fun σ4 S4 R4 off q4 => ?_⟩
    refine ⟨G3, S4, _, R4, q4, fun σ' H' G' S' R' m' q' => ?_, k.rt, fun σ' H' G' S' R' m' q' => ?_, fun σ' H' G' S' R' m' q' => ?_⟩
    · exact ⟨_, by omega, G', S', R', fun b o h => m' b o (M3 b o h), q', rfl, by omega⟩
    · exact k.nx _ _ _ _ R' (fun b o h => m' b o (E3.frz b o (MG b o h))) q'
    · exact ⟨_, by omega, G', S', R', fun b o h => m' b o (M3 b o h), q', rfl, by omega⟩
  · have e : i = ds.length := by omega
    subst e
    rw [List.drop_length] at w
    exact .inl ⟨y1 _ (Nat.le_refl _), k.nx _ _ _ _ R2 MG (wd _ w)⟩
theorem vs_while {c : Expr} {body : List Stmt} {gc : GT} (hp : PassesOwn (model X.prog X.w) X.A X.env X.xe) (hc : VC X c gc) (hb : VSs X body gb) : VS X (.While c body [] pos) (gWhile gc gb) := by
  refine ⟨fun G0 H0 => psMono (ps_while hp (hc.pt G0 H0) (hb.pss G0 H0)) fun D σ H ⟨G, S, DV, R, q, k⟩ => ?_⟩
  obtain ⟨W, ⟨m0, w0⟩, ws⟩ := q
  refine ⟨fun m σ H => ∃ G' S', Rel G0 H0 G' H σ S' ∧ Mono G G' ∧ W m S', ⟨m0, G, S, R, fun _ _ h => h, w0⟩, ?_⟩
  rintro m σ2 H2 ⟨G2, S2, R2, M2, w⟩
  refine ⟨G2, S2, _, R2, ws m S2 w, fun b H3 G3 E3 q3 => ?_⟩
  have M3 : Mono G G3 := fun b o h => E3.frz b o (M2 b o h)
  cases b with
  | true =>
    rw [if_pos rfl] at q3
    refine iteT ⟨fun σ' H' => ∃ m', m' < m ∧ ∃ G' S', Rel G0 H0 G' H' σ' S' ∧ Mono G G' ∧ W m' S', fun _ _ z => z, ?_⟩
    refine ⟨G3, S2, _, R2.go E3, q3, fun σ' H' G' S' R' m' q' => ?_, k.rt, fun σ' H' G' S' R' m' q' => ?_, fun σ' H' G' S' R' m' q' => ?_⟩
    · obtain ⟨n, hn, wn⟩ := q'
      exact ⟨n, hn, G', S', R', fun b o h => m' b o (M3 b o h), wn⟩
    · exact k.nx _ _ _ _ R' (fun b o h => m' b o (M3 b o h)) q'
    · obtain ⟨n, hn, wn⟩ := q'
      exact ⟨n, hn, G', S', R', fun b o h => m' b o (M3 b o h), wn⟩
  | false =>
    rw [if_neg Bool.false_ne_true] at q3
    exact iteF (k.nx _ _ _ _ (R2.go E3) M3 q3)
end

/-! ### an object of the frame's own: let go, changed -/
theorem cont.mono {F F' H : Hp} {a : Addr} {d : D} (m : ∀ b o, F b = some o → F' b = some o) (h : cont F H a d) : cont F' H a d := by
  cases d with
  | lst ds => obtain ⟨vs, e, r⟩ := h; exact ⟨vs, e, reps.mono m _ _ r⟩
  | dic ds => obtain ⟨vs, e, r⟩ := h; exact ⟨vs, e, repk.mono m _ _ r⟩
  | dit ds => obtain ⟨vs, e, r⟩ := h; exact ⟨vs, e, rept.mono m _ _ r⟩
  | _ => exact h.elim
/-- what is told of a heap stays where nothing but a is written -/
theorem cont.off {F H H' : Hp} {a b : Addr} {d : D} (h : cont F H b d) (k : ∀ o, H b = some o → H' b = some o) : cont F H' b d := by
  cases d with
  | lst ds => obtain ⟨vs, e, r⟩ := h; exact ⟨vs, k _ e, r⟩
  | dic ds => obtain ⟨vs, e, r⟩ := h; exact ⟨vs, k _ e, r⟩
  | dit ds => obtain ⟨vs, e, r⟩ := h; exact ⟨vs, k _ e, r⟩
  | _ => exact h.elim
theorem cont.obj {F H : Hp} {a : Addr} {d : D} (hF : F a = none) (h : cont F H a d) : ∃ o, H a = some o ∧ rep (upd F a o) d (.ref a) := by
  cases d with
  | lst ds => obtain ⟨vs, e, r⟩ := h; exact ⟨_, e, a, vs, rfl, upd_same, reps.mono (upd_mono hF) _ _ r⟩
  | dic ds => obtain ⟨vs, e, r⟩ := h; exact ⟨_, e, a, vs, rfl, upd_same, repk.mono (upd_mono hF) _ _ r⟩
  | dit ds => obtain ⟨vs, e, r⟩ := h; exact ⟨_, e, a, vs, rfl, upd_same, rept.mono (upd_mono hF) _ _ r⟩
  | _ => exact h.elim
theorem Rel.freeze {G0 G : Gh} {H0 H : Hp} {σ : L2.St} {S : S} {i : Nat} {d : D} (R : Rel G0 H0 G H σ S) (e : S[i]? = some (some (.own d))) : ∃ G', Rel G0 H0 G' H σ (S.set i (some (.tr d))) ∧ Mono G G' := by
  obtain ⟨v, e1, r⟩ := R.slot i _ e
  obtain ⟨a, rfl, hn, hF, hb, c⟩ := r
  obtain ⟨o, ho, rd⟩ := c.obj hF
  have m : Mono G ⟨upd G.F a o, G.pb⟩ := upd_mono hF
  refine ⟨⟨upd G.F a o, G.pb⟩, ⟨ext_freeze R.ext hn ho hF hb, by rw [List.length_set]; exact R.len, fun j sv ej => ?_, fun j l c c' b e2 e3 e4 e5 => ?_, fun j d ej => ?_⟩, m⟩
  · rcases set_slot ej with ⟨rfl, ej, _⟩ | ⟨hne, ej⟩
    · cases ej
      exact ⟨_, e1, rd⟩
    · obtain ⟨u, e6, r6⟩ := R.slot j sv ej
      refine ⟨u, e6, ?_⟩
      cases sv with
      | tr d' => exact rep.mono m _ _ r6
      | own d' =>
        obtain ⟨b, rfl, q1, q2, q3, q4⟩ := r6
        have hab : b ≠ a := fun z => hne (R.inj i j _ _ a e ej e1 (by rw [e6, z]))
        exact ⟨b, rfl, q1, by show upd G.F a o b = none; rw [upd_ne hab]; exact q2, q3, q4.mono m⟩
      | brw d' => obtain ⟨b, rfl, q1, q2, q3⟩ := r6; exact ⟨b, rfl, q1, q2, q3.mono m⟩
      | pk d' => obtain ⟨b, rfl, q1, q2⟩ := r6; exact ⟨b, rfl, q1, q2.mono m⟩
      | bag => exact r6
  · rcases set_slot e2 with ⟨rfl, e2, _⟩ | ⟨hne, e2⟩
    · cases e2
    · rcases set_slot e3 with ⟨rfl, e3, _⟩ | ⟨hne', e3⟩
      · cases e3
      · exact R.inj j l c c' b e2 e3 e4 e5
  · rcases set_slot ej with ⟨rfl, ej, _⟩ | ⟨hne, ej⟩
    · cases ej
    · exact R.nopk j d ej
/-- the object of slot i is changed -/
theorem Rel.write {G0 G : Gh} {H0 H : Hp} {σ : L2.St} {S : S} {i : Nat} {d d' : D} {a : Addr} {o : HO} (R : Rel G0 H0 G H σ S) (e : S[i]? = some (some (.own d))) (ea : σ[i]? = some (some (.ref a))) (hc : cont G.F (upd H a o) a d') :
    Rel G0 H0 G (upd H a o) σ (S.set i (some (.own d'))) := by
  obtain ⟨v, e1, r⟩ := R.slot i _ e
  rw [ea] at e1
  cases e1
  obtain ⟨a', e2, hn, hF, hb, c⟩ := r
  cases e2
  refine ⟨ext_write R.ext hn hF hb o, by rw [List.length_set]; exact R.len, fun j sv ej => ?_, fun j l c c' b e2 e3 e4 e5 => ?_, fun j d ej => ?_⟩
  · rcases set_slot ej with ⟨rfl, ej, _⟩ | ⟨hne, ej⟩
    · cases ej
      exact ⟨_, ea, a, rfl, hn, hF, hb, hc⟩
    · obtain ⟨u, e6, r6⟩ := R.slot j sv ej
      refine ⟨u, e6, ?_⟩
      have off : ∀ b, b ≠ a → ∀ u, H b = some u → upd H a o b = some u := fun b hba u h => by rw [upd_ne hba]; exact h
      cases sv with
      | tr d' => exact r6
      | own d' =>
        obtain ⟨b, rfl, q1, q2, q3, q4⟩ := r6
        have hab : b ≠ a := fun z => hne (R.inj i j _ _ a e ej ea (by rw [e6, z]))
        exact ⟨b, rfl, q1, q2, q3, q4.off (a := a) (off b hab)⟩
      | brw d' => obtain ⟨b, rfl, q1, q2, q3⟩ := r6; exact ⟨b, rfl, q1, q2, q3.off (a := a) (off b fun z => q1 (by rw [z]; exact hn))⟩
      | pk d' => exact (R.nopk j d' ej).elim
      | bag => exact r6
  · have own_at : ∀ (j : Nat) (c : D), (S.set i (some (.own d')))[j]? = some (some (.own c)) → ∃ c', S[j]? = some (some (.own c')) := fun j c ej => by
      rcases set_slot ej with ⟨rfl, ej, _⟩ | ⟨hne, ej⟩
      · exact ⟨d, e⟩
      · exact ⟨c, ej⟩
    obtain ⟨c1, e2⟩ := own_at j c e2
    obtain ⟨c2, e3⟩ := own_at l c' e3
    exact R.inj j l c1 c2 b e2 e3 e4 e5
  · rcases set_slot ej with ⟨rfl, ej, _⟩ | ⟨hne, ej⟩
    · cases ej
    · exact R.nopk j d ej
section
variable {X : Cx} {st : Stmt} {g : GS} {ge : GE} {pos : Pos}
/-- ahead of a statement slot i's object is let go of -/
@[simp] def gFzS (i : Nat) (g : GS) : GS := fun D S => ∃ d, S[i]? = some (some (.own d)) ∧ g D (S.set i (some (.tr d)))
theorem vs_fz (i : Nat) (h : VS X st g) : VS X st (gFzS i g) :=
  ⟨fun G0 H0 => psMono (h.ps G0 H0) fun D σ H ⟨G, S, DV, R, ⟨d, e, q⟩, k⟩ => let ⟨G', R', m⟩ := R.freeze e; ⟨G', _, DV, R', q, k.go m⟩⟩
/-- x.append(e), x.insert(k, e), x.extend(e): slot i -/
@[simp] def gMutL (i : Nat) (ga : GA) (f : List VT.D → List SV → (List VT.D → Prop) → Prop) : GS := fun D S => ∃ ds0, S[i]? = some (some (.own (.lst ds0))) ∧ ga S fun svs => ∃ ds, S[i]? = some (some (.own (.lst ds))) ∧ f ds svs fun es => D.nx (S.set i (some (.own (.lst es))))
theorem mutL {name : Str} {id : String} {e : Expr} {es : List Expr} {ga : GA} {f : List VT.D → List SV → (List VT.D → Prop) → Prop} {apos cpos p : Pos} {x : Str} (i : Nat) (hN : X.N[i]? = some x) (hv : Vis X.env.scope x) (hd : (x == ("__debug__" : Str)) = false) (hcd : (x == ("__classdict__" : Str)) = false)
    (slot : Slot "list" name id) (hty : typeOf (.builtin id) = pure (.type "method_descriptor"))
    (hm : ∀ (G : Gh) (H H0 Hs : Hp) (a : Addr) (ds : List VT.D) (vs ws : List V) (svs : List SV) (Q : Hp → Prop) (F : List VT.D → Prop), OkG G H → H a = some (.lst vs) → reps G.F ds vs → RepL H0 Hs G H ws svs → f ds svs F → (∀ es us, F es → reps G.F es us → Q (upd H a (.lst us))) → ∃ r, MtR X id r ∧ r (.ref a) ws H (fun _ H' => Q H'))
    (ha : VA X (e :: es) ga) (hbase : attributeBase (.Name x p) name X.env (eval (.Name x p) X.env) = eval (.Name x p) X.env := by rfl)
    (hfew : ((backTo cpos (starEach (e :: es) X.env)).all (fun x => !x.1) && (backToKw cpos (keywordEach [] X.env)).all (fun x => x.1.isSome)
      && decide ((e :: es).length + ([] : List Keyword).length + (if ([] : List Keyword).isEmpty then 0 else 1) < 30)) = true := by rfl)
    (hline : (apos.endLine == cpos.line) = true := by rfl) (hs : starEach (e :: es) X.env = (false, eval e X.env) :: starEach es X.env := by rfl) (hplain : (backTo cpos (starEach es X.env)).any (·.1) = false := by rfl) (hsw : swapsWith (.Call (.Attribute (.Name x p) name apos) (e :: es) [] cpos) none pos.line X.env = pure false := by rfl) :
    VS X (.Expr (.Call (.Attribute (.Name x p) name apos) (e :: es) [] cpos) pos) (gMutL i ga f) := by
  refine ⟨fun G0 H0 => psMono (ps_expr (pe_bm PySem.F.plainAttrs_list slot hty mtr_any (pe_var hN hv hd hcd) (ha.pa G0 H0) hbase hfew hline hs hplain) hsw) fun D σ H ⟨G, S, DV, R, ⟨ds0, e0, q⟩, k⟩ => ?_⟩
  obtain ⟨v, e1, r⟩ := R.slot i _ e0
  obtain ⟨a, rfl, hn, hF, hb, vs0, ea0, _⟩ := r
  refine ⟨.ref a, e1, .inl ⟨rfl, vs0, .of ea0⟩, G, S, _, R, q, fun ws H1 G1 svs E1 r1 q1 => ?_⟩
  obtain ⟨ds, e2, q1⟩ := q1
  have R1 := R.go E1
  obtain ⟨v', e3, r3⟩ := R1.slot i _ e2
  rw [e1] at e3
  cases e3
  obtain ⟨a', ea', hn1, hF1, hb1, vs, ea, rv⟩ := r3
  cases ea'
  refine hm G1 H1 H0 H a ds vs ws svs (fun H' => D.nx σ H') _ E1.ok ea rv r1 q1 fun es us q2 ru => ?_
  exact k.nx _ _ G1 _ (R1.write (a := a) (d' := .lst es) e2 e1 ⟨us, upd_same, ru⟩) E1.frz q2
@[simp] def fAppend (ds : List VT.D) (svs : List SV) (F : List VT.D → Prop) : Prop := ∃ y, svs = [.tr y] ∧ ds.length < sizeLine ∧ F (ds ++ [y])
@[simp] def fInsert (ds : List VT.D) (svs : List SV) (F : List VT.D → Prop) : Prop := ∃ i y, svs = [.tr (.int i), .tr y] ∧ (0 ≤ i ∧ i < 2 ^ 63 ∧ ds.length < sizeLine) ∧ F (ds.take i.toNat ++ [y] ++ ds.drop i.toNat)
@[simp] def fExtend (ds : List VT.D) (svs : List SV) (F : List VT.D → Prop) : Prop := ∃ sv ys, svs = [sv] ∧ sv.d = .lst ys ∧ ds.length + ys.length ≤ sizeLine ∧ F (ds ++ ys)
theorem vs_append {e : Expr} {ga : GA} {apos cpos p : Pos} {x : Str} (i : Nat) (ha : VA X [e] ga) (hN : X.N[i]? = some x := by rfl) (hv : Vis X.env.scope x := by first | exact Or.inl rfl | exact Or.inr (Or.inl rfl) | exact Or.inr (Or.inr rfl)) (hd : (x == ("__debug__" : Str)) = false := by decide) (hcd : (x == ("__classdict__" : Str)) = false := by decide)
    (hbase : attributeBase (.Name x p) "append" X.env (eval (.Name x p) X.env) = eval (.Name x p) X.env := by rfl)
    (hfew : ((backTo cpos (starEach [e] X.env)).all (fun x => !x.1) && (backToKw cpos (keywordEach [] X.env)).all (fun x => x.1.isSome)
      && decide (([e] : List Expr).length + ([] : List Keyword).length + (if ([] : List Keyword).isEmpty then 0 else 1) < 30)) = true := by rfl)
    (hline : (apos.endLine == cpos.line) = true := by rfl) (hs : starEach [e] X.env = (false, eval e X.env) :: starEach [] X.env := by rfl) (hsw : swapsWith (.Call (.Attribute (.Name x p) "append" apos) [e] [] cpos) none pos.line X.env = pure false := by rfl) :
    VS X (.Expr (.Call (.Attribute (.Name x p) "append" apos) [e] [] cpos) pos) (gMutL i ga fAppend) := by
  refine mutL i hN hv hd hcd PySem.F.slot_list_append PySem.F.type_list_append (fun G H H0 Hs a ds vs ws svs Q F ok ea rv r q k => ?_) ha hbase hfew hline hs rfl hsw
  obtain ⟨y, rfl, hz, q⟩ := q
  cases r with
  | cons ry rr _ =>
    cases rr
    exact ⟨_, mt_append, a, vs, _, rfl, rfl, ea, by rw [rv.length]; exact hz, k _ _ q (rv.append (es := [y]) ⟨_, [], rfl, ry, rfl⟩)⟩
theorem vs_insert {e e2 : Expr} {ga : GA} {apos cpos p : Pos} {x : Str} (i : Nat) (ha : VA X [e, e2] ga) (hN : X.N[i]? = some x := by rfl) (hv : Vis X.env.scope x := by first | exact Or.inl rfl | exact Or.inr (Or.inl rfl) | exact Or.inr (Or.inr rfl)) (hd : (x == ("__debug__" : Str)) = false := by decide) (hcd : (x == ("__classdict__" : Str)) = false := by decide)
    (hbase : attributeBase (.Name x p) "insert" X.env (eval (.Name x p) X.env) = eval (.Name x p) X.env := by rfl)
    (hfew : ((backTo cpos (starEach [e, e2] X.env)).all (fun x => !x.1) && (backToKw cpos (keywordEach [] X.env)).all (fun x => x.1.isSome)
      && decide (([e, e2] : List Expr).length + ([] : List Keyword).length + (if ([] : List Keyword).isEmpty then 0 else 1) < 30)) = true := by rfl)
    (hline : (apos.endLine == cpos.line) = true := by rfl) (hs : starEach [e, e2] X.env = (false, eval e X.env) :: starEach [e2] X.env := by rfl) (hplain : (backTo cpos (starEach [e2] X.env)).any (·.1) = false := by rfl) (hsw : swapsWith (.Call (.Attribute (.Name x p) "insert" apos) [e, e2] [] cpos) none pos.line X.env = pure false := by rfl) :
    VS X (.Expr (.Call (.Attribute (.Name x p) "insert" apos) [e, e2] [] cpos) pos) (gMutL i ga fInsert) := by
  refine mutL i hN hv hd hcd PySem.F.slot_list_insert PySem.F.type_list_insert (fun G H H0 Hs a ds vs ws svs Q F ok ea rv r q k => ?_) ha hbase hfew hline hs hplain hsw
  obtain ⟨j, y, rfl, ⟨h0, h1, hz⟩, q⟩ := q
  cases r with
  | cons rj rr _ =>
    cases rr with
    | cons ry rr _ =>
      cases rr
      have ej : _ = V.int j := rj
      subst ej
      exact ⟨_, mt_insert, a, vs, j, _, rfl, rfl, ea, by rw [rv.length]; exact hz, h0, h1, k _ _ q (((rv.take _).append (es := [y]) ⟨_, [], rfl, ry, rfl⟩).append (rv.drop _))⟩
theorem vs_extend {e : Expr} {ga : GA} {apos cpos p : Pos} {x : Str} (i : Nat) (ha : VA X [e] ga) (hN : X.N[i]? = some x := by rfl) (hv : Vis X.env.scope x := by first | exact Or.inl rfl | exact Or.inr (Or.inl rfl) | exact Or.inr (Or.inr rfl)) (hd : (x == ("__debug__" : Str)) = false := by decide) (hcd : (x == ("__classdict__" : Str)) = false := by decide)
    (hbase : attributeBase (.Name x p) "extend" X.env (eval (.Name x p) X.env) = eval (.Name x p) X.env := by rfl)
    (hfew : ((backTo cpos (starEach [e] X.env)).all (fun x => !x.1) && (backToKw cpos (keywordEach [] X.env)).all (fun x => x.1.isSome)
      && decide (([e] : List Expr).length + ([] : List Keyword).length + (if ([] : List Keyword).isEmpty then 0 else 1) < 30)) = true := by rfl)
    (hline : (apos.endLine == cpos.line) = true := by rfl) (hs : starEach [e] X.env = (false, eval e X.env) :: starEach [] X.env := by rfl) (hsw : swapsWith (.Call (.Attribute (.Name x p) "extend" apos) [e] [] cpos) none pos.line X.env = pure false := by rfl) :
    VS X (.Expr (.Call (.Attribute (.Name x p) "extend" apos) [e] [] cpos) pos) (gMutL i ga fExtend) := by
  refine mutL i hN hv hd hcd PySem.F.slot_list_extend PySem.F.type_list_extend (fun G H H0 Hs a ds vs ws svs Q F ok ea rv r q k => ?_) ha hbase hfew hline hs rfl hsw
  obtain ⟨sv, ys, rfl, hd, hz, q⟩ := q
  cases r with
  | cons ry rr _ =>
    cases rr
    obtain ⟨b, zs, rfl, eb, rz⟩ := ry.lst ok hd
    exact ⟨_, mt_extend, a, b, vs, zs, rfl, rfl, ea, eb, by rw [rv.length, rz.length]; exact hz, k _ _ q (rv.append rz)⟩
/-- x[k] = e: slot i -/
@[simp] def gPutL (i : Nat) (ge gk : GE) : GS := fun D S => ge S fun sv => ∃ y ds, sv = .tr y ∧ S[i]? = some (some (.own (.lst ds))) ∧ gk S fun sk => ∃ k j, sk.d = .int k ∧ ixN ds.length k = some j ∧ D.nx (S.set i (some (.own (.lst (ds.set j y)))))
theorem vs_putL {e ke : Expr} {gk : GE} {p spos : Pos} {x : Str} (i : Nat) (he : VE X e ge) (hk : VE X ke gk) (hN : X.N[i]? = some x := by rfl) (hv : Vis X.env.scope x := by first | exact Or.inl rfl | exact Or.inr (Or.inl rfl) | exact Or.inr (Or.inr rfl)) (hd : (x == ("__debug__" : Str)) = false := by decide) (hcd : (x == ("__classdict__" : Str)) = false := by decide)
    (ha : ∀ v, assign (.Subscript (.Name x p) ke spos) X.env v = (do
      let ov ← holding [v] (eval (.Name x p) X.env)
      let iv ← holding [v, ov] (eval ke X.env)
      standAt spos
      holding [v, ov, iv] (setItem ov iv v)
      release [v, ov, iv] []) := by intro _; rfl)
    (hs : swapsWithSole [.Subscript (.Name x p) ke spos] e pos.line X.env = pure false := by rfl) (hw : swappedStores [.Subscript (.Name x p) ke spos] e X.env = pure none := by rfl)
    (h1 : (assignEach [.Subscript (.Name x p) ke spos] X.env).map (·.2) = [assign (.Subscript (.Name x p) ke spos) X.env] := by rfl) :
    VS X (.Assign [.Subscript (.Name x p) ke spos] e pos) (gPutL i ge gk) := by
  refine ⟨fun G0 H0 => psMono (ps_asg (he.pe G0 H0) (pg_sub (pe_var hN hv hd hcd) (hk.pe G0 H0) set_list ha) hs hw h1) fun D σ H ⟨G, S, DV, R, q, k⟩ => ?_⟩
  refine ⟨G, S, _, R, q, fun v H1 G1 sv E1 r1 q1 => ?_⟩
  obtain ⟨y, ds, rfl, e0, q1⟩ := q1
  obtain ⟨u, e1, r⟩ := R.slot i _ e0
  refine ⟨u, e1, G1, S, _, R.go E1, q1, fun sk H2 G2 ssk E2 r2 q2 => ?_⟩
  obtain ⟨n, j, hn, hj, q2⟩ := q2
  have R2 := (R.go E1).go E2
  obtain ⟨u', e3, r3⟩ := R2.slot i _ e0
  rw [e1] at e3
  cases e3
  obtain ⟨a, rfl, _, _, _, vs, ea, rv⟩ := r3
  refine ⟨a, vs, n, j, rfl, r2.int hn, ea, by rw [rv.length]; exact hj, ?_⟩
  exact k.nx _ _ G2 _ (R2.write (a := a) (d' := .lst (ds.set j y)) e0 e1 ⟨_, upd_same, rv.set j (rep.mono E2.frz _ _ r1)⟩) (fun b o h => E2.frz b o (E1.frz b o h)) q2
end
end VT

namespace VT
open PySem PySem.Spec PyProof.Rows L2

/-! ### a, b, c = x, y, z -/
def setV : List Nat → List V → L2.St → L2.St
  | i :: is, v :: vs, σ => setV is vs (σ.set i (some v))
  | _, _, σ => σ
@[simp] def setS : List Nat → List SV → S → S
  | i :: is, v :: vs, S => setS is vs (S.set i (some v))
  | _, _, S => S
theorem Rel.setAll {G0 G : Gh} {H0 H Hs : Hp} (h0 : ∀ b, Hs b = none → H0 b = none) : ∀ (is : List Nat) {vs : List V} {svs : List SV} {σ : L2.St} {S : S}, RepL H0 Hs G H vs svs → Rel G0 H0 G H σ S → (∀ sv ∈ svs, sv.ok) → is.length = svs.length → is.Nodup →
    (∀ a ∈ ownsOf svs vs, ∀ (j : Nat) (c : D), S[j]? = some (some (.own c)) → σ[j]? ≠ some (some (.ref a))) → Rel G0 H0 G H (setV is vs σ) (setS is svs S)
  | [], _, _, _, _, .nil, R, _, _, _, _ => R
  | i :: is, _, _, σ, S, .cons (v := v) (sv := sv) (vs := vs) (svs := svs) r t n, R, hok, hl, nd, ho => by
    rw [List.nodup_cons] at nd
    refine Rel.setAll h0 is t (R.set i r (hok _ (by simp)) h0 fun j d c a e1 e2 hj e3 e4 => ?_) (fun sv h => hok sv (by simp [h])) (by simpa using hl) nd.2 fun a ha j c e1 e2 => ?_
    · subst e1 e2
      exact ho a (by rw [ownsOf]; simp) j c e3 e4
    · rcases set_slot e1 with ⟨rfl, e1, hl'⟩ | ⟨hne, e1⟩
      · rw [List.getElem?_set_self (by rw [← R.len]; exact hl')] at e2
        exact n a c (Option.some.inj (Option.some.inj e2)) (Option.some.inj e1).symm ha
      · rw [List.getElem?_set_ne hne] at e2
        refine ho a ?_ j c e1 e2
        cases sv with
        | own d =>
          obtain ⟨b, rfl, _⟩ := r
          rw [ownsOf]
          exact List.mem_cons_of_mem _ ha
        | _ =>
          rw [ownsOf]
          · exact ha
          · intro _ _ z; cases z
  | _ :: _, _, _, _, _, .nil, _, _, hl, _, _ => by simp at hl
  | [], _, _, _, _, .cons _ _ _, _, _, hl, _, _ => by simp at hl
@[simp] def gPar (is : List Nat) (ga : GA) : GS := fun D S => ga S fun svs => (∀ sv ∈ svs, sv.ok) ∧ is.length = svs.length ∧ D.nx (setS is svs S)
section
variable {X : Cx} {pos : Pos} {ga : GA}
theorem parEnd {G0 G G1 : Gh} {H0 H H1 : Hp} {σ : L2.St} {S : S} {is : List Nat} {vs : List V} {svs : List SV} (R : Rel G0 H0 G H σ S) (E1 : Ext G H G1 H1) (r1 : RepL H0 H G1 H1 vs svs) (hok : ∀ sv ∈ svs, sv.ok) (hl : is.length = svs.length) (nd : is.Nodup) :
    Rel G0 H0 G1 H1 (setV is vs σ) (setS is svs S) := by
  refine Rel.setAll (fun b z => R.ext.dom z) is r1 (R.go E1) hok hl nd fun a ha j c e1 e2 => ?_
  have hn := ownsOf_new r1 a ha
  obtain ⟨v, e3, r3⟩ := R.slot j _ e1
  rw [e2] at e3
  cases e3
  obtain ⟨b, eb, _, _, _, cc⟩ := r3
  cases eb
  exact cc.there hn
theorem repl_pair {H0 Hs : Hp} {G : Gh} {H : Hp} {vs : List V} {x y : SV} (r : RepL H0 Hs G H vs [x, y]) : ∃ v w, vs = [v, w] := by
  cases r with
  | cons _ t _ => cases t with
    | cons _ t _ => cases t; exact ⟨_, _, rfl⟩
theorem repl_trip {H0 Hs : Hp} {G : Gh} {H : Hp} {vs : List V} {x y z : SV} (r : RepL H0 Hs G H vs [x, y, z]) : ∃ u v w, vs = [u, v, w] := by
  cases r with
  | cons _ t _ => cases t with
    | cons _ t _ => cases t with
      | cons _ t _ => cases t; exact ⟨_, _, _, rfl⟩
theorem vs_par2 {i j : Nat} {x y : Str} {a b : Expr} {px py pt : Pos} {kt k2 pt2} (hc : X.calm = true) (hN : X.N.Nodup) (hi : X.N[i]? = some x) (hj : X.N[j]? = some y) (hij : i ≠ j)
    (hx : X.env.scope.names.lookup x = some .local) (hy : X.env.scope.names.lookup y = some .local) (ha : VA X [a, b] ga)
    (hw : swappedStores [.Tuple [.Name x px, .Name y py] kt pt] (.Tuple [a, b] k2 pt2) X.env = pure (some [x, y]))
    (hs : swapsWithSole [.Tuple [.Name x px, .Name y py] kt pt] (.Tuple [a, b] k2 pt2) pos.line X.env = pure false := by rfl) :
    VS X (.Assign [.Tuple [.Name x px, .Name y py] kt pt] (.Tuple [a, b] k2 pt2) pos) (gPar [i, j] ga) := by
  refine ⟨fun G0 H0 => psMono (ps_par hc hN hi hj hij hx hy (ha.pa G0 H0) hw hs) fun D σ H ⟨G, S, DV, R, q, k⟩ => ?_⟩
  refine ⟨G, S, _, R, q, fun vs H1 G1 svs E1 r1 q1 => ?_⟩
  obtain ⟨hok, hl, q1⟩ := q1
  match svs, hl with
  | [s1, s2], hl =>
    obtain ⟨v, w, rfl⟩ := repl_pair r1
    exact ⟨v, w, rfl, k.nx _ _ _ _ (parEnd (is := [i, j]) R E1 r1 hok hl (by simp [hij])) E1.frz q1⟩
theorem vs_par3 {i j l : Nat} {x y z : Str} {a b c : Expr} {px py pz pt : Pos} {kt k2 pt2} (hc : X.calm = true) (hN : X.N.Nodup) (hi : X.N[i]? = some x) (hj : X.N[j]? = some y) (hl : X.N[l]? = some z) (hij : i ≠ j) (hil : i ≠ l) (hjl : j ≠ l)
    (hx : X.env.scope.names.lookup x = some .local) (hy : X.env.scope.names.lookup y = some .local) (hz : X.env.scope.names.lookup z = some .local) (ha : VA X [a, b, c] ga)
    (hw : swappedStores [.Tuple [.Name x px, .Name y py, .Name z pz] kt pt] (.Tuple [a, b, c] k2 pt2) X.env = pure (some [x, y, z]))
    (hs : swapsWithSole [.Tuple [.Name x px, .Name y py, .Name z pz] kt pt] (.Tuple [a, b, c] k2 pt2) pos.line X.env = pure false := by rfl) :
    VS X (.Assign [.Tuple [.Name x px, .Name y py, .Name z pz] kt pt] (.Tuple [a, b, c] k2 pt2) pos) (gPar [i, j, l] ga) := by
  refine ⟨fun G0 H0 => psMono (ps_par3 hc hN hi hj hl hij hil hjl hx hy hz (ha.pa G0 H0) hw hs) fun D σ H ⟨G, S, DV, R, q, k⟩ => ?_⟩
  refine ⟨G, S, _, R, q, fun vs H1 G1 svs E1 r1 q1 => ?_⟩
  obtain ⟨hok, hl, q1⟩ := q1
  match svs, hl with
  | [s1, s2, s3], hl =>
    obtain ⟨u, v, w, rfl⟩ := repl_trip r1
    exact ⟨u, v, w, rfl, k.nx _ _ _ _ (parEnd (is := [i, j, l]) R E1 r1 hok hl (by simp [hij, hil, hjl])) E1.frz q1⟩
/-- names, stored from the left out of a tuple -/
structure VNs (X : Cx) (ts : List Expr) (is : List Nat) : Prop where
  pgs : PGs X ts (fun vs σ H Q => vs.length = is.length ∧ Q (setV is vs σ) H)
theorem vns_nil : VNs X [] [] := ⟨⟨fun pins s σ H vs us Q I r ⟨hl, q⟩ => by
  have e : vs = [] := List.eq_nil_of_length_eq_zero hl
  subst e
  exact pgs_nil.run pins s σ H [] us Q I r ⟨rfl, q⟩⟩⟩
theorem vns_cons {i : Nat} {is : List Nat} {x : Str} {es : List Expr} {p : Pos} (hN : X.N.Nodup) (hi : X.N[i]? = some x) (hx : Loc X.env.scope x) (h2 : VNs X es is) (hf : X.fn x = true ∨ X.env.scope.names.lookup x = some .local := by first | exact .inl rfl | exact .inr rfl | assumption)
    (hs : (assignEach (.Name x p :: es) X.env).map (·.2) = assign (.Name x p) X.env :: (assignEach es X.env).map (·.2) := by rfl) : VNs X (.Name x p :: es) (i :: is) :=
  ⟨⟨fun pins s σ H vs us Q I r ⟨hl, q⟩ => by
    cases vs with
    | nil => cases hl
    | cons v vs => exact (pgs_cons (pg_name hN hi hx hf) h2.pgs hs).run pins s σ H (v :: vs) us Q I r ⟨v, vs, rfl, by simpa using hl, q⟩⟩⟩
theorem vs_parT {es ts : List Expr} {is : List Nat} {kt k2 : Nat} {pt pt2 : Pos} (hc : X.calm = true) (nd : is.Nodup) (ha : VA X es ga) (hn : VNs X ts is) (hz : is.length ≤ sizeLine := by decide) (h1 : (assignEach ts X.env).length = is.length := by rfl) (h2 : (assignEach ts X.env).findIdx? (·.1) = none := by rfl)
    (hw : swappedStores [.Tuple ts kt pt] (.Tuple es k2 pt2) X.env = pure none := by rfl)
    (hs : swapsWithSole [.Tuple ts kt pt] (.Tuple es k2 pt2) pos.line X.env = pure false := by rfl) (h3 : (assignEach [.Tuple ts kt pt] X.env).map (·.2) = [assign (.Tuple ts kt pt) X.env] := by rfl) :
    VS X (.Assign [.Tuple ts kt pt] (.Tuple es k2 pt2) pos) (gPar is ga) := by
  refine ⟨fun G0 H0 => psMono (ps_asg (pe_tup (ha.pa G0 H0)) (pg_tup hc hn.pgs h1 h2) hs hw h3) fun D σ H ⟨G, S, DV, R, q, k⟩ => ?_⟩
  refine ⟨G, S, _, R, q, fun vs H1 G1 svs E1 r1 q1 => ?_⟩
  obtain ⟨hok, hl, q1⟩ := q1
  have hlen := r1.length
  refine ⟨by rw [hlen, ← hl]; exact hz, fun p hp => ⟨p, vs, rfl, .of upd_same, by rw [hlen, hl], by rw [hlen, hl], ?_⟩⟩
  have E2 := ext_new E1.ok hp (.tup vs)
  exact k.nx _ _ _ _ (parEnd R (E1.trans E2) (r1.ext E2) hok hl nd) (fun b o h => E2.frz b o (E1.frz b o h)) q1
end

/-! ### defs -/
/-- what a def answers: its arguments as they are held, and what is wanted of its result -/
abbrev FSp := List SV → (SV → Prop) → Prop
def SV.isArg : SV → Prop
  | .tr _ => True
  | .brw _ => True
  | .bag => True
  | _ => False
def SV.arg : SV → SV
  | .own d => .brw d
  | .pk d => .brw d
  | sv => sv
def spV (F : FSp) : Sp := fun vs H Q _ => ∃ G svs Qs, OkG G H ∧ RepL H H G H vs svs ∧ (∀ sv ∈ svs, sv.isArg) ∧ F svs Qs ∧ ∀ v H' G' sv, Ext G H G' H' → RepV H H G' H' v sv → sv.isRet → Qs sv → Q v H'
theorem RepV.toArg {H0 Hs : Hp} {G : Gh} {H : Hp} {v : V} {sv : SV} (r : RepV H0 Hs G H v sv) : RepV H H G H v sv.arg ∧ sv.arg.isArg := by
  cases sv with
  | tr d => exact ⟨r, trivial⟩
  | own d => obtain ⟨a, e, _, _, nb, c⟩ := r; exact ⟨⟨a, e, c.there, nb, c⟩, trivial⟩
  | brw d => obtain ⟨a, e, _, nb, c⟩ := r; exact ⟨⟨a, e, c.there, nb, c⟩, trivial⟩
  | pk d => obtain ⟨a, e, nb, c⟩ := r; exact ⟨⟨a, e, c.there, nb, c⟩, trivial⟩
  | bag => exact ⟨r, trivial⟩
theorem RepL.toArg {H0 Hs : Hp} {G : Gh} {H : Hp} : ∀ {vs : List V} {svs : List SV}, RepL H0 Hs G H vs svs → RepL H H G H vs (svs.map SV.arg) ∧ ∀ sv ∈ svs.map SV.arg, sv.isArg
  | _, _, .nil => ⟨.nil, fun _ h => nomatch h⟩
  | _, _, .cons (sv := sv) r t n => by
    obtain ⟨h1, h2⟩ := RepL.toArg t
    obtain ⟨h3, h4⟩ := r.toArg
    refine ⟨.cons h3 h1 fun a d _ e => ?_, fun s h => ?_⟩
    · cases sv <;> cases e
    · rcases List.mem_cons.mp h with rfl | h
      · exact h4
      · exact h2 s h
theorem RepL.append {H0 Hs : Hp} {G : Gh} {H : Hp} {vs ws : List V} {svs sws : List SV} (h : RepL H0 Hs G H vs svs) (k : RepL H0 Hs G H ws sws) (ha : ∀ sv ∈ svs, sv.isArg) : RepL H0 Hs G H (vs ++ ws) (svs ++ sws) := by
  induction h with
  | nil => exact k
  | @cons v sv vs svs r t n ih =>
    refine .cons r (ih fun s h => ha s (List.mem_cons_of_mem _ h)) fun a d _ e => ?_
    have := ha sv List.mem_cons_self
    rw [e] at this
    exact this.elim
/-- values that are written: a def's defaults -/
def wrt : D → V → Prop
  | .non, v => v = .non
  | .bl b, v => v = .bl b
  | .int i, v => v = .int i
  | .str x, v => v = .str x ∧ okS x
  | _, _ => False
inductive Wrts : List D → List V → Prop
  | nil : Wrts [] []
  | cons {d : D} {v : V} {ds : List D} {vs : List V} : wrt d v → Wrts ds vs → Wrts (d :: ds) (v :: vs)
theorem wrt.rep {d : D} {v : V} {F : Hp} (h : wrt d v) : rep F d v := by
  cases d <;> first | exact h | exact h.elim
theorem Wrts.repl {G : Gh} {H0 H Hs : Hp} : ∀ {ds : List D} {vs : List V}, Wrts ds vs → RepL H0 Hs G H vs (ds.map SV.tr)
  | _, _, .nil => .nil
  | _, _, .cons h t => .cons h.rep t.repl fun _ _ _ e => by cases e
@[simp] def gCall (F : FSp) (dd : List D) (ga : GA) : GE := fun S Q => ga S fun svs => F (svs.map SV.arg ++ dd.map SV.tr) Q
section
variable {X : Cx} {k : Nat} {f : Addr} {fd : FuncData} {ps : List Str} {F : FSp} {dd : List D} {dvs : List V} {ds : List Value} {x : Str} {p pos : Pos} {e : Expr} {es : List Expr} {ga : GA}
theorem call_end {G0 G G1 : Gh} {H0 H H1 : Hp} {Qs : SV → Prop} {Q : VK} {vs : List V} {svs : List SV} (hd : Wrts dd dvs) (E1 : Ext G H G1 H1) (r1 : RepL H0 H G1 H1 vs svs) (q1 : F (svs.map SV.arg ++ dd.map SV.tr) Qs) (kq : KQ H0 G H Qs Q) (E : XK) : spV F (vs ++ dvs) H1 Q E := by
  obtain ⟨a1, a2⟩ := r1.toArg
  refine ⟨G1, _, _, E1.ok, a1.append hd.repl a2, fun sv h => ?_, q1, fun v H' G' sv E' r' ir q' => ?_⟩
  · rcases List.mem_append.mp h with h | h
    · exact a2 sv h
    · obtain ⟨d, _, rfl⟩ := List.mem_map.mp h
      trivial
  · refine kq v H' G' sv (E1.trans E') ?_ q'
    cases sv with
    | own d => obtain ⟨a, e, hn, z⟩ := r'; exact ⟨a, e, E1.dom hn, z⟩
    | brw d => exact ir.elim
    | pk d => exact ir.elim
    | tr d => exact r'
    | bag => exact r'
theorem ve_call (Fn : FnOk X.prog X.w X.K X.mg X.base CX0 k f fd ps (spV F)) (hr : Room k X.A) (hg : Gl X x) (hm : X.mg x = some (.ref f)) (hk : PySem.W.keepIn X.K (.ref f) = true) (hb : Binds X.K fd ps ds) (hd : Vals dvs ds) (hw : Wrts dd dvs)
    (ha : VA X (e :: es) ga) (hdb : (x == ("__debug__" : Str)) = false := by decide) (he : starEach (e :: es) X.env = (false, eval e X.env) :: starEach es X.env := by rfl) (hpl : (backTo pos (starEach es X.env)).any (·.1) = false := by rfl) :
    VE X (.Call (.Name x p) (e :: es) [] pos) (gCall F dd ga) :=
  ⟨fun G0 H0 => peMono (pe_call Fn hr hg hm hk hb hd pass0 (ha.pa G0 H0) hdb he hpl) fun σ H Q ⟨G, S, Qs, R, q, kq⟩ => ⟨G, S, _, R, q, fun vs H1 G1 svs E1 r1 q1 => call_end (G0 := G0) hw E1 r1 q1 kq E0⟩⟩
theorem ve_call0 (Fn : FnOk X.prog X.w X.K X.mg X.base CX0 k f fd ps (spV F)) (hr : Room k X.A) (hg : Gl X x) (hm : X.mg x = some (.ref f)) (hk : PySem.W.keepIn X.K (.ref f) = true) (hb : Binds X.K fd ps ds) (hd : Vals dvs ds) (hw : Wrts dd dvs)
    (hdb : (x == ("__debug__" : Str)) = false := by decide) : VE X (.Call (.Name x p) [] [] pos) (gCall F dd gaNil) :=
  ⟨fun G0 H0 => peMono (pe_call0 Fn hr hg hm hk hb hd pass0 hdb) fun σ H Q ⟨G, S, Qs, R, q, kq⟩ => call_end (vs := []) (G0 := G0) hw (.refl R.ok) .nil q kq E0⟩
theorem RepL.get {H0 Hs : Hp} {G : Gh} {H : Hp} : ∀ {vs : List V} {svs : List SV} {i : Nat} {sv : SV}, RepL H0 Hs G H vs svs → svs[i]? = some sv → ∃ v, vs[i]? = some v ∧ RepV H0 Hs G H v sv
  | _, _, 0, _, .cons r t _, e => by cases e; exact ⟨_, rfl, r⟩
  | _, _, i + 1, _, .cons r t _, e => RepL.get (i := i) t e
  | _, _, _, _, .nil, e => by simp at e
/-! ### calls with keywords -/
/-- picked by places -/
@[simp] def arr {α : Type} (ix : List Nat) (l : List α) : List α := ix.filterMap fun i => l[i]?
theorem repl_of {H0 Hs : Hp} {G : Gh} {H : Hp} : ∀ {vs : List V} {svs : List SV}, vs.length = svs.length → (∀ sv ∈ svs, sv.isArg) → (∀ (i : Nat) (v : V) (sv : SV), vs[i]? = some v → svs[i]? = some sv → RepV H0 Hs G H v sv) → RepL H0 Hs G H vs svs
  | [], [], _, _, _ => .nil
  | v :: vs, sv :: svs, hl, ha, h => .cons (h 0 v sv rfl rfl) (repl_of (by simpa using hl) (fun s hs => ha s (List.mem_cons_of_mem _ hs)) fun i v sv e1 e2 => h (i + 1) v sv e1 e2) fun a d _ e => by
    have := ha sv List.mem_cons_self
    rw [e] at this
    exact this.elim
  | [], _ :: _, hl, _, _ => by simp at hl
  | _ :: _, [], hl, _, _ => by simp at hl
theorem RepL.arr {H0 Hs : Hp} {G : Gh} {H : Hp} {vs : List V} {svs : List SV} (r : RepL H0 Hs G H vs svs) (ha : ∀ sv ∈ svs, sv.isArg) : ∀ ix : List Nat, RepL H0 Hs G H (arr ix vs) (arr ix svs) ∧ ∀ sv ∈ arr ix svs, sv.isArg
  | [] => ⟨.nil, fun _ h => nomatch h⟩
  | i :: ix => by
    obtain ⟨h1, h2⟩ := RepL.arr r ha ix
    unfold VT.arr at h1 h2 ⊢
    rw [List.filterMap_cons, List.filterMap_cons]
    by_cases hi : i < svs.length
    · have e2 : svs[i]? = some svs[i] := List.getElem?_eq_getElem hi
      obtain ⟨v, e1, rv⟩ := r.get e2
      rw [e1, e2]
      have hm : svs[i] ∈ svs := List.getElem_mem hi
      refine ⟨.cons rv h1 fun a d _ e => ?_, fun s hs => ?_⟩
      · have := ha _ hm
        rw [e] at this
        exact this.elim
      · rcases List.mem_cons.mp hs with rfl | hs
        · exact ha _ hm
        · exact h2 s hs
    · rw [List.getElem?_eq_none (by rw [r.length]; omega), List.getElem?_eq_none (by omega)]
      exact ⟨h1, h2⟩
structure VKw (X : Cx) (kws : List Keyword) (g : GA) : Prop where
  pk : ∀ G0 H0, PK X kws (TAV G0 H0 g)
theorem pkMono {kws : List Keyword} {t t' : TA} (h : PK X kws t) (k : ∀ σ H Q, t' σ H Q → t σ H Q) : PK X kws t' := ⟨fun pos pins s σ H Q I q => h.run pos pins s σ H Q I (k σ H Q q)⟩
theorem vk_nil : VKw X [] gaNil := ⟨fun G0 H0 => pkMono pk_nil fun σ H Q ⟨G, S, Qs, R, q, k⟩ => k [] H G [] (.refl R.ok) .nil q⟩
theorem vk_cons {kws : List Keyword} {nm : Option Str} {kpos : Pos} {g : GE} {gr : GA} (ha : VE X e g) (hr : VKw X kws gr) : VKw X (⟨nm, e, kpos⟩ :: kws) (gaCons g gr) := by
  refine ⟨fun G0 H0 => pkMono (pk_cons (ha.pe G0 H0) (hr.pk G0 H0)) fun σ H Q ⟨G, S, Qs, R, q, k⟩ => ?_⟩
  refine ⟨G, S, _, R, q, fun v H1 G1 sv E1 r1 q1 => ?_⟩
  refine ⟨G1, S, _, R.go E1, q1, fun vs H2 G2 svs E2 r2 q2 => ?_⟩
  refine k _ _ _ _ (E1.trans E2) (.cons (r1.ext E2) (r2.back fun _ z => E1.dom z) fun a d e1 e2 ha => ?_) q2
  subst e1 e2
  obtain ⟨b, eb, _, _, _, c⟩ := r1
  cases eb
  exact c.there (ownsOf_new r2 _ ha)
/-- how a call with keywords binds: n positional values, the keywords ks, the defaults dvs, picked by places -/
structure KBi (K : PySem.W.Frag) (fd : FuncData) (ps : List Str) (n : Nat) (ks : List Str) (ix : List Nat) (dvs : List V) : Prop where
  to : ∃ ds, Vals dvs ds ∧ ∀ (s : Shared) (us ws : List Value), K.In s.heap → us.length = n → ws.length = ks.length → BindsTo s fd ⟨us, ks.zip ws⟩ (ps.zip (arr ix (us ++ ws ++ ds)))
theorem vals_arr : ∀ {xs : List V} {us : List Value} (ix : List Nat), Vals xs us → Vals (arr ix xs) (arr ix us)
  | _, _, [], _ => .nil
  | xs, us, i :: ix, r => by
    have ih := vals_arr ix r
    unfold VT.arr at ih ⊢
    rw [List.filterMap_cons, List.filterMap_cons]
    by_cases hi : i < xs.length
    · have e1 : xs[i]? = some xs[i] := List.getElem?_eq_getElem hi
      obtain ⟨u, e2, ru⟩ := r.get e1
      rw [e1, e2]
      exact .cons ru ih
    · rw [List.getElem?_eq_none (by omega), List.getElem?_eq_none (by rw [← r.length]; omega)]
      exact ih
@[simp] def gCallK (F : FSp) (n m : Nat) (ix : List Nat) (dd : List D) (ga gk : GA) : GE := fun S Q => ga S fun svs => gk S fun kvs => svs.length = n ∧ kvs.length = m ∧ F (arr ix (svs.map SV.arg ++ kvs.map SV.arg ++ dd.map SV.tr)) Q
theorem callK_end {kws : List Keyword} {gk : GA} {n m : Nat} {ix : List Nat} {G0 : Gh} {H0 : Hp} {σ : L2.St} {H : Hp} {Q : VK} (hw : Wrts dd dvs) (E : XK) (h : TV G0 H0 (gCallK F n m ix dd ga gk) σ H Q) :
    tCallN n m (spV F) (fun vs zs => arr ix (vs ++ zs ++ dvs)) E (TAV G0 H0 ga) (TAV G0 H0 gk) σ H Q := by
  obtain ⟨G, S, Qs, R, q, kq⟩ := h
  refine ⟨G, S, _, R, q, fun vs H1 G1 svs E1 r1 q1 => ?_⟩
  refine ⟨G1, S, _, R.go E1, q1, fun zs H2 G2 szs E2 r2 q2 => ?_⟩
  obtain ⟨l1, l2, q2⟩ := q2
  refine ⟨r1.length.trans l1, r2.length.trans l2, ?_⟩
  obtain ⟨a1, a2⟩ := (r1.ext E2).toArg
  obtain ⟨b1, b2⟩ := r2.toArg
  have dt : ∀ sv ∈ dd.map SV.tr, sv.isArg := fun sv h => by obtain ⟨d, _, rfl⟩ := List.mem_map.mp h; trivial
  have ab : ∀ sv ∈ svs.map SV.arg ++ szs.map SV.arg, sv.isArg := fun sv h => (List.mem_append.mp h).elim (a2 sv) (b2 sv)
  obtain ⟨c1, c2⟩ := (((a1.append b1 a2).append hw.repl ab).arr (fun sv h => (List.mem_append.mp h).elim (ab sv) (dt sv)) ix)
  refine ⟨G2, _, _, E2.ok, c1, c2, q2, fun v H' G' sv E' r' ir q' => ?_⟩
  refine kq v H' G' sv ((E1.trans E2).trans E') ?_ q'
  cases sv with
  | own d => obtain ⟨a, e, hn, z⟩ := r'; exact ⟨a, e, E1.dom (E2.dom hn), z⟩
  | brw d => exact ir.elim
  | pk d => exact ir.elim
  | tr d => exact r'
  | bag => exact r'
theorem ve_callK {kws : List Keyword} {gk : GA} {n : Nat} {ks : List Str} {ix : List Nat} (Fn : FnOk X.prog X.w X.K X.mg X.base CX0 k f fd ps (spV F)) (hr : Room k X.A) (hg : Gl X x) (hm : X.mg x = some (.ref f)) (hk : PySem.W.keepIn X.K (.ref f) = true) (hb : KBi X.K fd ps n ks ix dvs) (hw : Wrts dd dvs)
    (ha : VA X (e :: es) ga) (hkw : VKw X kws gk) (hall : (backToKw pos (keywordEach kws X.env)).all (·.1.isSome) = true := by rfl) (hks : (backToKw pos (keywordEach kws X.env)).filterMap (·.1) = ks := by rfl)
    (hdb : (x == ("__debug__" : Str)) = false := by decide) (he : starEach (e :: es) X.env = (false, eval e X.env) :: starEach es X.env := by rfl)
    (hpl : ((backTo pos (starEach (e :: es) X.env)).any (·.1) || (backToKw pos (keywordEach kws X.env)).any (·.1.isNone)) = false := by rfl) :
    VE X (.Call (.Name x p) (e :: es) kws pos) (gCallK F n ks.length ix dd ga gk) := by
  obtain ⟨ds, rd, hto⟩ := hb.to
  exact ⟨fun G0 H0 => peMono (pe_callN Fn hr hg hm hk (g := fun us ws => arr ix (us ++ ws ++ ds)) (gV := fun vs zs => arr ix (vs ++ zs ++ dvs)) ⟨hto, fun r1 r2 => vals_arr ix ((r1.append r2).append rd)⟩ pass0 (ha.pa G0 H0) (hkw.pk G0 H0) hall hks hdb he hpl) fun σ H Q h => callK_end (kws := kws) hw E0 h⟩
theorem pe_callN0 {CX : CXT} {kws : List Keyword} {tk : TA} {ks : List Str} {sp : Sp} {E : XK} {g : List Value → List Value → List Value} {gV : List V → List V → List V} (Fn : FnOk X.prog X.w X.K X.mg X.base CX k f fd ps sp) (hr : Room k X.A) (hg : Gl X x) (hm : X.mg x = some (.ref f)) (hk : PySem.W.keepIn X.K (.ref f) = true) (hb : KBn X.K fd ps 0 ks g gV) (hx : Passes CX X E)
    (hkw : PK X kws tk) (hall : (backToKw pos (keywordEach kws X.env)).all (·.1.isSome) = true := by rfl) (hks : (backToKw pos (keywordEach kws X.env)).filterMap (·.1) = ks := by rfl)
    (hdb : (x == ("__debug__" : Str)) = false := by decide)
    (hpl : ((backTo pos (starEach [] X.env)).any (·.1) || (backToKw pos (keywordEach kws X.env)).any (·.1.isNone)) = false := by rfl) :
    PE X (.Call (.Name x p) [] kws pos) (tCallN 0 ks.length sp gV E tNil tk) := by
  refine ⟨fun pins s σ H Q I h => ?_⟩
  refine wpAny_Call_Name_kw (ld_glob I hg hm ?_ hdb)
  refine PySem.W.callWith_KW0 (h₀ := X.base) I.ok.mod.kin hk hall ?_ hpl
  refine thn (hkw.run pos pins s σ H _ I h) fun ws s2 ⟨zs, H2, I2, rz, l1, l2, q2⟩ => ⟨I2.kIn, ?_⟩
  rw [hks]
  exact run_fnN (us := []) (vs := []) Fn hr hb hx I2 .nil rz l1 l2 q2
theorem ve_callK0 {kws : List Keyword} {gk : GA} {ks : List Str} {ix : List Nat} (Fn : FnOk X.prog X.w X.K X.mg X.base CX0 k f fd ps (spV F)) (hr : Room k X.A) (hg : Gl X x) (hm : X.mg x = some (.ref f)) (hk : PySem.W.keepIn X.K (.ref f) = true) (hb : KBi X.K fd ps 0 ks ix dvs) (hw : Wrts dd dvs)
    (hkw : VKw X kws gk) (hall : (backToKw pos (keywordEach kws X.env)).all (·.1.isSome) = true := by rfl) (hks : (backToKw pos (keywordEach kws X.env)).filterMap (·.1) = ks := by rfl)
    (hdb : (x == ("__debug__" : Str)) = false := by decide)
    (hpl : ((backTo pos (starEach [] X.env)).any (·.1) || (backToKw pos (keywordEach kws X.env)).any (·.1.isNone)) = false := by rfl) :
    VE X (.Call (.Name x p) [] kws pos) (gCallK F 0 ks.length ix dd gaNil gk) := by
  obtain ⟨ds, rd, hto⟩ := hb.to
  refine ⟨fun G0 H0 => peMono (pe_callN0 Fn hr hg hm hk (g := fun us ws => arr ix (us ++ ws ++ ds)) (gV := fun vs zs => arr ix (vs ++ zs ++ dvs)) ⟨hto, fun r1 r2 => vals_arr ix ((r1.append r2).append rd)⟩ pass0 (hkw.pk G0 H0) hall hks hdb hpl) fun σ H Q h => ?_⟩
  have z := callK_end (kws := kws) (G0 := G0) (H0 := H0) hw E0 h
  obtain ⟨G, S, Qs, R, q, kq⟩ := z
  exact kq [] H G [] (.refl R.ok) .nil q
/-- a constant of the module -/
theorem ve_glob {d : D} {v : V} {u : Value} (hg : Gl X x) (hm : X.mg x = some u) (r : RelV v u) (hw : wrt d v) (hd : (x == ("__debug__" : Str)) = false := by decide) : VE X (.Name x pos) (gC d) := ve_c (pe_glob hg hm r hd) fun _ => hw.rep
end

/-! ### a def's body -/
@[simp] def startS (N : List Str) (svs : List SV) : S := svs.map some ++ List.replicate (N.length - svs.length) none
theorem start_get {α β : Type} {N : List α} {svs : List β} {i : Nat} {sv : β} (h : (svs.map some ++ List.replicate (N.length - svs.length) none)[i]? = some (some sv)) : svs[i]? = some sv := by
  by_cases hi : i < svs.length
  · rw [List.getElem?_append_left (by simpa using hi), List.getElem?_map] at h
    cases e : svs[i]? with
    | none => rw [e] at h; cases h
    | some w => rw [e] at h; cases h; rfl
  · rw [List.getElem?_append_right (by simpa using hi), List.getElem?_replicate] at h
    split at h <;> cases h
theorem Rel.start {G : Gh} {H : Hp} {vs : List V} {svs : List SV} {N : List Str} (ok : OkG G H) (r : RepL H H G H vs svs) (ha : ∀ sv ∈ svs, sv.isArg) : Rel G H G H (L2.start N vs) (startS N svs) := by
  have hl := r.length
  refine ⟨.refl ok, by simp [startS, L2.start, hl], fun i sv e => ?_, fun i j c c' a e => ?_, fun i d e => ?_⟩
  · have e' := start_get e
    obtain ⟨v, hv, rv⟩ := r.get e'
    refine ⟨v, ?_, rv⟩
    unfold L2.start
    have hi : i < vs.length := (List.getElem?_eq_some_iff.mp hv).1
    rw [List.getElem?_append_left (by simpa using hi), List.getElem?_map, hv]
    rfl
  · have e' := start_get e
    exact (ha _ (List.mem_of_getElem? e')).elim
  · have e' := start_get e
    exact (ha _ (List.mem_of_getElem? e')).elim
section
variable {P : Program} {w : World} {K : PySem.W.Frag} {mg : Str → Option Value} {base : Heap} {x qual : Str} {params : Arguments} {body : List Stmt} {scope : Scope} {dvs : List V} {kws : List (Str × V)} {f : Addr} {fd : FuncData} {N ps : List Str} {k : Nat} {g : GS} {Fs : FSp}
theorem fn_ok (F : FunD K x qual params body scope dvs kws f fd) (Sc : FnScope N ps scope)
    (hbody : ∀ (cdv : Value) (A : Around) (outer : List Env) (s : Shared) (H : Hp) (E : XK), Room k (A.deeper (envOfC qual scope s.heap.objs.size f cdv)) → VSs (cxOf CX0 P w K mg base N qual scope f cdv A outer s H E).nox body g)
    (len : ∀ svs Qs, Fs svs Qs → svs.length = ps.length) (spec : ∀ svs Qs, Fs svs Qs → g { nx := fun _ => Qs (.tr .non), rt := Qs } (startS N svs)) : FnOk P w K mg base CX0 (k + 1) f fd ps (spV Fs) := by
  refine F.ok Sc (fun vs H Q E ⟨G, svs, Qs, ok, r, ha, h, z⟩ => r.length.trans (len _ _ h)) (fun cdv A outer s H vs Q E hr h => ?_)
  refine ⟨TSV (Classical.choose h) H g, ((hbody cdv A outer s H E hr).pss _ _).nox, ?_⟩
  obtain ⟨svs, Qs, ok, r, ha, h, z⟩ := Classical.choose_spec h
  refine ⟨_, startS N svs, _, Rel.start ok r ha, spec svs Qs h, fun σ' H' G' S' R' _ q => ?_, fun v H' G' sv E' r' ir q => z v H' G' sv E' r' ir q, fun σ' H' G' S' R' _ q => q.elim, fun σ' H' G' S' R' _ q => q.elim⟩
  exact z .non H' G' (.tr .non) R'.ext rfl trivial q
end
end VT

namespace VT
open PySem PySem.Spec PyProof.Rows L2

/-! ### defs by their data -/
/-- the def d stands behind the top, under its name -/
structure DefAt (K : PySem.W.Frag) (mg : Str → Option Value) (d : He.DefD) : Prop where
  fd : ∃ fd, FunD K d.name d.qual d.params d.body d.scope (d.dvs K) (d.kws K) (He.fAd K d.at_) fd
  mg : mg d.name = some (.ref (He.fAd K d.at_))
/-- .. and answers as F says -/
structure FnV (P : Program) (w : World) (K : PySem.W.Frag) (mg : Str → Option Value) (base : Heap) (d : He.DefD) (k : Nat) (ps : List Str) (F : FSp) : Prop where
  ex : ∃ fd, FunD K d.name d.qual d.params d.body d.scope (d.dvs K) (d.kws K) (He.fAd K d.at_) fd ∧ FnOk P w K mg base CX0 k (He.fAd K d.at_) fd ps (spV F)
  mg : mg d.name = some (.ref (He.fAd K d.at_))
section
variable {P : Program} {w : World} {K : PySem.W.Frag} {mg : Str → Option Value} {base : Heap} {d : He.DefD} {k : Nat} {ps N : List Str} {F : FSp} {g : GS}
theorem fnv_ok (h : DefAt K mg d) (Sc : FnScope N ps d.scope)
    (hbody : ∀ (f : Addr) (cdv : Value) (A : Around) (outer : List Env) (s : Shared) (H : Hp) (E : XK), Room k (A.deeper (envOfC d.qual d.scope s.heap.objs.size f cdv)) → VSs (cxOf CX0 P w K mg base N d.qual d.scope f cdv A outer s H E).nox d.body g)
    (len : ∀ svs Qs, F svs Qs → svs.length = ps.length) (spec : ∀ svs Qs, F svs Qs → g { nx := fun _ => Qs (.tr .non), rt := Qs } (startS N svs)) : FnV P w K mg base d (k + 1) ps F := by
  obtain ⟨⟨fd, hf⟩, hm⟩ := h
  exact ⟨⟨fd, hf, fn_ok hf Sc (fun cdv A outer s H E hr => hbody _ cdv A outer s H E hr) len spec⟩, hm⟩
theorem FnV.mono {j : Nat} (h : FnV P w K mg base d k ps F) (hj : k ≤ j) : FnV P w K mg base d j ps F := by
  obtain ⟨⟨fd, hf, hk⟩, hm⟩ := h
  exact ⟨⟨fd, hf, hk.mono hj⟩, hm⟩
theorem FnV.imp {F' : FSp} (h : FnV P w K mg base d k ps F) (hF : ∀ svs Q, F' svs Q → F svs Q) : FnV P w K mg base d k ps F' := by
  obtain ⟨⟨fd, hf, hk⟩, hm⟩ := h
  exact ⟨⟨fd, hf, hk.imp fun vs H Q E ⟨G, svs, Qs, ok, r, ha, q, z⟩ => ⟨G, svs, Qs, ok, r, ha, hF _ _ q, z⟩⟩, hm⟩
end
section
variable {X : Cx} {d : He.DefD} {k : Nat} {ps ks : List Str} {F : FSp} {x : Str} {p pos : Pos} {e : Expr} {es : List Expr} {ga gk : GA} {kws : List Keyword}
/-- f(e, ..), no defaults -/
theorem ve_cv (h : FnV X.prog X.w X.K X.mg X.base d k ps F) (hr : Room k X.A) (hd : d.dfl = []) (hk : d.kwd = []) (hx : x = d.name)
    (hb : ∀ (kV doc pm : Value) (an : Option Addr) (cdv ct : Value) (us : List Value), us.length = ps.length → bindArgs (PySem.W.fnOf d.name d.qual d.params d.body d.scope .none kV doc pm an cdv ct) ⟨us, []⟩ = pure (ps.zip us))
    (hg : Gl X x) (ha : VA X (e :: es) ga) (hdb : (x == ("__debug__" : Str)) = false := by decide) (he : starEach (e :: es) X.env = (false, eval e X.env) :: starEach es X.env := by rfl) (hpl : (backTo pos (starEach es X.env)).any (·.1) = false := by rfl) :
    VE X (.Call (.Name x p) (e :: es) [] pos) (gCall F [] ga) := by
  obtain ⟨⟨fd, hf, hF⟩, hm⟩ := h
  have e1 : d.dvs X.K = [] := by unfold He.DefD.dvs; rw [hd]; rfl
  have e2 : d.kws X.K = [] := by unfold He.DefD.kws; rw [hk]; rfl
  have kp := hf.kp
  rw [e1] at hf
  have b := hf.bindsN hb
  subst hx
  exact ve_call hF hr hg hm kp b .nil .nil ha hdb he hpl
theorem ve_cv0 (h : FnV X.prog X.w X.K X.mg X.base d k ps F) (hr : Room k X.A) (hd : d.dfl = []) (hk : d.kwd = []) (hx : x = d.name)
    (hb : ∀ (kV doc pm : Value) (an : Option Addr) (cdv ct : Value) (us : List Value), us.length = ps.length → bindArgs (PySem.W.fnOf d.name d.qual d.params d.body d.scope .none kV doc pm an cdv ct) ⟨us, []⟩ = pure (ps.zip us))
    (hg : Gl X x) (hdb : (x == ("__debug__" : Str)) = false := by decide) : VE X (.Call (.Name x p) [] [] pos) (gCall F [] gaNil) := by
  obtain ⟨⟨fd, hf, hF⟩, hm⟩ := h
  have e1 : d.dvs X.K = [] := by unfold He.DefD.dvs; rw [hd]; rfl
  have e2 : d.kws X.K = [] := by unfold He.DefD.kws; rw [hk]; rfl
  have kp := hf.kp
  rw [e1] at hf
  have b := hf.bindsN hb
  subst hx
  exact ve_call0 hF hr hg hm kp b .nil .nil hdb
/-- f(e, .., y = e', ..), no defaults -/
theorem kbi_of {K : PySem.W.Frag} {fd : FuncData} {f : Addr} {n : Nat} {ix : List Nat} (hf : FunD K d.name d.qual d.params d.body d.scope [] (d.kws K) f fd)
    (hb : ∀ (kV doc pm : Value) (an : Option Addr) (cdv ct : Value) (us ws : List Value), us.length = n → ws.length = ks.length → bindArgs (PySem.W.fnOf d.name d.qual d.params d.body d.scope .none kV doc pm an cdv ct) ⟨us, ks.zip ws⟩ = pure (ps.zip (arr ix (us ++ ws)))) : KBi K fd ps n ks ix [] := by
  obtain ⟨oc, od, dV, kV, doc, pm, an, cdv, ct, osl, rfl, lk, hcd, hD, hK⟩ := hf.ex
  rcases hD with ⟨_, rfl⟩ | ⟨e, _⟩
  · exact ⟨[], .nil, fun s us ws _ h1 h2 => by rw [List.append_nil]; exact .of_eq (hb kV doc pm an cdv ct us ws h1 h2)⟩
  · exact absurd rfl e
theorem ve_ck {n : Nat} {ix : List Nat} (h : FnV X.prog X.w X.K X.mg X.base d k ps F) (hr : Room k X.A) (hd : d.dfl = []) (hx : x = d.name)
    (hb : ∀ (kV doc pm : Value) (an : Option Addr) (cdv ct : Value) (us ws : List Value), us.length = n → ws.length = ks.length → bindArgs (PySem.W.fnOf d.name d.qual d.params d.body d.scope .none kV doc pm an cdv ct) ⟨us, ks.zip ws⟩ = pure (ps.zip (arr ix (us ++ ws))))
    (hg : Gl X x) (ha : VA X (e :: es) ga) (hkw : VKw X kws gk) (hall : (backToKw pos (keywordEach kws X.env)).all (·.1.isSome) = true := by rfl) (hks : (backToKw pos (keywordEach kws X.env)).filterMap (·.1) = ks := by rfl)
    (hdb : (x == ("__debug__" : Str)) = false := by decide) (he : starEach (e :: es) X.env = (false, eval e X.env) :: starEach es X.env := by rfl)
    (hpl : ((backTo pos (starEach (e :: es) X.env)).any (·.1) || (backToKw pos (keywordEach kws X.env)).any (·.1.isNone)) = false := by rfl) : VE X (.Call (.Name x p) (e :: es) kws pos) (gCallK F n ks.length ix [] ga gk) := by
  obtain ⟨⟨fd, hf, hF⟩, hm⟩ := h
  have e1 : d.dvs X.K = [] := by unfold He.DefD.dvs; rw [hd]; rfl
  have kp := hf.kp
  rw [e1] at hf
  subst hx
  exact ve_callK hF hr hg hm kp (kbi_of hf hb) .nil ha hkw hall hks hdb he hpl
theorem ve_ck0 {ix : List Nat} (h : FnV X.prog X.w X.K X.mg X.base d k ps F) (hr : Room k X.A) (hd : d.dfl = []) (hx : x = d.name)
    (hb : ∀ (kV doc pm : Value) (an : Option Addr) (cdv ct : Value) (us ws : List Value), us.length = 0 → ws.length = ks.length → bindArgs (PySem.W.fnOf d.name d.qual d.params d.body d.scope .none kV doc pm an cdv ct) ⟨us, ks.zip ws⟩ = pure (ps.zip (arr ix (us ++ ws))))
    (hg : Gl X x) (hkw : VKw X kws gk) (hall : (backToKw pos (keywordEach kws X.env)).all (·.1.isSome) = true := by rfl) (hks : (backToKw pos (keywordEach kws X.env)).filterMap (·.1) = ks := by rfl)
    (hdb : (x == ("__debug__" : Str)) = false := by decide)
    (hpl : ((backTo pos (starEach [] X.env)).any (·.1) || (backToKw pos (keywordEach kws X.env)).any (·.1.isNone)) = false := by rfl) : VE X (.Call (.Name x p) [] kws pos) (gCallK F 0 ks.length ix [] gaNil gk) := by
  obtain ⟨⟨fd, hf, hF⟩, hm⟩ := h
  have e1 : d.dvs X.K = [] := by unfold He.DefD.dvs; rw [hd]; rfl
  have kp := hf.kp
  rw [e1] at hf
  subst hx
  exact ve_callK0 hF hr hg hm kp (kbi_of hf hb) .nil hkw hall hks hdb hpl
end
end VT

namespace VT
open PySem PySem.Spec PyProof.Rows L2
section
variable {X : Cx} {x : Str} {pos : Pos}
theorem ve_gint {i : Int} (h : ∃ t, X.mg x = some (.int i t)) (hg : Gl X x) (hd : (x == ("__debug__" : Str)) = false := by decide) : VE X (.Name x pos) (gC (.int i)) := by
  obtain ⟨t, h⟩ := h
  exact ve_glob (v := .int i) hg h ⟨t, rfl⟩ rfl hd
theorem ve_gstr {z : Str} (h : ∃ t, X.mg x = some (.str z t)) (hg : Gl X x) (ho : okS z := by decide +kernel) (hd : (x == ("__debug__" : Str)) = false := by decide) : VE X (.Name x pos) (gC (.str z)) := by
  obtain ⟨t, h⟩ := h
  exact ve_glob (v := .str z) hg h ⟨t, rfl⟩ ⟨rfl, ho⟩ hd
@[simp] def gNeg (g : GE) : GE := fun S Q => g S fun sv => ∃ i, sv.d = .int i ∧ Q (.tr (.int (-i)))
theorem ve_neg {a : Expr} {g : GE} (ha : VE X a g) : VE X (.UnaryOp .USub a pos) (gNeg g) :=
  ⟨fun G0 H0 => peMono (pe_un un_neg (ha.pe G0 H0)) fun σ H Q ⟨G, S, Qs, R, q, k⟩ => ⟨G, S, _, R, q, fun v H1 G1 sv E1 r1 ⟨i, hi, q1⟩ => ⟨i, r1.int hi, kq_tr (d := .int (-i)) (kq_back E1 k) E1.ok rfl q1⟩⟩⟩
/-- a statement, then the rest, with a word between them -/
def gCut (g g' : GS) : GS := fun D S => ∃ Mid : VT.S → Prop, g { D with nx := Mid } S ∧ ∀ S', Mid S' → g' D S'
theorem vss_cut {st : Stmt} {sts : List Stmt} {g g' : GS} (h1 : VS X st g) (h2 : VSs X sts g') : VSs X (st :: sts) (gCut g g') :=
  ⟨fun G0 H0 => pssMono (pss_cons (h1.ps G0 H0) (h2.pss G0 H0)) fun D σ H ⟨G, S, DV, R, ⟨Mid, q, qm⟩, k⟩ => ⟨G, S, _, R, q, fun σ' H' G' S' R' m q' => ⟨G', S', DV, R', qm S' q', k.go m⟩, k.rt, k.bk, k.ct⟩⟩
end
theorem hu65 {A : Around} {k : Nat} (hr : Room k A) : A.units + 65 < cLine := by have := hr.un; omega

/-! ### what readings come to -/
theorem gName_eq (i : Nat) (S : S) (Q : SV → Prop) {sv : SV} (h : S[i]? = some (some sv)) : gName i S Q ↔ Q sv.look :=
  ⟨fun ⟨s, e, q⟩ => by rw [h] at e; cases e; exact q, fun q => ⟨sv, h, q⟩⟩
@[simp] theorem gName0 (a : SV) (r : S) (Q : SV → Prop) : gName 0 (some a :: r) Q ↔ Q a.look := gName_eq 0 _ Q rfl
@[simp] theorem gName1 (x0 : Option SV) (a : SV) (r : S) (Q : SV → Prop) : gName 1 (x0 :: some a :: r) Q ↔ Q a.look := gName_eq 1 _ Q rfl
@[simp] theorem gName2 (x0 x1 : Option SV) (a : SV) (r : S) (Q : SV → Prop) : gName 2 (x0 :: x1 :: some a :: r) Q ↔ Q a.look := gName_eq 2 _ Q rfl
@[simp] theorem gName3 (x0 x1 x2 : Option SV) (a : SV) (r : S) (Q : SV → Prop) : gName 3 (x0 :: x1 :: x2 :: some a :: r) Q ↔ Q a.look := gName_eq 3 _ Q rfl
@[simp] theorem gName4 (x0 x1 x2 x3 : Option SV) (a : SV) (r : S) (Q : SV → Prop) : gName 4 (x0 :: x1 :: x2 :: x3 :: some a :: r) Q ↔ Q a.look := gName_eq 4 _ Q rfl
@[simp] theorem gName5 (x0 x1 x2 x3 x4 : Option SV) (a : SV) (r : S) (Q : SV → Prop) : gName 5 (x0 :: x1 :: x2 :: x3 :: x4 :: some a :: r) Q ↔ Q a.look := gName_eq 5 _ Q rfl
@[simp] theorem gName6 (x0 x1 x2 x3 x4 x5 : Option SV) (a : SV) (r : S) (Q : SV → Prop) : gName 6 (x0 :: x1 :: x2 :: x3 :: x4 :: x5 :: some a :: r) Q ↔ Q a.look := gName_eq 6 _ Q rfl
@[simp] theorem gName7 (x0 x1 x2 x3 x4 x5 x6 : Option SV) (a : SV) (r : S) (Q : SV → Prop) : gName 7 (x0 :: x1 :: x2 :: x3 :: x4 :: x5 :: x6 :: some a :: r) Q ↔ Q a.look := gName_eq 7 _ Q rfl
@[simp] theorem gName8 (x0 x1 x2 x3 x4 x5 x6 x7 : Option SV) (a : SV) (r : S) (Q : SV → Prop) : gName 8 (x0 :: x1 :: x2 :: x3 :: x4 :: x5 :: x6 :: x7 :: some a :: r) Q ↔ Q a.look := gName_eq 8 _ Q rfl
@[simp] theorem gName9 (x0 x1 x2 x3 x4 x5 x6 x7 x8 : Option SV) (a : SV) (r : S) (Q : SV → Prop) : gName 9 (x0 :: x1 :: x2 :: x3 :: x4 :: x5 :: x6 :: x7 :: x8 :: some a :: r) Q ↔ Q a.look := gName_eq 9 _ Q rfl
end VT

namespace VT
open PySem PySem.Spec PyProof.Rows L2

/-! ### the readings of values, as rules -/
@[simp] theorem sd_tr (d : D) : (SV.d (SV.tr d)) = (d) := rfl
@[simp] theorem slook_tr (d : D) : (SV.look (SV.tr d)) = ((SV.tr d)) := rfl
@[simp] theorem slet_tr (d : D) : (SV.let_ (SV.tr d)) = ((SV.tr d)) := rfl
@[simp] theorem sok_tr (d : D) : (SV.ok (SV.tr d)) = (True) := rfl
@[simp] theorem sarg_tr (d : D) : (SV.arg (SV.tr d)) = ((SV.tr d)) := rfl
@[simp] theorem sisarg_tr (d : D) : (SV.isArg (SV.tr d)) = (True) := rfl
@[simp] theorem sisret_tr (d : D) : (SV.isRet (SV.tr d)) = (True) := rfl
@[simp] theorem sstays_tr (c : Bool) (d : D) : (SV.stays c (SV.tr d)) = (True) := rfl
@[simp] theorem sd_own (d : D) : (SV.d (SV.own d)) = (d) := rfl
@[simp] theorem slook_own (d : D) : (SV.look (SV.own d)) = (SV.pk d) := rfl
@[simp] theorem slet_own (d : D) : (SV.let_ (SV.own d)) = (SV.tr d) := rfl
@[simp] theorem sok_own (d : D) : (SV.ok (SV.own d)) = (True) := rfl
@[simp] theorem sarg_own (d : D) : (SV.arg (SV.own d)) = (SV.brw d) := rfl
@[simp] theorem sisarg_own (d : D) : (SV.isArg (SV.own d)) = (False) := rfl
@[simp] theorem sisret_own (d : D) : (SV.isRet (SV.own d)) = (True) := rfl
@[simp] theorem sstays_own (c : Bool) (d : D) : (SV.stays c (SV.own d)) = (c = true) := rfl
@[simp] theorem sd_brw (d : D) : (SV.d (SV.brw d)) = (d) := rfl
@[simp] theorem slook_brw (d : D) : (SV.look (SV.brw d)) = ((SV.brw d)) := rfl
@[simp] theorem slet_brw (d : D) : (SV.let_ (SV.brw d)) = ((SV.brw d)) := rfl
@[simp] theorem sok_brw (d : D) : (SV.ok (SV.brw d)) = (True) := rfl
@[simp] theorem sarg_brw (d : D) : (SV.arg (SV.brw d)) = ((SV.brw d)) := rfl
@[simp] theorem sisarg_brw (d : D) : (SV.isArg (SV.brw d)) = (True) := rfl
@[simp] theorem sisret_brw (d : D) : (SV.isRet (SV.brw d)) = (False) := rfl
@[simp] theorem sstays_brw (c : Bool) (d : D) : (SV.stays c (SV.brw d)) = (True) := rfl
@[simp] theorem sd_pk (d : D) : (SV.d (SV.pk d)) = (d) := rfl
@[simp] theorem slook_pk (d : D) : (SV.look (SV.pk d)) = ((SV.pk d)) := rfl
@[simp] theorem slet_pk (d : D) : (SV.let_ (SV.pk d)) = ((SV.pk d)) := rfl
@[simp] theorem sok_pk (d : D) : (SV.ok (SV.pk d)) = (False) := rfl
@[simp] theorem sarg_pk (d : D) : (SV.arg (SV.pk d)) = (SV.brw d) := rfl
@[simp] theorem sisarg_pk (d : D) : (SV.isArg (SV.pk d)) = (False) := rfl
@[simp] theorem sisret_pk (d : D) : (SV.isRet (SV.pk d)) = (False) := rfl
@[simp] theorem sstays_pk (c : Bool) (d : D) : (SV.stays c (SV.pk d)) = (c = true) := rfl
@[simp] theorem sd_bag (d : D) : (SV.d SV.bag) = (D.opq) := rfl
@[simp] theorem slook_bag  : (SV.look SV.bag) = (SV.bag) := rfl
@[simp] theorem slet_bag  : (SV.let_ SV.bag) = (SV.bag) := rfl
@[simp] theorem sok_bag  : (SV.ok SV.bag) = (True) := rfl
@[simp] theorem sarg_bag  : (SV.arg SV.bag) = (SV.bag) := rfl
@[simp] theorem sisarg_bag  : (SV.isArg SV.bag) = (True) := rfl
@[simp] theorem sisret_bag  : (SV.isRet SV.bag) = (True) := rfl
@[simp] theorem sstays_bag (c : Bool) : (SV.stays c SV.bag) = (False) := rfl
@[simp] theorem isT_non_bool  : (D.isT D.non Ty.bool) = (false) := rfl
@[simp] theorem isT_non_int  : (D.isT D.non Ty.int) = (false) := rfl
@[simp] theorem isT_non_str  : (D.isT D.non Ty.str) = (false) := rfl
@[simp] theorem isT_non_list  : (D.isT D.non Ty.list) = (false) := rfl
@[simp] theorem isT_non_tuple  : (D.isT D.non Ty.tuple) = (false) := rfl
@[simp] theorem isT_non_dict  : (D.isT D.non Ty.dict) = (false) := rfl
@[simp] theorem kind_non  : (D.kind D.non) = (some "NoneType") := rfl
@[simp] theorem isNon_non  : (D.isNon D.non) = (true) := rfl
@[simp] theorem tru_non  : (D.tru D.non) = (some false) := rfl
@[simp] theorem items_non  : (D.items D.non) = (none) := rfl
@[simp] theorem isT_bl_bool (b : Bool) : (D.isT (D.bl b) Ty.bool) = (true) := rfl
@[simp] theorem isT_bl_int (b : Bool) : (D.isT (D.bl b) Ty.int) = (true) := rfl
@[simp] theorem isT_bl_str (b : Bool) : (D.isT (D.bl b) Ty.str) = (false) := rfl
@[simp] theorem isT_bl_list (b : Bool) : (D.isT (D.bl b) Ty.list) = (false) := rfl
@[simp] theorem isT_bl_tuple (b : Bool) : (D.isT (D.bl b) Ty.tuple) = (false) := rfl
@[simp] theorem isT_bl_dict (b : Bool) : (D.isT (D.bl b) Ty.dict) = (false) := rfl
@[simp] theorem kind_bl (b : Bool) : (D.kind (D.bl b)) = (some "bool") := rfl
@[simp] theorem isNon_bl (b : Bool) : (D.isNon (D.bl b)) = (false) := rfl
@[simp] theorem tru_bl (b : Bool) : (D.tru (D.bl b)) = (some b) := rfl
@[simp] theorem items_bl (b : Bool) : (D.items (D.bl b)) = (none) := rfl
@[simp] theorem isT_int_bool (i : Int) : (D.isT (D.int i) Ty.bool) = (false) := rfl
@[simp] theorem isT_int_int (i : Int) : (D.isT (D.int i) Ty.int) = (true) := rfl
@[simp] theorem isT_int_str (i : Int) : (D.isT (D.int i) Ty.str) = (false) := rfl
@[simp] theorem isT_int_list (i : Int) : (D.isT (D.int i) Ty.list) = (false) := rfl
@[simp] theorem isT_int_tuple (i : Int) : (D.isT (D.int i) Ty.tuple) = (false) := rfl
@[simp] theorem isT_int_dict (i : Int) : (D.isT (D.int i) Ty.dict) = (false) := rfl
@[simp] theorem kind_int (i : Int) : (D.kind (D.int i)) = (some "int") := rfl
@[simp] theorem isNon_int (i : Int) : (D.isNon (D.int i)) = (false) := rfl
@[simp] theorem tru_int (i : Int) : (D.tru (D.int i)) = (some (i != 0)) := rfl
@[simp] theorem items_int (i : Int) : (D.items (D.int i)) = (none) := rfl
@[simp] theorem isT_str_bool (x : Str) : (D.isT (D.str x) Ty.bool) = (false) := rfl
@[simp] theorem isT_str_int (x : Str) : (D.isT (D.str x) Ty.int) = (false) := rfl
@[simp] theorem isT_str_str (x : Str) : (D.isT (D.str x) Ty.str) = (true) := rfl
@[simp] theorem isT_str_list (x : Str) : (D.isT (D.str x) Ty.list) = (false) := rfl
@[simp] theorem isT_str_tuple (x : Str) : (D.isT (D.str x) Ty.tuple) = (false) := rfl
@[simp] theorem isT_str_dict (x : Str) : (D.isT (D.str x) Ty.dict) = (false) := rfl
@[simp] theorem kind_str (x : Str) : (D.kind (D.str x)) = (some "str") := rfl
@[simp] theorem isNon_str (x : Str) : (D.isNon (D.str x)) = (false) := rfl
@[simp] theorem tru_str (x : Str) : (D.tru (D.str x)) = (some (x.length != 0)) := rfl
@[simp] theorem items_str (x : Str) : (D.items (D.str x)) = (some (x.cps.toList.map fun c => D.str ⟨#[c]⟩)) := rfl
@[simp] theorem isT_lst_bool (xs : List D) : (D.isT (D.lst xs) Ty.bool) = (false) := rfl
@[simp] theorem isT_lst_int (xs : List D) : (D.isT (D.lst xs) Ty.int) = (false) := rfl
@[simp] theorem isT_lst_str (xs : List D) : (D.isT (D.lst xs) Ty.str) = (false) := rfl
@[simp] theorem isT_lst_list (xs : List D) : (D.isT (D.lst xs) Ty.list) = (true) := rfl
@[simp] theorem isT_lst_tuple (xs : List D) : (D.isT (D.lst xs) Ty.tuple) = (false) := rfl
@[simp] theorem isT_lst_dict (xs : List D) : (D.isT (D.lst xs) Ty.dict) = (false) := rfl
@[simp] theorem kind_lst (xs : List D) : (D.kind (D.lst xs)) = (some "list") := rfl
@[simp] theorem isNon_lst (xs : List D) : (D.isNon (D.lst xs)) = (false) := rfl
@[simp] theorem tru_lst (xs : List D) : (D.tru (D.lst xs)) = (some (!xs.isEmpty)) := rfl
@[simp] theorem items_lst (xs : List D) : (D.items (D.lst xs)) = (some xs) := rfl
@[simp] theorem isT_tup_bool (xs : List D) : (D.isT (D.tup xs) Ty.bool) = (false) := rfl
@[simp] theorem isT_tup_int (xs : List D) : (D.isT (D.tup xs) Ty.int) = (false) := rfl
@[simp] theorem isT_tup_str (xs : List D) : (D.isT (D.tup xs) Ty.str) = (false) := rfl
@[simp] theorem isT_tup_list (xs : List D) : (D.isT (D.tup xs) Ty.list) = (false) := rfl
@[simp] theorem isT_tup_tuple (xs : List D) : (D.isT (D.tup xs) Ty.tuple) = (true) := rfl
@[simp] theorem isT_tup_dict (xs : List D) : (D.isT (D.tup xs) Ty.dict) = (false) := rfl
@[simp] theorem kind_tup (xs : List D) : (D.kind (D.tup xs)) = (some "tuple") := rfl
@[simp] theorem isNon_tup (xs : List D) : (D.isNon (D.tup xs)) = (false) := rfl
@[simp] theorem tru_tup (xs : List D) : (D.tru (D.tup xs)) = (some (!xs.isEmpty)) := rfl
@[simp] theorem items_tup (xs : List D) : (D.items (D.tup xs)) = (some xs) := rfl
@[simp] theorem isT_dic_bool (kvs : List (Key × D)) : (D.isT (D.dic kvs) Ty.bool) = (false) := rfl
@[simp] theorem isT_dic_int (kvs : List (Key × D)) : (D.isT (D.dic kvs) Ty.int) = (false) := rfl
@[simp] theorem isT_dic_str (kvs : List (Key × D)) : (D.isT (D.dic kvs) Ty.str) = (false) := rfl
@[simp] theorem isT_dic_list (kvs : List (Key × D)) : (D.isT (D.dic kvs) Ty.list) = (false) := rfl
@[simp] theorem isT_dic_tuple (kvs : List (Key × D)) : (D.isT (D.dic kvs) Ty.tuple) = (false) := rfl
@[simp] theorem isT_dic_dict (kvs : List (Key × D)) : (D.isT (D.dic kvs) Ty.dict) = (true) := rfl
@[simp] theorem kind_dic (kvs : List (Key × D)) : (D.kind (D.dic kvs)) = (some "dict") := rfl
@[simp] theorem isNon_dic (kvs : List (Key × D)) : (D.isNon (D.dic kvs)) = (false) := rfl
@[simp] theorem tru_dic (kvs : List (Key × D)) : (D.tru (D.dic kvs)) = (some (!kvs.isEmpty)) := rfl
@[simp] theorem items_dic (kvs : List (Key × D)) : (D.items (D.dic kvs)) = (none) := rfl
@[simp] theorem isT_dit_bool (kvt : List (List Key × D)) : (D.isT (D.dit kvt) Ty.bool) = (false) := rfl
@[simp] theorem isT_dit_int (kvt : List (List Key × D)) : (D.isT (D.dit kvt) Ty.int) = (false) := rfl
@[simp] theorem isT_dit_str (kvt : List (List Key × D)) : (D.isT (D.dit kvt) Ty.str) = (false) := rfl
@[simp] theorem isT_dit_list (kvt : List (List Key × D)) : (D.isT (D.dit kvt) Ty.list) = (false) := rfl
@[simp] theorem isT_dit_tuple (kvt : List (List Key × D)) : (D.isT (D.dit kvt) Ty.tuple) = (false) := rfl
@[simp] theorem isT_dit_dict (kvt : List (List Key × D)) : (D.isT (D.dit kvt) Ty.dict) = (true) := rfl
@[simp] theorem kind_dit (kvt : List (List Key × D)) : (D.kind (D.dit kvt)) = (some "dict") := rfl
@[simp] theorem isNon_dit (kvt : List (List Key × D)) : (D.isNon (D.dit kvt)) = (false) := rfl
@[simp] theorem tru_dit (kvt : List (List Key × D)) : (D.tru (D.dit kvt)) = (none) := rfl
@[simp] theorem items_dit (kvt : List (List Key × D)) : (D.items (D.dit kvt)) = (none) := rfl
@[simp] theorem isT_ins_bool (C : Addr) (fs : List (Str × D)) : (D.isT (D.ins C fs) Ty.bool) = (false) := rfl
@[simp] theorem isT_ins_int (C : Addr) (fs : List (Str × D)) : (D.isT (D.ins C fs) Ty.int) = (false) := rfl
@[simp] theorem isT_ins_str (C : Addr) (fs : List (Str × D)) : (D.isT (D.ins C fs) Ty.str) = (false) := rfl
@[simp] theorem isT_ins_list (C : Addr) (fs : List (Str × D)) : (D.isT (D.ins C fs) Ty.list) = (false) := rfl
@[simp] theorem isT_ins_tuple (C : Addr) (fs : List (Str × D)) : (D.isT (D.ins C fs) Ty.tuple) = (false) := rfl
@[simp] theorem isT_ins_dict (C : Addr) (fs : List (Str × D)) : (D.isT (D.ins C fs) Ty.dict) = (false) := rfl
@[simp] theorem kind_ins (C : Addr) (fs : List (Str × D)) : (D.kind (D.ins C fs)) = (none) := rfl
@[simp] theorem isNon_ins (C : Addr) (fs : List (Str × D)) : (D.isNon (D.ins C fs)) = (false) := rfl
@[simp] theorem tru_ins (C : Addr) (fs : List (Str × D)) : (D.tru (D.ins C fs)) = (none) := rfl
@[simp] theorem items_ins (C : Addr) (fs : List (Str × D)) : (D.items (D.ins C fs)) = (none) := rfl
@[simp] theorem isT_opq_bool  : (D.isT D.opq Ty.bool) = (false) := rfl
@[simp] theorem isT_opq_int  : (D.isT D.opq Ty.int) = (false) := rfl
@[simp] theorem isT_opq_str  : (D.isT D.opq Ty.str) = (false) := rfl
@[simp] theorem isT_opq_list  : (D.isT D.opq Ty.list) = (false) := rfl
@[simp] theorem isT_opq_tuple  : (D.isT D.opq Ty.tuple) = (false) := rfl
@[simp] theorem isT_opq_dict  : (D.isT D.opq Ty.dict) = (false) := rfl
@[simp] theorem kind_opq  : (D.kind D.opq) = (none) := rfl
@[simp] theorem isNon_opq  : (D.isNon D.opq) = (false) := rfl
@[simp] theorem tru_opq  : (D.tru D.opq) = (none) := rfl
@[simp] theorem items_opq  : (D.items D.opq) = (none) := rfl
@[simp] theorem rd_0 (i : Int) (j : Int) (Q : SV → Prop) : (gAdd (D.int i) (D.int j) Q) = (Q (.tr (.int (i + j)))) := rfl
@[simp] theorem rd_1 (x : Str) (y : Str) (Q : SV → Prop) : (gAdd (D.str x) (D.str y) Q) = (x.length + y.length ≤ sizeLine ∧ Q (.tr (.str (x ++ y)))) := rfl
@[simp] theorem rd_2 (xs : List D) (ys : List D) (Q : SV → Prop) : (gAdd (D.lst xs) (D.lst ys) Q) = (xs.length + ys.length ≤ sizeLine ∧ Q (.own (.lst (xs ++ ys)))) := rfl
@[simp] theorem rd_3 (xs : List D) (ys : List D) (Q : SV → Prop) : (gAdd (D.tup xs) (D.tup ys) Q) = (xs.length + ys.length ≤ sizeLine ∧ Q (.tr (.tup (xs ++ ys)))) := rfl
@[simp] theorem rd_4 (CC : Int → Int → Prop) (f : Int → Int → D) (i : Int) (j : Int) (Q : SV → Prop) : (gI CC f (D.int i) (D.int j) Q) = (CC i j ∧ Q (.tr (f i j))) := rfl
@[simp] theorem rd_5 (neg : Bool) (a : Bool) (b : Bool) (Q : SV → Prop) : (gIsB neg (D.bl a) (D.bl b) Q) = (Q (.tr (.bl (if neg then !decide (a = b) else decide (a = b))))) := rfl
@[simp] theorem rd_6 (i : Int) (Q : SV → Prop) : (gAbs [(D.int i)] Q) = (Q (.tr (.int (if i < 0 then -i else i)))) := rfl
@[simp] theorem rd_7 (i : Int) (Q : SV → Prop) : (gInt [(D.int i)] Q) = (Q (.tr (.int i))) := rfl
@[simp] theorem rd_8 (b : Bool) (Q : SV → Prop) : (gInt [(D.bl b)] Q) = (Q (.tr (.int (if b then 1 else 0)))) := rfl
@[simp] theorem rd_9 (i : Int) (j : Int) (Q : SV → Prop) : (gMax [(D.int i),(D.int j)] Q) = (Q (.tr (.int (if j > i then j else i)))) := rfl
@[simp] theorem rd_10 (i : Int) (j : Int) (Q : SV → Prop) : (gMin [(D.int i),(D.int j)] Q) = (Q (.tr (.int (if j < i then j else i)))) := rfl
@[simp] theorem rd_11 (xs : List D) (Q : SV → Prop) : (gListOf [(D.lst xs)] Q) = (Q (.own (.lst xs))) := rfl
@[simp] theorem rd_12 (xs : List D) (Q : SV → Prop) : (gListOf [(D.tup xs)] Q) = (Q (.own (.lst xs))) := rfl
@[simp] theorem rd_13 (xs : List D) (Q : SV → Prop) : (gTupOf [(D.lst xs)] Q) = (Q (.tr (.tup xs))) := rfl
@[simp] theorem rd_14 (xs : List D) (Q : SV → Prop) : (gTupOf [(D.tup xs)] Q) = (Q (.tr (.tup xs))) := rfl
@[simp] theorem rd_15 (i : Int) (j : Int) (Q : SV → Prop) : (gMul (D.int i) (D.int j) Q) = (CMulW i j ∧ Q (.tr (.int (i * j)))) := rfl
@[simp] theorem rd_16 (xs : List D) (k : Int) (Q : SV → Prop) : (gMul (D.lst xs) (D.int k) Q) = ((0 ≤ k ∧ k < 2 ^ 40 ∧ xs.length * k.toNat ≤ sizeLine) ∧ Q (.own (.lst (List.replicate k.toNat xs).flatten))) := rfl
@[simp] theorem rd_17 (x : Str) (k : Int) (Q : SV → Prop) : (gMul (D.str x) (D.int k) Q) = ((0 ≤ k ∧ k ≤ 1000 ∧ x.length ≤ 1000) ∧ Q (.tr (.str (Txt.mul x k)))) := rfl
@[simp] theorem rd_18 (z : Str) (xs : List D) (Q : SV → Prop) : (gJoin (D.str z) [(D.lst xs)] Q) = (∃ ys, strsD xs = some ys ∧ (ys.map (·.length)).sum + ys.length * z.length ≤ 16777216 ∧ okS (Txt.join z ys) ∧ Q (.tr (.str (Txt.join z ys)))) := rfl
@[simp] theorem rd_19 (z : Str) (xs : List D) (Q : SV → Prop) : (gJoin (D.str z) [(D.tup xs)] Q) = (∃ ys, strsD xs = some ys ∧ (ys.map (·.length)).sum + ys.length * z.length ≤ 16777216 ∧ okS (Txt.join z ys) ∧ Q (.tr (.str (Txt.join z ys)))) := rfl
@[simp] theorem rd_20 (T : String) (x : Str) : (tyD T (D.str x)) = (T = "str") := rfl
@[simp] theorem rd_21 (T : String) (xs : List D) : (tyD T (D.lst xs)) = (T = "list") := rfl
@[simp] theorem rd_22 (xs : List D) (Q : SV → Prop) : (gLen [(D.lst xs)] Q) = (Q (.tr (.int xs.length))) := rfl
@[simp] theorem rd_23 (xs : List D) (Q : SV → Prop) : (gLen [(D.tup xs)] Q) = (Q (.tr (.int xs.length))) := rfl
@[simp] theorem rd_24 (x : Str) (Q : SV → Prop) : (gLen [(D.str x)] Q) = (Q (.tr (.int x.length))) := rfl
@[simp] theorem rd_25 (xs : List D) (Q : SV → Prop) : (gAll [(D.lst xs)] Q) = (∃ bs, blsD xs = some bs ∧ Q (.tr (.bl (bs.all id)))) := rfl
@[simp] theorem rd_26 (xs : List D) (Q : SV → Prop) : (gAny [(D.lst xs)] Q) = (∃ bs, blsD xs = some bs ∧ Q (.tr (.bl (bs.any id)))) := rfl
@[simp] theorem rd_27 (xs : List D) (Q : SV → Prop) : (gSum [(D.lst xs)] Q) = (∃ bs, intsD xs = some bs ∧ Q (.tr (.int bs.sum))) := rfl
@[simp] theorem rd_28 (neg : Bool) (d : D) (ys : List D) (Q : SV → Prop) : (gIn neg d (D.lst ys) Q) = (d.dat = true ∧ dats ys = true ∧ d.dep ≤ 60 ∧ deps ys ≤ 60 ∧ Q (.tr (.bl (if neg then !ys.any (fun z => deq z d) else ys.any fun z => deq z d)))) := rfl
@[simp] theorem rd_29 (neg : Bool) (d : D) (ys : List D) (Q : SV → Prop) : (gIn neg d (D.tup ys) Q) = (d.flat = true ∧ ys.all D.flat = true ∧ Q (.tr (.bl (if neg then !ys.any (fun z => deq z d) else ys.any fun z => deq z d)))) := rfl
@[simp] theorem rd_30 (xs : List D) (i : Int) (Q : SV → Prop) : (gIxD (D.lst xs) (D.int i) Q) = (∃ d, atI xs i = some d ∧ Q (.tr d)) := rfl
@[simp] theorem rd_31 (xs : List D) (i : Int) (Q : SV → Prop) : (gIxD (D.tup xs) (D.int i) Q) = (∃ d, atI xs i = some d ∧ Q (.tr d)) := rfl
@[simp] theorem rd_32 (z : Str) (i : Int) (Q : SV → Prop) : (gIxD (D.str z) (D.int i) Q) = (∃ c, atI z.cps.toList i = some c ∧ Q (.tr (.str ⟨#[c]⟩))) := rfl
@[simp] theorem rd_33 (xs : List D) (lo : Option Int) (hi : Option Int) (Q : SV → Prop) : (gSlD (D.lst xs) lo hi Q) = (Q (.own (.lst (cutD xs lo hi)))) := rfl
@[simp] theorem rd_34 (xs : List D) (lo : Option Int) (hi : Option Int) (Q : SV → Prop) : (gSlD (D.tup xs) lo hi Q) = (Q (.tr (.tup (cutD xs lo hi)))) := rfl
@[simp] theorem rd_35 (z : Str) (lo : Option Int) (hi : Option Int) (Q : SV → Prop) : (gSlD (D.str z) lo hi Q) = (Q (.tr (.str (cutS z lo hi)))) := rfl
@[simp] theorem gIn_sign (neg : Bool) (z : Str) (c : Nat) (Q : SV → Prop) : (gIn neg (D.str ⟨#[c]⟩) (D.str z) Q) = (Q (.tr (.bl (if neg then !decide (c ∈ z.cps.toList) else decide (c ∈ z.cps.toList))))) := by
  simp [gIn, sign?]
theorem gSeq_go {g g' : GS} {D : VEnds} {S : S} (h : ∀ R, R = g' D → g { D with nx := R } S) : gSeq g g' D S := h _ rfl
/-! ### comprehensions, loops: what their readings come to -/
inductive All2 {α β : Type} (P : α → β → Prop) : List α → List β → Prop where
  | nil : All2 P [] []
  | cons {a b l m} : P a b → All2 P l m → All2 P (a :: l) (b :: m)
theorem All2.length {α β : Type} {P : α → β → Prop} {l : List α} {m : List β} (h : All2 P l m) : l.length = m.length := by
  induction h with
  | nil => rfl
  | cons _ _ ih => rw [List.length_cons, List.length_cons, ih]
theorem All2.snoc {α β : Type} {P : α → β → Prop} {l : List α} {m : List β} {a : α} {b : β} (h : All2 P l m) (k : P a b) : All2 P (l ++ [a]) (m ++ [b]) := by
  induction h with
  | nil => exact .cons k .nil
  | cons x _ ih => exact .cons x ih
theorem All2.all {α β : Type} {P : α → β → Prop} {R : β → Prop} {l : List α} {m : List β} (h : All2 P l m) (k : ∀ a b, P a b → R b) : ∀ b ∈ m, R b := by
  induction h with
  | nil => intro b hb; cases hb
  | cons x _ ih =>
    intro b hb
    cases hb with
    | head => exact k _ _ x
    | tail _ hb => exact ih b hb
def LcW (gg : GG) (gt : GT) (ge : GE) (vs : List Nat) (S : S) (Q : SV → Prop) (ds : List D) : Prop := ∃ W : List D → List D → Prop, W ds [] ∧ (∀ acc, W [] acc → Q (.own (.lst acc))) ∧
  ∀ d r acc, W (d :: r) acc → gg d (wipeS S vs) fun S2 => gt S2 fun b => if b = true then ge S2 fun sv => ∃ y, sv = .tr y ∧ acc.length < sizeLine ∧ W r (acc ++ [y]) else W r acc
@[simp] theorem gLc_eq (gi : GI) (gg : GG) (gt : GT) (ge : GE) (vs : List Nat) (S : S) (Q : SV → Prop) : gLc gi gg gt ge vs S Q = gi S (LcW gg gt ge vs S Q) := rfl
def ForW (gg : GG) (gb : GS) (D : VEnds) (S : S) (ds : List VT.D) : Prop := ∃ W : List VT.D → VT.S → Prop, W ds S ∧ (∀ S', W [] S' → D.nx S') ∧
  ∀ d r S1, W (d :: r) S1 → gg d S1 fun S2 => gb { nx := W r, rt := D.rt, bk := D.nx, ct := W r } S2
@[simp] theorem gFor_eq (gi : GI) (gg : GG) (gb : GS) (D : VEnds) (S : S) : gFor gi gg gb D S = gi S (ForW gg gb D S) := rfl
section
variable {gg : GG} {gt : GT} {ge : GE} {vs : List Nat} {S : S} {Q : SV → Prop} {ds : List D}
/-- [e for tg in it if t] -/
theorem lcW_filter {α : Type} (g : α → D) (keep : α → Bool) (f : α → D) {as : List α} (hds : ds = as.map g) (hl : as.length ≤ sizeLine) (hs : ∀ a ∈ as, ∀ (R : SV → Prop) (R2 : Prop), (keep a = true → R (.tr (f a))) → (keep a = false → R2) → gg (g a) (wipeS S vs) fun S2 => gt S2 fun b => if b = true then ge S2 R else R2)
    (q : Q (.own (.lst ((as.filter keep).map f)))) : LcW gg gt ge vs S Q ds := by
  subst hds
  refine ⟨fun r acc => ∃ l r', as = l ++ r' ∧ r = r'.map g ∧ acc = (l.filter keep).map f, ⟨[], as, rfl, rfl, rfl⟩, fun acc ⟨l, r', e, er, ea⟩ => ?_, fun d r acc ⟨l, r', e, er, ea⟩ => ?_⟩
  · cases r' with
    | cons _ _ => simp at er
    | nil =>
      rw [List.append_nil] at e
      rw [ea, ← e]
      exact q
  · cases r' with
    | nil => simp at er
    | cons a r' =>
      simp at er
      obtain ⟨rfl, rfl⟩ := er
      have hd : a ∈ as := by rw [e]; simp
      have h2 : (l.filter keep).length ≤ l.length := List.length_filter_le _ _
      have hlen : acc.length < sizeLine := by
        rw [ea, List.length_map]
        rw [e] at hl
        simp at hl
        omega
      exact hs a hd _ _ (fun k => ⟨_, rfl, hlen, l ++ [a], r', by rw [e]; simp, rfl, by rw [ea]; simp [k]⟩) fun k => ⟨l ++ [a], r', by rw [e]; simp, rfl, by rw [ea]; simp [k]⟩
/-- [e for tg in it] -/
theorem lcW_map {α : Type} (g : α → D) (f : α → D) {as : List α} (hds : ds = as.map g) (hl : as.length ≤ sizeLine) (hs : ∀ a ∈ as, ∀ R : SV → Prop, R (.tr (f a)) → gg (g a) (wipeS S vs) fun S2 => ge S2 R)
    (q : Q (.own (.lst (as.map f)))) : LcW gg gYes ge vs S Q ds :=
  lcW_filter g (fun _ => true) f hds hl (fun d hd R R2 h1 h2 => by simpa using hs d hd R (h1 rfl)) (by rw [List.filter_eq_self.mpr fun _ _ => rfl]; exact q)
/-- .. of the items themselves -/
theorem lcW_mapD (f : D → D) (hl : ds.length ≤ sizeLine) (hs : ∀ a ∈ ds, ∀ R : SV → Prop, R (.tr (f a)) → gg a (wipeS S vs) fun S2 => ge S2 R)
    (q : Q (.own (.lst (ds.map f)))) : LcW gg gYes ge vs S Q ds := lcW_map (fun d => d) f (List.map_id' ds).symm hl hs q
/-- items of which only P is known -/
theorem lcW_some (P : D → D → Prop) (hl : ds.length ≤ sizeLine) (hs : ∀ d ∈ ds, ∀ R : SV → Prop, (∀ y, P d y → R (.tr y)) → gg d (wipeS S vs) fun S2 => ge S2 R)
    (q : ∀ ys, All2 P ds ys → Q (.own (.lst ys))) : LcW gg gYes ge vs S Q ds := by
  refine ⟨fun r acc => ∃ l, ds = l ++ r ∧ All2 P l acc, ⟨[], rfl, .nil⟩, fun acc ⟨l, e, ea⟩ => ?_, fun d r acc ⟨l, e, ea⟩ => ?_⟩
  · rw [List.append_nil] at e
    subst e
    exact q _ ea
  · have hd : d ∈ ds := by rw [e]; simp
    have hlen : acc.length < sizeLine := by
      have := ea.length
      rw [e] at hl
      simp at hl
      omega
    simpa using hs d hd (fun sv => ∃ y, sv = .tr y ∧ acc.length < sizeLine ∧ ∃ l, ds = l ++ r ∧ All2 P l (acc ++ [y])) fun y hy => ⟨y, rfl, hlen, l ++ [d], by rw [e]; simp, ea.snoc hy⟩
end
@[simp] theorem le_sizeLine (n : Nat) : (n ≤ sizeLine) = (n ≤ 16777216) := rfl
@[simp] theorem lt_sizeLine (n : Nat) : (n < sizeLine) = (n < 16777216) := rfl
theorem atI_lt {α : Type} {xs : List α} {r : Int} (h0 : 0 ≤ r) (h1 : r < xs.length) : ∃ d, d ∈ xs ∧ atI xs r = some d := by
  have hj : r.toNat < xs.length := by omega
  refine ⟨xs[r.toNat], List.getElem_mem hj, ?_⟩
  unfold atI ixN
  rw [if_pos (by omega), if_pos (by omega)]
  simp
theorem log_lt {n : Nat} (h : n ≤ 10 ^ 40) : n.log2 < 9000 := by
  by_cases h0 : n = 0
  · subst h0; decide
  · rw [Nat.log2_lt h0]
    exact Nat.lt_of_le_of_lt h (Nat.lt_of_lt_of_le (by decide : 10 ^ 40 < 2 ^ 200) (Nat.pow_le_pow_right (by decide) (by decide)))
theorem zipD_eq : ∀ xs ys : List D, zipD xs ys = (xs.zip ys).map fun p => .tup [p.1, p.2]
  | x :: xs, y :: ys => by rw [zipD, List.zip_cons_cons, List.map_cons, zipD_eq xs ys]
  | [], _ => by simp [zipD]
  | _ :: _, [] => by simp [zipD]
def zipR (c : Bool) (Q : List D → Prop) : List SV → Prop := fun svs => ∃ sx sy, svs = [sx, sy] ∧ ((∃ ds es, sx.stays c ∧ sy.stays c ∧ sx.d = .lst ds ∧ sy.d = .lst es ∧ Q (zipD ds es)) ∨ (∃ ds es, sx.d = .tup ds ∧ sy.d = .tup es ∧ Q (zipD ds es)))
@[simp] theorem giZip_eq (c : Bool) (ga : GA) (S : S) (Q : List D → Prop) : giZip c ga S Q = ga S (zipR c Q) := rfl
theorem zipR_lst (c : Bool) (Q : List D → Prop) (x y : SV) (xs ys : List D) (hx : x.d = .lst xs) (hy : y.d = .lst ys) (sx : x.stays c) (sy : y.stays c) : zipR c Q [x, y] ↔ Q (zipD xs ys) := by
  constructor
  · rintro ⟨a, b, e, h⟩
    cases e
    rcases h with ⟨_, _, _, _, e1, e2, h⟩ | ⟨_, _, e1, e2, h⟩ <;> rw [hx] at e1 <;> rw [hy] at e2 <;> cases e1 <;> cases e2
    exact h
  · exact fun h => ⟨x, y, rfl, .inl ⟨xs, ys, sx, sy, hx, hy, h⟩⟩
@[simp] theorem zipR_tup (c : Bool) (Q : List D → Prop) (xs ys : List D) : zipR c Q [.tr (.tup xs), .tr (.tup ys)] ↔ Q (zipD xs ys) := by
  constructor
  · rintro ⟨a, b, e, h⟩
    cases e
    rcases h with ⟨_, _, _, _, e1, e2, h⟩ | ⟨_, _, e1, e2, h⟩ <;> cases e1 <;> cases e2
    exact h
  · exact fun h => ⟨_, _, rfl, .inr ⟨xs, ys, rfl, rfl, h⟩⟩
def enumR (c : Bool) (Q : List D → Prop) : List SV → Prop := fun svs => ∃ sv ds, svs = [sv] ∧ sv.stays c ∧ sv.d = .lst ds ∧ Q (enumD ds)
@[simp] theorem giEnum_eq (c : Bool) (ga : GA) (S : S) (Q : List D → Prop) : giEnum c ga S Q = ga S (enumR c Q) := rfl
theorem enumR_lst (c : Bool) (Q : List D → Prop) (x : SV) (xs : List D) (hx : x.d = .lst xs) (sx : x.stays c) : enumR c Q [x] ↔ Q (enumD xs) := by
  constructor
  · rintro ⟨a, ds, e, _, e1, h⟩
    cases e
    rw [hx] at e1
    cases e1
    exact h
  · exact fun h => ⟨x, xs, rfl, sx, hx, h⟩
@[simp] theorem dat_non : D.dat D.non = true := rfl
@[simp] theorem dep_non : D.dep D.non = 0 := rfl
@[simp] theorem flat_non : D.flat D.non = true := rfl
@[simp] theorem dat_bl (b : Bool) : D.dat (D.bl b) = true := rfl
@[simp] theorem dep_bl (b : Bool) : D.dep (D.bl b) = 0 := rfl
@[simp] theorem flat_bl (b : Bool) : D.flat (D.bl b) = true := rfl
@[simp] theorem dat_int (i : Int) : D.dat (D.int i) = true := rfl
@[simp] theorem dep_int (i : Int) : D.dep (D.int i) = 0 := rfl
@[simp] theorem flat_int (i : Int) : D.flat (D.int i) = true := rfl
@[simp] theorem dat_str (x : Str) : D.dat (D.str x) = true := rfl
@[simp] theorem dep_str (x : Str) : D.dep (D.str x) = 0 := rfl
@[simp] theorem flat_str (x : Str) : D.flat (D.str x) = true := rfl
@[simp] theorem dat_lst (xs : List D) : D.dat (.lst xs) = dats xs := rfl
@[simp] theorem dat_tup (xs : List D) : D.dat (.tup xs) = dats xs := rfl
@[simp] theorem dep_lst (xs : List D) : D.dep (.lst xs) = deps xs + 1 := rfl
@[simp] theorem dep_tup (xs : List D) : D.dep (.tup xs) = deps xs + 1 := rfl
@[simp] theorem dats_nil : dats [] = true := rfl
@[simp] theorem dats_cons (x : D) (xs : List D) : dats (x :: xs) = (x.dat && dats xs) := rfl
@[simp] theorem deps_nil : deps [] = 0 := rfl
@[simp] theorem deps_cons (x : D) (xs : List D) : deps (x :: xs) = max x.dep (deps xs) := rfl
@[simp] theorem deq_bl (a b : Bool) : deq (.bl a) (.bl b) = (a == b) := rfl
@[simp] theorem deq_int (a b : Int) : deq (.int a) (.int b) = (a == b) := rfl
@[simp] theorem deq_str (a b : Str) : deq (.str a) (.str b) = (a == b) := rfl
@[simp] theorem deq_non : deq .non .non = true := rfl
@[simp] theorem deq_lst (xs ys : List D) : deq (.lst xs) (.lst ys) = deqs xs ys := rfl
@[simp] theorem deq_tup (xs ys : List D) : deq (.tup xs) (.tup ys) = deqs xs ys := rfl
@[simp] theorem deqs_nil : deqs [] [] = true := rfl
@[simp] theorem deqs_cons (x y : D) (xs ys : List D) : deqs (x :: xs) (y :: ys) = (deq x y && deqs xs ys) := rfl
@[simp] theorem deqs_nc (y : D) (ys : List D) : deqs [] (y :: ys) = false := rfl
@[simp] theorem deqs_cn (x : D) (xs : List D) : deqs (x :: xs) [] = false := rfl
@[simp] theorem zipR_tt (c : Bool) (Q : List D → Prop) (xs ys : List D) : zipR c Q [.tr (.lst xs), .tr (.lst ys)] ↔ Q (zipD xs ys) := zipR_lst c Q _ _ xs ys rfl rfl trivial trivial
@[simp] theorem zipR_bt (c : Bool) (Q : List D → Prop) (xs ys : List D) : zipR c Q [.brw (.lst xs), .tr (.lst ys)] ↔ Q (zipD xs ys) := zipR_lst c Q _ _ xs ys rfl rfl trivial trivial
@[simp] theorem zipR_tb (c : Bool) (Q : List D → Prop) (xs ys : List D) : zipR c Q [.tr (.lst xs), .brw (.lst ys)] ↔ Q (zipD xs ys) := zipR_lst c Q _ _ xs ys rfl rfl trivial trivial
@[simp] theorem zipR_bb (c : Bool) (Q : List D → Prop) (xs ys : List D) : zipR c Q [.brw (.lst xs), .brw (.lst ys)] ↔ Q (zipD xs ys) := zipR_lst c Q _ _ xs ys rfl rfl trivial trivial
@[simp] theorem enumR_t (c : Bool) (Q : List D → Prop) (xs : List D) : enumR c Q [.tr (.lst xs)] ↔ Q (enumD xs) := enumR_lst c Q _ xs rfl trivial
@[simp] theorem enumR_b (c : Bool) (Q : List D → Prop) (xs : List D) : enumR c Q [.brw (.lst xs)] ↔ Q (enumD xs) := enumR_lst c Q _ xs rfl trivial
/-! lists of up to 4096 items -/
mutual
def D.wid : D → Bool
  | .lst xs | .tup xs => decide (xs.length ≤ 4096) && wids xs
  | _ => true
def wids : List D → Bool
  | [] => true
  | x :: xs => x.wid && wids xs
end
@[simp] theorem wid_lst (xs : List D) : D.wid (.lst xs) = (decide (xs.length ≤ 4096) && wids xs) := rfl
@[simp] theorem wid_tup (xs : List D) : D.wid (.tup xs) = (decide (xs.length ≤ 4096) && wids xs) := rfl
@[simp] theorem wid_non : D.wid .non = true := rfl
@[simp] theorem wid_bl (b : Bool) : D.wid (.bl b) = true := rfl
@[simp] theorem wid_int (b : Int) : D.wid (.int b) = true := rfl
@[simp] theorem wid_str (b : Str) : D.wid (.str b) = true := rfl
@[simp] theorem wids_nil : wids [] = true := rfl
@[simp] theorem wids_cons (x : D) (xs : List D) : wids (x :: xs) = (x.wid && wids xs) := rfl
theorem wids_all {xs : List D} (h : wids xs = true) : ∀ x ∈ xs, x.wid = true := by
  induction xs with
  | nil => intro x hx; cases hx
  | cons y ys ih =>
    intro x hx
    simp at h
    cases hx with
    | head => exact h.1
    | tail _ hx => exact ih h.2 x hx
theorem wids_map {α : Type} {f : α → D} {xs : List α} (h : ∀ x ∈ xs, (f x).wid = true) : wids (xs.map f) = true := by
  induction xs with
  | nil => rfl
  | cons y ys ih => simp [h y, ih fun x hx => h x (List.mem_cons_of_mem _ hx)]
theorem dep_lt_of_mem {xs : List D} {n : Nat} (h : deps xs < n) : ∀ x ∈ xs, x.dep < n := by
  intro x hx
  induction xs with
  | nil => cases hx
  | cons y ys ih =>
    simp at h
    cases hx with
    | head => omega
    | tail _ hx => exact ih (by omega) hx
theorem dats_all {xs : List D} (h : dats xs = true) : ∀ x ∈ xs, x.dat = true := by
  induction xs with
  | nil => intro x hx; cases hx
  | cons y ys ih =>
    intro x hx
    simp at h
    cases hx with
    | head => exact h.1
    | tail _ hx => exact ih h.2 x hx
theorem deps_all {xs : List D} {n : Nat} (h : deps xs ≤ n) : ∀ x ∈ xs, x.dep ≤ n := by
  induction xs with
  | nil => intro x hx; cases hx
  | cons y ys ih =>
    intro x hx
    simp at h
    cases hx with
    | head => omega
    | tail _ hx => exact ih (by omega) x hx
theorem dats_map {α : Type} {f : α → D} {xs : List α} (h : ∀ x ∈ xs, (f x).dat = true) : dats (xs.map f) = true := by
  induction xs with
  | nil => rfl
  | cons y ys ih => simp [h y, ih fun x hx => h x (List.mem_cons_of_mem _ hx)]
theorem deps_map {α : Type} {f : α → D} {xs : List α} {n : Nat} (h : ∀ x ∈ xs, (f x).dep ≤ n) : deps (xs.map f) ≤ n := by
  induction xs with
  | nil => exact Nat.zero_le _
  | cons y ys ih =>
    simp
    have h1 := h y (List.mem_cons_self ..)
    have h2 := ih fun x hx => h x (List.mem_cons_of_mem _ hx)
    omega
theorem FnV.none {P : Program} {w : World} {K : PySem.W.Frag} {mg : Str → Option Value} {base : Heap} {d : He.DefD} {k : Nat} {ps : List Str} (h : DefAt K mg d) : FnV P w K mg base d k ps fun _ _ => False := by
  obtain ⟨⟨fd, hf⟩, hm⟩ := h
  exact ⟨⟨fd, hf, ⟨fun vs H Q E ⟨_, _, _, _, _, _, z, _⟩ => z.elim, fun A outer s H args us vs Q E _ _ _ _ ⟨_, _, _, _, _, _, z, _⟩ => z.elim⟩⟩, hm⟩
end VT

namespace VT
open PySem PySem.Spec PyProof.Rows L2

/-! ### joined texts -/
theorem okS_joinS {sep : Str} (hs : PyData.strOk sep = true) : ∀ {ys : List Str}, (∀ y ∈ ys, PyData.strOk y = true) → PyData.strOk (Str.join sep ys) = true ∧ (Str.join sep ys).length ≤ (ys.map (·.length)).sum + ys.length * sep.length
  | [], _ => ⟨by show PyData.strOk Str.empty = true; decide +kernel, Nat.zero_le _⟩
  | [y], h => ⟨h y (List.mem_cons_self ..), by
    show y.length ≤ _
    simp⟩
  | y :: z :: r, h => by
    obtain ⟨h1, h2⟩ := okS_joinS (ys := z :: r) hs fun x hx => h x (List.mem_cons_of_mem _ hx)
    show PyData.strOk (y ++ sep ++ Str.join sep (z :: r)) = true ∧ (y ++ sep ++ Str.join sep (z :: r)).length ≤ _
    refine ⟨strOk_append (strOk_append (h y (List.mem_cons_self ..)) hs) h1, ?_⟩
    rw [length_append, length_append]
    simp only [List.map_cons, List.sum_cons, List.length_cons, Nat.add_mul, Nat.one_mul] at h2 ⊢
    omega
theorem okS_join {sep : Str} {ys : List Str} (hs : PyData.strOk sep = true) (h : ∀ y ∈ ys, PyData.strOk y = true) (hl : (ys.map (·.length)).sum + ys.length * sep.length ≤ sizeLine) : okS (Txt.join sep ys) ∧ (Txt.join sep ys).length ≤ (ys.map (·.length)).sum + ys.length * sep.length := by
  have e : Txt.join sep ys = Str.join sep ys := by
    show Builtin.Str.glued sep ys = _
    rw [StrLaws.glued_eq_join]
  rw [e]
  obtain ⟨h1, h2⟩ := okS_joinS hs h
  exact ⟨⟨h1, by omega⟩, h2⟩
theorem sum_le {α : Type} (f : α → Nat) (n : Nat) : ∀ {l : List α}, (∀ x ∈ l, f x ≤ n) → (l.map f).sum ≤ l.length * n
  | [], _ => by simp
  | a :: l, h => by
    have h1 := h a (List.mem_cons_self ..)
    have h2 := sum_le f n (l := l) fun x hx => h x (List.mem_cons_of_mem _ hx)
    simp only [List.map_cons, List.sum_cons, List.length_cons, Nat.add_mul, Nat.one_mul]
    omega
theorem strs_of {P : Str → Prop} : ∀ {ds : List D}, (∀ d ∈ ds, ∃ x, d = .str x ∧ P x) → ∃ ys : List Str, ds = ys.map D.str ∧ ∀ y ∈ ys, P y
  | [], _ => ⟨[], rfl, fun _ h => nomatch h⟩
  | d :: ds, h => by
    obtain ⟨x, rfl, hx⟩ := h d (List.mem_cons_self ..)
    obtain ⟨ys, rfl, hy⟩ := strs_of (ds := ds) fun e he => h e (List.mem_cons_of_mem _ he)
    refine ⟨x :: ys, rfl, fun y hm => ?_⟩
    cases hm with
    | head => exact hx
    | tail _ hm => exact hy y hm
theorem strsD_str (ys : List Str) : strsD (ys.map D.str) = some ys := by
  have := strsD_map (fun x : Str => x) ys
  simpa using this
@[simp] theorem rngD_len (lo : Int) (n : Nat) : (rngD lo n).length = n := by simp [rngD]
theorem okS_app {x y : Str} (hx : okS x) (hy : okS y) (h : x.length + y.length ≤ sizeLine) : okS (x ++ y) := ⟨strOk_append hx.1 hy.1, by rw [length_append]; exact h⟩
theorem cutS_len (z : Str) (lo hi : Option Int) : (cutS z lo hi).length ≤ z.length := by
  show (cutS z lo hi).cps.size ≤ z.cps.size
  unfold cutS
  simp
  omega
/-! ### the law's own def: the bag is made, then the rest is read -/
def tEx (g : GS) : TS := fun D σ H => ∃ G0 H0, TSV G0 H0 g D σ H
theorem VSs.ex {X : Cx} {st : List Stmt} {g : GS} (h : VSs X st g) : PSs X st (tEx g) := ⟨fun pins s σ H D I ⟨G0, H0, q⟩ => (h.pss G0 H0).run pins s σ H D I q⟩
def cellsV (ns : List Int) : List V := (ns.take 63).map V.int
def spBag (K : PySem.W.Frag) : Sp := fun vs H Q _ => ∃ (a : Addr) (ns : List Int), vs = [.ref a] ∧ SqL K H a (ns.map V.int) ∧
  ∀ H' c p, H c = none → H p = none → H' c = some (.lst (cellsV ns)) → H' p = some (.lst [.ref c, .int 0, .int 0, .int (10004 + 13 * (cellsV ns).length)]) → (∀ b o, H b = some o → H' b = some o) → Q (.ref p) H'
theorem cut63 (ns : List Int) : cutV (ns.map V.int) none (some 63) = cellsV ns := by
  unfold cutV cellsV HT.sIx
  rw [List.map_take]
  simp
theorem cells_len (ns : List Int) : (cellsV ns).length ≤ 63 := by
  unfold cellsV
  rw [List.length_map, List.length_take]
  omega
/-- one list and the bag over it stand: the rest's reading may begin -/
theorem bag_start {ns : List Int} {H' : Hp} {c p : Addr} {g : GS} {D : Ends} {σ : L2.St} {n : Nat} (hcp : c ≠ p) (hc : H' c = some (.lst (cellsV ns))) (hp : H' p = some (.lst [.ref c, .int 0, .int 0, .int (10004 + 13 * (cellsV ns).length)])) (hσ1 : σ[1]? = some (some (.ref p))) (hσ : σ.length = n + 2)
    (DV : VEnds) (q : g DV (none :: some .bag :: List.replicate n none)) (hnx : ∀ S, DV.nx S → ∀ σ H, D.nx σ H) (hrt : ∀ sv, DV.rt sv → ∀ v H, (∀ G H0, RepV H0 H0 G H v sv → D.rt v H)) (hbk : ∀ S, ¬ DV.bk S) (hct : ∀ S, ¬ DV.ct S) : tEx g D σ H' := by
  have ne : ((fun x => if x = c then some (HO.lst (cellsV ns)) else none : Hp)) p = none := if_neg (Ne.symm hcp)
  have ok : OkG ⟨fun x => if x = c then some (HO.lst (cellsV ns)) else none, some p⟩ H' := by
    refine ⟨fun b o e => ?_, fun q e => ?_⟩
    · have e : (if b = c then some (HO.lst (cellsV ns)) else none) = some o := e
      split at e
      · rename_i hb
        rw [hb, hc]
        exact e
      · cases e
    · have e2 : p = q := Option.some.inj e
      subst e2
      have := cells_len ns
      refine ⟨⟨c, ns.take 63, 0, 0, _, hp, if_pos rfl, by rw [List.length_take]; omega, by omega, by omega, by omega, by omega⟩, ne⟩
  refine ⟨⟨fun x => if x = c then some (.lst (cellsV ns)) else none, some p⟩, H', ⟨fun x => if x = c then some (.lst (cellsV ns)) else none, some p⟩, none :: some .bag :: List.replicate n none, DV, ?_, q, ⟨fun σ H G S _ _ h => hnx S h σ H, fun v H G sv _ r _ h => hrt sv h v H G _ r, fun _ _ _ S _ _ h => (hbk S h).elim, fun _ _ _ S _ _ h => (hct S h).elim⟩⟩
  have hs : ∀ (i : Nat) (sv : SV), (none :: some SV.bag :: List.replicate n (none : Option SV))[i]? = some (some sv) → i = 1 ∧ sv = .bag := by
    intro i sv e
    match i with
    | 0 => simp at e
    | 1 => simp at e; exact ⟨rfl, e.symm⟩
    | i + 2 =>
      simp at e
      rw [List.getElem?_replicate] at e
      split at e <;> cases e
  refine ⟨.refl ok, by simp [hσ], fun i sv e => ?_, fun i j x y a e => ?_, fun i d e => ?_⟩
  · obtain ⟨rfl, rfl⟩ := hs i sv e
    exact ⟨_, hσ1, p, rfl, rfl⟩
  · have := (hs i _ e).2
    cases this
  · have := (hs i _ e).2
    cases this
def spLaw (K : PySem.W.Frag) : Sp := fun vs H Q _ => ∃ (a : Addr) (ns : List Int), vs = [.ref a] ∧ SqL K H a (ns.map V.int) ∧ ∀ H', Q (.bl true) H'
def VLaw : VEnds := { nx := fun _ => False, rt := fun sv => sv = .tr (.bl true) }
section
variable {P : Program} {w : World} {K : PySem.W.Frag} {mg : Str → Option Value} {base : Heap} {d : He.DefD} {k : Nat} {N : List Str} {g : GS}
theorem law_ok (Sc : FnScope ("_law_script" :: "_law_bag_here" :: N) ["_law_script"] d.scope)
    (hbody : ∀ (f : Addr) (cdv : Value) (A : Around) (outer : List Env) (s : Shared) (H : Hp) (E : XK), Room k (A.deeper (envOfC d.qual d.scope s.heap.objs.size f cdv)) →
      PSs (cxOf CX0 P w K mg base ("_law_script" :: "_law_bag_here" :: N) d.qual d.scope f cdv A outer s H E).nox d.body (tSeq (tAsg (tCall (spBag K) [] E0 (tCons (tVar 0) tNil)) (L2.gName 1)) (tEx g)))
    (pure_ : g VLaw (none :: some .bag :: List.replicate N.length none)) :
    ∀ fd, FunD K d.name d.qual d.params d.body d.scope (d.dvs K) (d.kws K) (He.fAd K d.at_) fd → FnOk P w K mg base CX0 (k + 1) (He.fAd K d.at_) fd ["_law_script"] (spLaw K) := by
  intro fd hf
  refine hf.ok Sc (fun vs H Q E ⟨a, ns, e, _⟩ => by rw [e]; rfl) (fun cdv A outer s H vs Q E hr hsp => ⟨_, PSs.nox (hbody _ cdv A outer s H E hr), ?_⟩)
  obtain ⟨a, ns, rfl, hS, hq⟩ := hsp
  refine ⟨_, rfl, ?_⟩
  refine ⟨a, ns, rfl, hS, fun H' c p hc hp ec ep _ => ?_⟩
  have hcp : c ≠ p := fun z => by
    rw [z, ep] at ec

    cases hn : cellsV ns with
    | nil => rw [hn] at ec; cases ec
    | cons x xs =>
      obtain ⟨y, hy⟩ : ∃ y : Int, x = .int y := by
        unfold cellsV at hn
        have hx : x ∈ (ns.take 63).map V.int := by rw [hn]; exact List.mem_cons_self ..
        obtain ⟨y, _, hy⟩ := List.mem_map.mp hx
        exact ⟨y, hy.symm⟩
      rw [hn, hy] at ec
      cases ec
  refine bag_start (n := N.length) hcp ec ep rfl ?_ VLaw pure_ (fun S z => z.elim) (fun sv e v H G H0 r => ?_) (fun _ z => z) (fun _ z => z)
  · simp [L2.start]
  · have e : sv = .tr (.bl true) := e
    subst e
    have e2 : v = .bl true := r
    subst e2
    exact hq _
end
end VT

namespace VT
open PySem PySem.Spec PyProof.Rows L2

/-! ### isinstance with two types; xs[::-1]; {} -/
@[simp] def gIsi2 (T U : Ty) (g : GE) : GE := fun S Q => g S fun sv => sv.d.kind.isSome = true ∧ Q (.tr (.bl (sv.d.isT T || sv.d.isT U)))
section
variable {X : Cx} {e : Expr} {g : GE} {pos p p2 p3 p4 : Pos} {k : Nat}
theorem ve_isi2 (T U : Ty) {x y : Str} (he : VE X e g) (gI : Gl X "isinstance") (mI : X.mg "isinstance" = none) (gT : Gl X x) (mT : X.mg x = none) (hT : bootBuiltins x = some (.type T.nm)) (gU : Gl X y) (mU : X.mg y = none) (hU : bootBuiltins y = some (.type U.nm))
    (hn : x ≠ "__name__" := by decide) (hd : (x == ("__debug__" : Str)) = false := by decide) (hn2 : y ≠ "__name__" := by decide) (hd2 : (y == ("__debug__" : Str)) = false := by decide)
    (h1 : starEach [e, .Tuple [.Name x p2, .Name y p3] k p4] X.env = (false, eval e X.env) :: starEach [.Tuple [.Name x p2, .Name y p3] k p4] X.env := by rfl) (h2 : starEach [.Tuple [.Name x p2, .Name y p3] k p4] X.env = (false, eval (.Tuple [.Name x p2, .Name y p3] k p4) X.env) :: starEach [] X.env := by rfl)
    (h3 : starEach [.Name x p2, .Name y p3] X.env = (false, eval (.Name x p2) X.env) :: starEach [.Name y p3] X.env := by rfl) (h4 : starEach [.Name y p3] X.env = (false, eval (.Name y p3) X.env) :: starEach [] X.env := by rfl)
    (hpl : (backTo pos (starEach [.Tuple [.Name x p2, .Name y p3] k p4] X.env)).any (·.1) = false := by rfl) : VE X (.Call (.Name "isinstance" p) [e, .Tuple [.Name x p2, .Name y p3] k p4] [] pos) (gIsi2 T U g) := by
  refine ⟨fun G0 H0 => peMono (pe_callB call_isiT gI mI (by decide +kernel) (pa_cons (he.pe G0 H0) (pa_cons (pe_tup (pa_cons (pe_bltn (v := .ty T.nm) gT mT hT rfl hn hd) (pa_cons (pe_bltn (v := .ty U.nm) gU mU hU rfl hn2 hd2) pa_nil h4) h3)) pa_nil h2) h1) (by decide) (by decide) h1 hpl) fun σ H Q ⟨G, S, Qs, R, q, k⟩ => ?_⟩
  refine ⟨G, S, _, R, q, fun v H1 G1 sv E1 r1 q1 => ?_⟩
  obtain ⟨hk, q1⟩ := q1
  obtain ⟨n, hn⟩ := Option.isSome_iff_exists.mp hk
  refine ⟨by show 2 ≤ sizeLine; decide, fun t ht => ?_⟩
  have E2 := ext_new E1.ok ht (.tup [.ty T.nm, .ty U.nm])
  refine ⟨v, t, [.ty T.nm, .ty U.nm], .type n, [.type T.nm, .type U.nm], _, rfl, upd_same, .cons (.ty _) (.cons (.ty _) .nil), (r1.ext E2).ty E2.ok hn, ?_, kq_tr (d := .bl _) (kq_back (E1.trans E2) k) E2.ok rfl q1⟩
  refine kitAny_cons (kit_ty (isT_kit sv.d T n hn)) (fun z => ?_) (fun z => by rw [z, Bool.true_or])
  rw [z, Bool.false_or]
  refine kitAny_cons (kit_ty (isT_kit sv.d U n hn)) (fun z => ?_) id
  rw [z]
  exact kitAny_nil
@[simp] def gRev (g : GE) : GE := fun S Q => g S fun sv => ∃ xs, sv.d = .lst xs ∧ Q (.own (.lst xs.reverse))
theorem ve_rev (he : VE X e g) : VE X (.Subscript e (.Slice none none (some (.UnaryOp .USub (.Constant (.int 1) k p) p2)) p3) pos) (gRev g) := by
  refine ⟨fun G0 H0 => peMono (pe_revL (he.pe G0 H0)) fun σ H Q ⟨G, S, Qs, R, q, kq⟩ => ?_⟩
  refine ⟨G, S, _, R, q, fun v H1 G1 sv E1 r1 q1 => ?_⟩
  obtain ⟨xs, hx, q1⟩ := q1
  obtain ⟨a, vs, rfl, ea, ra⟩ := r1.lst E1.ok hx
  exact ⟨a, vs, rfl, .of ea, fun t ht => kq_lst (kq_back E1 kq) E1.ok ht ra.reverse q1⟩
@[simp] def gDic0 : GE := fun S Q => Q (.own (.dic []))
theorem ve_dic0 : VE X (.Dict [] [] pos) gDic0 :=
  ⟨fun G0 H0 => peMono pe_dnewK fun σ H Q ⟨G, S, Qs, R, q, kq⟩ t ht => kq_dic (ds := []) (vs := []) kq R.ok ht rfl q⟩
end
/-- a parameter that is only looked at -/
structure IsA (sv : SV) (d : D) : Prop where
  look : sv.look = sv
  d : sv.d = d
  st : ∀ c, sv.stays c
@[simp] theorem isA_tr (x d : D) : IsA (.tr x) d ↔ x = d := ⟨fun h => h.d, fun h => ⟨rfl, h, fun _ => trivial⟩⟩
@[simp] theorem isA_brw (x d : D) : IsA (.brw x) d ↔ x = d := ⟨fun h => h.d, fun h => ⟨rfl, h, fun _ => trivial⟩⟩
theorem zipR_isa {c : Bool} {Q : List D → Prop} {x y : SV} {xs ys : List D} (hx : IsA x (.lst xs)) (hy : IsA y (.lst ys)) : zipR c Q [x, y] ↔ Q (zipD xs ys) := zipR_lst c Q x y xs ys hx.d hy.d (hx.st c) (hy.st c)
theorem zipR_isat {c : Bool} {Q : List D → Prop} {x y : SV} {xs ys : List D} (hx : IsA x (.tup xs)) (hy : IsA y (.tup ys)) : zipR c Q [x, y] ↔ Q (zipD xs ys) := by
  constructor
  · rintro ⟨a, b, e, h⟩
    cases e
    rcases h with ⟨_, _, _, _, e1, e2, h⟩ | ⟨_, _, e1, e2, h⟩ <;> rw [hx.d] at e1 <;> rw [hy.d] at e2 <;> cases e1 <;> cases e2
    exact h
  · exact fun h => ⟨x, y, rfl, .inr ⟨xs, ys, hx.d, hy.d, h⟩⟩
/-! ### the bag's promises -/
/-- a draw: any number below -/
def fDraw : FSp := fun svs Q => ∃ n : Int, svs = [.bag, .tr (.int n)] ∧ 0 < n ∧ n.natAbs.log2 < 9000 ∧ ∀ r : Int, 0 ≤ r → r < n → Q (.tr (.int r))
@[simp] theorem fDraw_eq (n : Int) (Q : SV → Prop) : fDraw [.bag, .tr (.int n)] Q ↔ 0 < n ∧ n.natAbs.log2 < 9000 ∧ ∀ r : Int, 0 ≤ r → r < n → Q (.tr (.int r)) := by simp [fDraw]
/-- the bag at p with these numbers -/
structure BagN (G : Gh) (H : Hp) (p c : Addr) (ns : List Int) (i r m : Int) : Prop where
  ok : OkG G H
  pb : G.pb = some p
  at_ : H p = some (.lst [.ref c, .int i, .int r, .int m])
  cells : G.F c = some (.lst (ns.map V.int))
  len : ns.length ≤ 63
  hi : 0 ≤ i
  hr : 0 ≤ r
  hm : 0 ≤ m ∧ m < 2147483648
theorem BagN.bag {G : Gh} {H : Hp} {p c : Addr} {ns : List Int} {i r m : Int} (b : BagN G H p c ns i r m) : BagAt G H p := ⟨c, ns, i, r, m, b.at_, b.cells, b.len, b.hi, b.hr, b.hm.1, b.hm.2⟩
theorem BagN.ne {G : Gh} {H : Hp} {p c : Addr} {ns : List Int} {i r m : Int} (b : BagN G H p c ns i r m) : c ≠ p := fun z => by
  have h := (b.ok.bag p b.pb).2
  rw [← z, b.cells] at h
  cases h
theorem BagN.cellsH {G : Gh} {H : Hp} {p c : Addr} {ns : List Int} {i r m : Int} (b : BagN G H p c ns i r m) : H c = some (.lst (ns.map V.int)) := b.ok.sub _ _ b.cells
/-- one of the numbers is stored -/
theorem BagN.put {G : Gh} {H : Hp} {p c : Addr} {ns : List Int} {i r m i' r' m' : Int} (b : BagN G H p c ns i r m) (h1 : 0 ≤ i') (h2 : 0 ≤ r') (h3 : 0 ≤ m' ∧ m' < 2147483648) : BagN G (upd H p (.lst [.ref c, .int i', .int r', .int m'])) p c ns i' r' m' := by
  have hF := (b.ok.bag p b.pb).2
  refine ⟨⟨fun x u e => ?_, fun q e => ?_⟩, b.pb, upd_same, b.cells, b.len, h1, h2, h3⟩
  · rw [upd_ne (fun z => by rw [z, hF] at e; cases e)]
    exact b.ok.sub x u e
  · have e2 : p = q := Option.some.inj (b.pb.symm.trans e)
    subst e2
    exact ⟨⟨c, ns, i', r', m', upd_same, b.cells, b.len, h1, h2, h3.1, h3.2⟩, hF⟩
/-- nothing but the bag was changed -/
theorem BagN.ext {G : Gh} {H H' : Hp} {p c : Addr} {ns : List Int} {i r m i' r' m' : Int} (b : BagN G H p c ns i r m) (b' : BagN G H' p c ns i' r' m') (h : ∀ x, x ≠ p → H' x = H x) : Ext G H G H' :=
  ⟨b'.ok, fun x u e q => by rw [h x (fun z => q (by rw [z]; exact b.pb))]; exact e, fun _ z => z, fun _ z => .inl z, fun _ _ z => z, fun _ _ z => .inl z⟩
def f1 (f : D → D) : FSp := fun svs Q => ∃ d, svs = [.tr d] ∧ d.kind.isSome = true ∧ Q (.tr (f d))
@[simp] theorem f1_eq (f : D → D) (d : D) (Q : SV → Prop) : f1 f [.tr d] Q ↔ d.kind.isSome = true ∧ Q (.tr (f d)) := by simp [f1]
theorem f1_len {f : D → D} {p : Str} : ∀ svs Qs, f1 f svs Qs → svs.length = [p].length := by
  rintro svs Qs ⟨d, rfl, _⟩; rfl
def fPick : FSp := fun svs Q => (∃ xs, svs = [.bag, .tr (.lst xs)] ∧ 0 < xs.length ∧ xs.length ≤ 1000000 ∧ ∀ d ∈ xs, Q (.tr d)) ∨ (∃ z, svs = [.bag, .tr (.str z)] ∧ 0 < z.length ∧ z.length ≤ 1000000 ∧ ∀ c ∈ z.cps.toList, Q (.tr (.str ⟨#[c]⟩)))
@[simp] theorem fPick_lst (xs : List D) (Q : SV → Prop) : fPick [.bag, .tr (.lst xs)] Q ↔ 0 < xs.length ∧ xs.length ≤ 1000000 ∧ ∀ d ∈ xs, Q (.tr d) := by simp [fPick]
@[simp] theorem fPick_str (z : Str) (Q : SV → Prop) : fPick [.bag, .tr (.str z)] Q ↔ 0 < z.length ∧ z.length ≤ 1000000 ∧ ∀ c ∈ z.cps.toList, Q (.tr (.str ⟨#[c]⟩)) := by simp [fPick]
mutual
def sameD : D → D → Bool
  | a, .lst ys => match a with
    | .lst xs => decide (xs.length = ys.length) && sames xs ys
    | _ => false
  | a, .tup ys => match a with
    | .tup xs => decide (xs.length = ys.length) && sames xs ys
    | _ => false
  | .non, .non => true
  | .bl x, .bl y => x == y
  | .int x, .int y => x == y
  | .str x, .str y => x == y
  | _, _ => false
def sames : List D → List D → Bool
  | x :: xs, y :: ys => sameD x y && sames xs ys
  | _, _ => true
end
def fSame (n : Nat) : FSp := fun svs Q => ∃ sa sb a b, svs = [sa, sb] ∧ IsA sa a ∧ IsA sb b ∧ a.dat = true ∧ b.dat = true ∧ b.wid = true ∧ b.dep < n ∧ Q (.tr (.bl (sameD a b)))
theorem fSame_of {n : Nat} {sa sb : SV} {Q : SV → Prop} {a b : D} (ia : IsA sa a) (ib : IsA sb b) : fSame n [sa, sb] Q ↔ a.dat = true ∧ b.dat = true ∧ b.wid = true ∧ b.dep < n ∧ Q (.tr (.bl (sameD a b))) := by
  constructor
  · rintro ⟨_, _, a', b', e, ia', ib', h⟩
    cases e
    have e1 := ia.d.symm.trans ia'.d
    have e2 := ib.d.symm.trans ib'.d
    subst e1 e2
    exact h
  · exact fun h => ⟨_, _, a, b, rfl, ia, ib, h⟩
@[simp] theorem fSame_eq (n : Nat) (a b : D) (Q : SV → Prop) : fSame n [.tr a, .tr b] Q ↔ a.dat = true ∧ b.dat = true ∧ b.wid = true ∧ b.dep < n ∧ Q (.tr (.bl (sameD a b))) := fSame_of ((isA_tr _ _).mpr rfl) ((isA_tr _ _).mpr rfl)
@[simp] theorem fSame_bt (n : Nat) (a b : D) (Q : SV → Prop) : fSame n [.brw a, .tr b] Q ↔ a.dat = true ∧ b.dat = true ∧ b.wid = true ∧ b.dep < n ∧ Q (.tr (.bl (sameD a b))) := fSame_of ((isA_brw _ _).mpr rfl) ((isA_tr _ _).mpr rfl)
@[simp] theorem fSame_tb (n : Nat) (a b : D) (Q : SV → Prop) : fSame n [.tr a, .brw b] Q ↔ a.dat = true ∧ b.dat = true ∧ b.wid = true ∧ b.dep < n ∧ Q (.tr (.bl (sameD a b))) := fSame_of ((isA_tr _ _).mpr rfl) ((isA_brw _ _).mpr rfl)
@[simp] theorem fSame_bb (n : Nat) (a b : D) (Q : SV → Prop) : fSame n [.brw a, .brw b] Q ↔ a.dat = true ∧ b.dat = true ∧ b.wid = true ∧ b.dep < n ∧ Q (.tr (.bl (sameD a b))) := fSame_of ((isA_brw _ _).mpr rfl) ((isA_brw _ _).mpr rfl)
theorem sames_zip : ∀ xs ys : List D, sames xs ys = (xs.zip ys).all fun p => sameD p.1 p.2
  | x :: xs, y :: ys => by rw [sames, List.zip_cons_cons, List.all_cons, sames_zip xs ys]
  | [], _ => by simp [sames]
  | _ :: _, [] => by simp [sames]
@[simp] theorem blsD_nil : blsD [] = some [] := rfl
@[simp] theorem blsD_cons (b : Bool) (ds : List D) : blsD (.bl b :: ds) = (blsD ds).map (b :: ·) := rfl
@[simp] theorem intsD_nil : intsD [] = some [] := rfl
@[simp] theorem intsD_cons (b : Int) (ds : List D) : intsD (.int b :: ds) = (intsD ds).map (b :: ·) := rfl
@[simp] theorem strsD_nil : strsD [] = some [] := rfl
@[simp] theorem strsD_cons (b : Str) (ds : List D) : strsD (.str b :: ds) = (strsD ds).map (b :: ·) := rfl
theorem atN {α : Type} (xs : List α) (n : Nat) : atI xs (n : Int) = xs[n]? := by
  unfold atI ixN
  rw [if_pos (by omega)]
  by_cases h : (n : Int) < xs.length
  · rw [if_pos h]
    rfl
  · rw [if_neg h, List.getElem?_eq_none (by omega)]
    rfl
@[simp] theorem atI_0 {α : Type} (x : α) (xs : List α) : atI (x :: xs) 0 = some x := atN (x :: xs) 0
@[simp] theorem atI_1 {α : Type} (x y : α) (xs : List α) : atI (x :: y :: xs) 1 = some y := atN (x :: y :: xs) 1
@[simp] theorem atI_2 {α : Type} (x y z : α) (xs : List α) : atI (x :: y :: z :: xs) 2 = some z := atN (x :: y :: z :: xs) 2
@[simp] theorem atI_3 {α : Type} (x y z u : α) (xs : List α) : atI (x :: y :: z :: u :: xs) 3 = some u := atN (x :: y :: z :: u :: xs) 3
section
variable {gg : GG} {gb : GS} {D : VEnds} {S : S} {ds : List VT.D}
/-- a loop, told by the place -/
theorem forW_ix (I : Nat → VT.S → Prop) (h0 : I 0 S) (hN : ∀ S', I ds.length S' → D.nx S')
    (hs : ∀ k (hk : k < ds.length) S1, I k S1 → ∀ N : VT.S → Prop, (∀ S', I (k + 1) S' → N S') → gg ds[k] S1 fun S2 => gb { nx := N, rt := D.rt, bk := D.nx, ct := N } S2) : ForW gg gb D S ds := by
  refine ⟨fun r S => ∃ k, r = ds.drop k ∧ k ≤ ds.length ∧ I k S, ⟨0, by simp, by omega, h0⟩, fun S' ⟨k, e, hk, i⟩ => ?_, fun d r S1 ⟨k, e, hk, i⟩ => ?_⟩
  · have := congrArg List.length e
    simp at this
    have : k = ds.length := by omega
    subst this
    exact hN _ i
  · have hk' : k < ds.length := by
      have := congrArg List.length e
      simp at this
      omega
    rw [List.drop_eq_getElem_cons hk'] at e
    cases e
    exact hs k hk' S1 i _ fun S h => ⟨k + 1, rfl, hk', h⟩
/-- a loop over a range -/
theorem forW_rng {lo : Int} {n : Nat} (I : Nat → VT.S → Prop) (h0 : I 0 S) (hN : ∀ S', I n S' → D.nx S')
    (hs : ∀ (k : Nat) (hk : k < n) S1, I k S1 → ∀ N : VT.S → Prop, (∀ S', I (k + 1) S' → N S') → gg (.int (lo + (k : Int))) S1 fun S2 => gb { nx := N, rt := D.rt, bk := D.nx, ct := N } S2) : ForW gg gb D S (rngD lo n) := by
  refine forW_ix I h0 (by simpa using hN) fun k hk S1 i N h => ?_
  have e : (rngD lo n)[k] = .int (lo + (k : Int)) := by simp [rngD]
  rw [e]
  exact hs k (by simpa using hk) S1 i N h
end
@[simp] theorem gName10 (x0 x1 x2 x3 x4 x5 x6 x7 x8 x9 : Option SV) (a : SV) (r : S) (Q : SV → Prop) : gName 10 (x0 :: x1 :: x2 :: x3 :: x4 :: x5 :: x6 :: x7 :: x8 :: x9 :: some a :: r) Q ↔ Q a.look := gName_eq 10 _ Q rfl
@[simp] theorem gName11 (x0 x1 x2 x3 x4 x5 x6 x7 x8 x9 x10 : Option SV) (a : SV) (r : S) (Q : SV → Prop) : gName 11 (x0 :: x1 :: x2 :: x3 :: x4 :: x5 :: x6 :: x7 :: x8 :: x9 :: x10 :: some a :: r) Q ↔ Q a.look := gName_eq 11 _ Q rfl
@[simp] theorem gName12 (x0 x1 x2 x3 x4 x5 x6 x7 x8 x9 x10 x11 : Option SV) (a : SV) (r : S) (Q : SV → Prop) : gName 12 (x0 :: x1 :: x2 :: x3 :: x4 :: x5 :: x6 :: x7 :: x8 :: x9 :: x10 :: x11 :: some a :: r) Q ↔ Q a.look := gName_eq 12 _ Q rfl
@[simp] theorem gName13 (x0 x1 x2 x3 x4 x5 x6 x7 x8 x9 x10 x11 x12 : Option SV) (a : SV) (r : S) (Q : SV → Prop) : gName 13 (x0 :: x1 :: x2 :: x3 :: x4 :: x5 :: x6 :: x7 :: x8 :: x9 :: x10 :: x11 :: x12 :: some a :: r) Q ↔ Q a.look := gName_eq 13 _ Q rfl
@[simp] theorem gName14 (x0 x1 x2 x3 x4 x5 x6 x7 x8 x9 x10 x11 x12 x13 : Option SV) (a : SV) (r : S) (Q : SV → Prop) : gName 14 (x0 :: x1 :: x2 :: x3 :: x4 :: x5 :: x6 :: x7 :: x8 :: x9 :: x10 :: x11 :: x12 :: x13 :: some a :: r) Q ↔ Q a.look := gName_eq 14 _ Q rfl
@[simp] theorem gName15 (x0 x1 x2 x3 x4 x5 x6 x7 x8 x9 x10 x11 x12 x13 x14 : Option SV) (a : SV) (r : S) (Q : SV → Prop) : gName 15 (x0 :: x1 :: x2 :: x3 :: x4 :: x5 :: x6 :: x7 :: x8 :: x9 :: x10 :: x11 :: x12 :: x13 :: x14 :: some a :: r) Q ↔ Q a.look := gName_eq 15 _ Q rfl
@[simp] theorem gName16 (x0 x1 x2 x3 x4 x5 x6 x7 x8 x9 x10 x11 x12 x13 x14 x15 : Option SV) (a : SV) (r : S) (Q : SV → Prop) : gName 16 (x0 :: x1 :: x2 :: x3 :: x4 :: x5 :: x6 :: x7 :: x8 :: x9 :: x10 :: x11 :: x12 :: x13 :: x14 :: x15 :: some a :: r) Q ↔ Q a.look := gName_eq 16 _ Q rfl
@[simp] theorem gName17 (x0 x1 x2 x3 x4 x5 x6 x7 x8 x9 x10 x11 x12 x13 x14 x15 x16 : Option SV) (a : SV) (r : S) (Q : SV → Prop) : gName 17 (x0 :: x1 :: x2 :: x3 :: x4 :: x5 :: x6 :: x7 :: x8 :: x9 :: x10 :: x11 :: x12 :: x13 :: x14 :: x15 :: x16 :: some a :: r) Q ↔ Q a.look := gName_eq 17 _ Q rfl
@[simp] theorem gName18 (x0 x1 x2 x3 x4 x5 x6 x7 x8 x9 x10 x11 x12 x13 x14 x15 x16 x17 : Option SV) (a : SV) (r : S) (Q : SV → Prop) : gName 18 (x0 :: x1 :: x2 :: x3 :: x4 :: x5 :: x6 :: x7 :: x8 :: x9 :: x10 :: x11 :: x12 :: x13 :: x14 :: x15 :: x16 :: x17 :: some a :: r) Q ↔ Q a.look := gName_eq 18 _ Q rfl
@[simp] theorem gName19 (x0 x1 x2 x3 x4 x5 x6 x7 x8 x9 x10 x11 x12 x13 x14 x15 x16 x17 x18 : Option SV) (a : SV) (r : S) (Q : SV → Prop) : gName 19 (x0 :: x1 :: x2 :: x3 :: x4 :: x5 :: x6 :: x7 :: x8 :: x9 :: x10 :: x11 :: x12 :: x13 :: x14 :: x15 :: x16 :: x17 :: x18 :: some a :: r) Q ↔ Q a.look := gName_eq 19 _ Q rfl
@[simp] theorem gName20 (x0 x1 x2 x3 x4 x5 x6 x7 x8 x9 x10 x11 x12 x13 x14 x15 x16 x17 x18 x19 : Option SV) (a : SV) (r : S) (Q : SV → Prop) : gName 20 (x0 :: x1 :: x2 :: x3 :: x4 :: x5 :: x6 :: x7 :: x8 :: x9 :: x10 :: x11 :: x12 :: x13 :: x14 :: x15 :: x16 :: x17 :: x18 :: x19 :: some a :: r) Q ↔ Q a.look := gName_eq 20 _ Q rfl
@[simp] theorem gName21 (x0 x1 x2 x3 x4 x5 x6 x7 x8 x9 x10 x11 x12 x13 x14 x15 x16 x17 x18 x19 x20 : Option SV) (a : SV) (r : S) (Q : SV → Prop) : gName 21 (x0 :: x1 :: x2 :: x3 :: x4 :: x5 :: x6 :: x7 :: x8 :: x9 :: x10 :: x11 :: x12 :: x13 :: x14 :: x15 :: x16 :: x17 :: x18 :: x19 :: x20 :: some a :: r) Q ↔ Q a.look := gName_eq 21 _ Q rfl
@[simp] theorem gName22 (x0 x1 x2 x3 x4 x5 x6 x7 x8 x9 x10 x11 x12 x13 x14 x15 x16 x17 x18 x19 x20 x21 : Option SV) (a : SV) (r : S) (Q : SV → Prop) : gName 22 (x0 :: x1 :: x2 :: x3 :: x4 :: x5 :: x6 :: x7 :: x8 :: x9 :: x10 :: x11 :: x12 :: x13 :: x14 :: x15 :: x16 :: x17 :: x18 :: x19 :: x20 :: x21 :: some a :: r) Q ↔ Q a.look := gName_eq 22 _ Q rfl
@[simp] theorem gName23 (x0 x1 x2 x3 x4 x5 x6 x7 x8 x9 x10 x11 x12 x13 x14 x15 x16 x17 x18 x19 x20 x21 x22 : Option SV) (a : SV) (r : S) (Q : SV → Prop) : gName 23 (x0 :: x1 :: x2 :: x3 :: x4 :: x5 :: x6 :: x7 :: x8 :: x9 :: x10 :: x11 :: x12 :: x13 :: x14 :: x15 :: x16 :: x17 :: x18 :: x19 :: x20 :: x21 :: x22 :: some a :: r) Q ↔ Q a.look := gName_eq 23 _ Q rfl
@[simp] theorem gName24 (x0 x1 x2 x3 x4 x5 x6 x7 x8 x9 x10 x11 x12 x13 x14 x15 x16 x17 x18 x19 x20 x21 x22 x23 : Option SV) (a : SV) (r : S) (Q : SV → Prop) : gName 24 (x0 :: x1 :: x2 :: x3 :: x4 :: x5 :: x6 :: x7 :: x8 :: x9 :: x10 :: x11 :: x12 :: x13 :: x14 :: x15 :: x16 :: x17 :: x18 :: x19 :: x20 :: x21 :: x22 :: x23 :: some a :: r) Q ↔ Q a.look := gName_eq 24 _ Q rfl
@[simp] theorem gName25 (x0 x1 x2 x3 x4 x5 x6 x7 x8 x9 x10 x11 x12 x13 x14 x15 x16 x17 x18 x19 x20 x21 x22 x23 x24 : Option SV) (a : SV) (r : S) (Q : SV → Prop) : gName 25 (x0 :: x1 :: x2 :: x3 :: x4 :: x5 :: x6 :: x7 :: x8 :: x9 :: x10 :: x11 :: x12 :: x13 :: x14 :: x15 :: x16 :: x17 :: x18 :: x19 :: x20 :: x21 :: x22 :: x23 :: x24 :: some a :: r) Q ↔ Q a.look := gName_eq 25 _ Q rfl
@[simp] theorem gName26 (x0 x1 x2 x3 x4 x5 x6 x7 x8 x9 x10 x11 x12 x13 x14 x15 x16 x17 x18 x19 x20 x21 x22 x23 x24 x25 : Option SV) (a : SV) (r : S) (Q : SV → Prop) : gName 26 (x0 :: x1 :: x2 :: x3 :: x4 :: x5 :: x6 :: x7 :: x8 :: x9 :: x10 :: x11 :: x12 :: x13 :: x14 :: x15 :: x16 :: x17 :: x18 :: x19 :: x20 :: x21 :: x22 :: x23 :: x24 :: x25 :: some a :: r) Q ↔ Q a.look := gName_eq 26 _ Q rfl
@[simp] theorem gName27 (x0 x1 x2 x3 x4 x5 x6 x7 x8 x9 x10 x11 x12 x13 x14 x15 x16 x17 x18 x19 x20 x21 x22 x23 x24 x25 x26 : Option SV) (a : SV) (r : S) (Q : SV → Prop) : gName 27 (x0 :: x1 :: x2 :: x3 :: x4 :: x5 :: x6 :: x7 :: x8 :: x9 :: x10 :: x11 :: x12 :: x13 :: x14 :: x15 :: x16 :: x17 :: x18 :: x19 :: x20 :: x21 :: x22 :: x23 :: x24 :: x25 :: x26 :: some a :: r) Q ↔ Q a.look := gName_eq 27 _ Q rfl
@[simp] theorem gName28 (x0 x1 x2 x3 x4 x5 x6 x7 x8 x9 x10 x11 x12 x13 x14 x15 x16 x17 x18 x19 x20 x21 x22 x23 x24 x25 x26 x27 : Option SV) (a : SV) (r : S) (Q : SV → Prop) : gName 28 (x0 :: x1 :: x2 :: x3 :: x4 :: x5 :: x6 :: x7 :: x8 :: x9 :: x10 :: x11 :: x12 :: x13 :: x14 :: x15 :: x16 :: x17 :: x18 :: x19 :: x20 :: x21 :: x22 :: x23 :: x24 :: x25 :: x26 :: x27 :: some a :: r) Q ↔ Q a.look := gName_eq 28 _ Q rfl
@[simp] theorem gName29 (x0 x1 x2 x3 x4 x5 x6 x7 x8 x9 x10 x11 x12 x13 x14 x15 x16 x17 x18 x19 x20 x21 x22 x23 x24 x25 x26 x27 x28 : Option SV) (a : SV) (r : S) (Q : SV → Prop) : gName 29 (x0 :: x1 :: x2 :: x3 :: x4 :: x5 :: x6 :: x7 :: x8 :: x9 :: x10 :: x11 :: x12 :: x13 :: x14 :: x15 :: x16 :: x17 :: x18 :: x19 :: x20 :: x21 :: x22 :: x23 :: x24 :: x25 :: x26 :: x27 :: x28 :: some a :: r) Q ↔ Q a.look := gName_eq 29 _ Q rfl
theorem dats_of {xs : List D} (h : ∀ x ∈ xs, x.dat = true) : dats xs = true := by
  have := dats_map (f := fun d => d) h
  simpa using this
theorem deps_of {xs : List D} {n : Nat} (h : ∀ x ∈ xs, x.dep ≤ n) : deps xs ≤ n := by
  have := deps_map (f := fun d => d) h
  simpa using this
theorem wids_of {xs : List D} (h : ∀ x ∈ xs, x.wid = true) : wids xs = true := by
  have := wids_map (f := fun d => d) h
  simpa using this
theorem cutD_mem {α : Type} {xs : List α} {lo hi : Option Int} {x : α} (h : x ∈ cutD xs lo hi) : x ∈ xs := List.mem_of_mem_drop (List.mem_of_mem_take h)
theorem cutD_len {α : Type} (xs : List α) (lo hi : Option Int) : (cutD xs lo hi).length ≤ xs.length := by
  unfold cutD
  simp
  omega
@[simp high] theorem gAll_map {α : Type} (f : α → Bool) (as : List α) (Q : SV → Prop) : gAll [.lst (as.map fun a => .bl (f a))] Q ↔ Q (.tr (.bl (as.all f))) := by
  show (∃ bs, blsD (as.map fun a => D.bl (f a)) = some bs ∧ Q (.tr (.bl (bs.all id)))) ↔ _
  rw [blsD_map]
  constructor
  · rintro ⟨bs, e, q⟩
    cases e
    simpa [List.all_map, Function.comp_def] using q
  · intro q
    exact ⟨_, rfl, by simpa [List.all_map, Function.comp_def] using q⟩
@[simp high] theorem gAny_map {α : Type} (f : α → Bool) (as : List α) (Q : SV → Prop) : gAny [.lst (as.map fun a => .bl (f a))] Q ↔ Q (.tr (.bl (as.any f))) := by
  show (∃ bs, blsD (as.map fun a => D.bl (f a)) = some bs ∧ Q (.tr (.bl (bs.any id)))) ↔ _
  rw [blsD_map]
  constructor
  · rintro ⟨bs, e, q⟩
    cases e
    simpa [List.any_map, Function.comp_def] using q
  · intro q
    exact ⟨_, rfl, by simpa [List.any_map, Function.comp_def] using q⟩
@[simp high] theorem gSum_map {α : Type} (f : α → Int) (as : List α) (Q : SV → Prop) : gSum [.lst (as.map fun a => .int (f a))] Q ↔ Q (.tr (.int (as.map f).sum)) := by
  show (∃ bs, intsD (as.map fun a => D.int (f a)) = some bs ∧ Q (.tr (.int bs.sum))) ↔ _
  rw [intsD_map]
  constructor
  · rintro ⟨bs, e, q⟩
    cases e
    exact q
  · intro q
    exact ⟨_, rfl, q⟩
theorem ixN_lt {n : Nat} {i : Int} (h0 : 0 ≤ i) (h1 : i < n) : ixN n i = some i.toNat := by
  unfold ixN
  rw [if_pos h0, if_pos h1]
theorem cmulW {i j : Int} (hi : i.natAbs ≤ 10 ^ 40) (hj : j.natAbs ≤ 10 ^ 40) : CMulW i j := by
  unfold CMulW
  have h1 := log_lt hi
  have h2 := log_lt hj
  omega
theorem ltge (a b : Int) : a < b ∨ b ≤ a := by omega
theorem dat_kind {d : D} (h : d.dat = true) : d.kind.isSome = true := by
  cases d <;> first
    | rfl
    | (simp [D.dat] at h)
end VT

namespace K17
open PySem PySem.Spec PyProof.Rows L2 VT
def top (i : Nat) : Stmt := PySem.Challenge.pw_heardwire_k17_rings_of_bounds.main.body.getD i (.Pass ⟨0, 0, 0, 0⟩)
structure Facts (mg : Str → Option Value) : Prop where
  abs : mg "abs" = none
  all : mg "all" = none
  bool : mg "bool" = none
  int : mg "int" = none
  isinstance : mg "isinstance" = none
  len : mg "len" = none
  list : mg "list" = none
  range : mg "range" = none
  str : mg "str" = none
  sum : mg "sum" = none
  tuple : mg "tuple" = none
  zip : mg "zip" = none
def d__law_draw : He.DefD := ⟨("_law_draw", none), "_law_draw", "_law_draw", defArgs (top 4), defBody (top 4), defScope (top 4), [], []⟩
theorem sc__law_draw : FnScope ["_law_bag_here", "_law_many", "_law_cell", "_law_got"] ["_law_bag_here", "_law_many"] d__law_draw.scope := ⟨rfl, rfl, rfl, by decide +kernel, rfl, by decide +kernel, by decide +kernel⟩
def d__law_bag : He.DefD := ⟨("_law_bag", none), "_law_bag", "_law_bag", defArgs (top 3), defBody (top 3), defScope (top 3), [], []⟩
theorem sc__law_bag : FnScope ["_law_script", "_law_cells"] ["_law_script"] d__law_bag.scope := ⟨rfl, rfl, rfl, by decide +kernel, rfl, by decide +kernel, by decide +kernel⟩
def d__law_same : He.DefD := ⟨("_law_same", none), "_law_same", "_law_same", defArgs (top 7), defBody (top 7), defScope (top 7), [], []⟩
theorem sc__law_same : FnScope ["_law_found", "_law_due", "_law_a", "_law_b"] ["_law_found", "_law_due"] d__law_same.scope := ⟨rfl, rfl, rfl, by decide +kernel, rfl, by decide +kernel, by decide +kernel⟩
section
variable {P : Program} {w : World} {K : PySem.W.Frag} {mg : Str → Option Value} {base : Heap}
theorem ok_draw (h : DefAt K mg d__law_draw) (T : Facts mg) : FnV P w K mg base d__law_draw 1 ["_law_bag_here", "_law_many"] fDraw := by
  obtain ⟨⟨fd, hf⟩, hm⟩ := h
  refine ⟨⟨fd, hf, hf.ok sc__law_draw (fun vs H Q E ⟨G, svs, Qs, ok, r, ha, ⟨n, e, _⟩, z⟩ => by rw [r.length, e]; rfl) (fun cdv A outer s H vs Q E hr hsp => ?_)⟩, hm⟩
  refine ⟨_, PSs.nox (C8.pss_cut (ps_if (PW.pt (pw_and (pt_cmpR op_eq (pe_ix ix_list (pv 0) pe_int (fun _ _ => rfl)) pe_int (nomark _))
      (pw_and1 (pt_cmpR op_lt (pe_ix ix_list (pv 0) pe_int (fun _ _ => rfl)) (pe_callB call_len_seq (by rfl) T.len PySem.boot_len (pa_cons (pe_ix ix_list (pv 0) pe_int (fun _ _ => rfl)) pa_nil)) (nomark _)))))
      (pss_cons (ps_set (i := 2) sc__law_draw.nd rfl (.inl rfl) (pe_ix ix_list (pe_ix ix_list (pv 0) pe_int (fun _ _ => rfl)) (pe_ix ix_list (pv 0) pe_int (fun _ _ => rfl)) (fun _ _ => rfl)))
      (pss_cons (ps_asg (pe_op op_add (pe_ix ix_list (pv 0) pe_int (fun _ _ => rfl)) pe_int) (pg_sub (pv 0) pe_int set_list))
      (pss_one (ps_if (pt_cmpR op_ge (pe_callB call_abs (by rfl) T.abs (by decide +kernel) (pa_cons (pv 2) pa_nil)) (pe_op op_pow pe_int pe_int) (nomark _))
        (pss_one (ps_asg (pe_callB call_abs (by rfl) T.abs (by decide +kernel) (pa_cons (pv 2) pa_nil)) (pg_sub (pv 0) pe_int set_list)))
        (pss_one (ps_asg (pe_op op_mod (pe_callTy call_int1 (by rfl) T.int (by decide +kernel) (pa_cons (pe_op op_add (pe_op op_add (pe_op op_mul (pe_ix ix_list (pv 0) pe_int (fun _ _ => rfl)) pe_int)
            (pe_op op_mul (pe_op op_mod (pe_callTy call_int1 (by rfl) T.int (by decide +kernel) (pa_cons (pv 2) pa_nil)) pe_int) pe_int)) pe_int) pa_nil)) pe_int) (pg_sub (pv 0) pe_int set_list)))))))
      pss_nil)
    (pss_cons (ps_if (pt_cmpR op_gt (pe_ix ix_list (pv 0) pe_int (fun _ _ => rfl)) pe_int (nomark _))
      (pss_cons (ps_set (i := 3) sc__law_draw.nd rfl (.inl rfl) (pe_op op_mod (pe_callTy call_int1 (by rfl) T.int (by decide +kernel) (pa_cons (pe_ix ix_list (pv 0) pe_int (fun _ _ => rfl)) pa_nil)) (pv 1)))
      (pss_cons (ps_asg (pe_op op_fdivW (pe_ix ix_list (pv 0) pe_int (fun _ _ => rfl)) (pv 1)) (pg_sub (pv 0) pe_int set_list))
      (pss_one (ps_ret (pv 3)))))
      pss_nil)
    (pss_cons (ps_asg (pe_op op_mod (pe_callTy call_int1 (by rfl) T.int (by decide +kernel) (pa_cons (pe_op op_add (pe_op op_add (pe_op op_mul (pe_op op_mul (pe_ix ix_list (pv 0) pe_int (fun _ _ => rfl)) (pe_ix ix_list (pv 0) pe_int (fun _ _ => rfl))) pe_int)
        (pe_op op_mul (pe_ix ix_list (pv 0) pe_int (fun _ _ => rfl)) pe_int)) pe_int) pa_nil)) pe_int) (pg_sub (pv 0) pe_int set_list))
    (pss_one (ps_ret (pe_op op_mod (pe_callTy call_int1 (by rfl) T.int (by decide +kernel) (pa_cons (pe_op op_fdivW (pe_ix ix_list (pv 0) pe_int (fun _ _ => rfl)) pe_int) pa_nil)) (pv 1))))))), ?_⟩
  obtain ⟨G, svs, Qs, ok, rl, ha, ⟨n, rfl, hn, hl, hq⟩, z⟩ := hsp
  obtain ⟨p, rfl, hpb, b0⟩ : ∃ p, vs = [.ref p, .int n] ∧ G.pb = some p ∧ BagAt G H p := by
    cases rl with
    | cons r1 t1 _ => cases t1 with
      | cons r2 t2 _ =>
        cases t2
        obtain ⟨p, rfl, hp⟩ := r1
        have e2 : _ = V.int n := r2
        subst e2
        exact ⟨p, rfl, hp, (ok.bag p hp).1⟩
  obtain ⟨c, ns, i0, r0, m0, e0, ec, hlen, hi0, hr0, hm0, hm1⟩ := b0
  have B0 : BagN G H p c ns i0 r0 m0 := ⟨ok, hpb, e0, ec, hlen, hi0, hr0, hm0, hm1⟩
  have fin : ∀ (H' : Hp) (i r m x : Int), BagN G H' p c ns i r m → (∀ y, y ≠ p → H' y = H y) → 0 ≤ x → x < n → Q (.int x) H' := fun H' i r m x b off h0 h1 =>
    z _ H' G (.tr (.int x)) (B0.ext b off) rfl trivial (hq x h0 h1)
  have sqB : ∀ {H' : Hp} {i r m : Int}, BagN G H' p c ns i r m → SqL K H' p [.ref c, .int i, .int r, .int m] := fun b => .of b.at_
  have sqC : ∀ {H' : Hp} {i r m : Int}, BagN G H' p c ns i r m → SqL K H' c (ns.map V.int) := fun b => .of b.cellsH
  have offp : ∀ {H' : Hp} {o : HO}, (∀ y, y ≠ p → H' y = H y) → ∀ y, y ≠ p → upd H' p o y = H y := fun h y hy => by rw [upd_ne hy]; exact h y hy
  have at0 : ∀ (c : Addr) (i r m : Int), atI ([.ref c, .int i, .int r, .int m] : List V) 0 = some (.ref c) := fun _ _ _ _ => rfl
  have at1 : ∀ (c : Addr) (i r m : Int), atI ([.ref c, .int i, .int r, .int m] : List V) 1 = some (.int i) := fun _ _ _ _ => rfl
  have at2 : ∀ (c : Addr) (i r m : Int), atI ([.ref c, .int i, .int r, .int m] : List V) 2 = some (.int r) := fun _ _ _ _ => rfl
  have at3 : ∀ (c : Addr) (i r m : Int), atI ([.ref c, .int i, .int r, .int m] : List V) 3 = some (.int m) := fun _ _ _ _ => rfl
  refine ⟨fun σ H1 => ∃ a b i r m, σ = [some (.ref p), some (.int n), a, b] ∧ BagN G H1 p c ns i r m ∧ ∀ y, y ≠ p → H1 y = H y, ?_, ?_⟩
  · -- the cells
    refine ⟨_, rfl, p, _, _, _, rfl, rfl, sqB B0, at2 _ _ _ _, rfl, _, rfl, ?_⟩
    refine ite2 (fun _ => ?_) (fun _ => ?_)
    · refine ⟨_, rfl, p, _, _, _, rfl, rfl, sqB B0, at1 _ _ _ _, _, rfl, p, _, _, _, rfl, rfl, sqB B0, at0 _ _ _ _, c, _, rfl, .inl (sqC B0), _, _, rfl, rfl, _, rfl, ?_⟩
      refine ite2 (fun hlt => ?_) (fun _ => ?_)
      · have hlt : i0 < (ns.length : Int) := by
          have := of_decide_eq_true hlt
          rw [List.length_map] at this
          exact this
        obtain ⟨j, rfl⟩ : ∃ j : Nat, i0 = j := ⟨i0.toNat, by omega⟩
        have hj : j < ns.length := by omega
        have hat : atI (ns.map V.int) (j : Int) = some (.int ns[j]) := by
          unfold atI ixN
          rw [if_pos (by omega), if_pos (by rw [List.length_map]; omega)]
          simp [hj]
        have B1 := B0.put (i' := (j : Int) + 1) (r' := r0) (m' := m0) (by omega) hr0 ⟨hm0, hm1⟩
        refine ⟨_, rfl, p, _, _, _, rfl, rfl, sqB B0, at0 _ _ _ _, _, rfl, p, _, _, _, rfl, rfl, sqB B0, at1 _ _ _ _, c, _, _, _, rfl, rfl, sqC B0, hat, ?_⟩
        refine ⟨_, rfl, p, _, _, _, rfl, rfl, sqB B0, at1 _ _ _ _, _, _, rfl, rfl, _, rfl, p, _, _, 1, rfl, rfl, e0, rfl, ?_⟩
        refine ⟨_, rfl, _, rfl, _, _, rfl, rfl, ⟨by decide, by decide, by decide⟩, _, _, rfl, rfl, _, rfl, ?_⟩
        refine ite2 (fun _ => ?_) (fun _ => ?_)
        · refine ⟨_, rfl, _, rfl, _, rfl, p, _, _, 2, rfl, rfl, B1.at_, rfl, ?_⟩
          exact ⟨_, _, _, _, _, rfl, B1.put (by omega) (by split <;> omega) ⟨hm0, hm1⟩, offp (offp fun _ _ => rfl)⟩
        · refine ⟨_, rfl, p, _, _, _, rfl, rfl, sqB B1, at3 _ _ _ _, _, _, rfl, rfl, .inl (by constructor <;> omega), ?_⟩
          refine ⟨_, rfl, .inl ⟨_, rfl, _, _, rfl, rfl, (by show (0 : Int) < 1000081; decide), _, _, rfl, rfl, .inl (by constructor <;> omega), _, _, rfl, rfl, _, _, rfl, rfl, ?_⟩⟩
          refine .inl ⟨_, rfl, _, _, rfl, rfl, (by show (0 : Int) < 2147483543; decide), _, rfl, p, _, _, 3, rfl, rfl, B1.at_, rfl, ?_⟩
          exact ⟨_, _, _, _, _, rfl, B1.put (by omega) hr0 (by constructor <;> omega), offp (offp fun _ _ => rfl)⟩
      · exact ⟨_, _, _, _, _, rfl, B0, fun _ _ => rfl⟩
    · exact ⟨_, _, _, _, _, rfl, B0, fun _ _ => rfl⟩
  · rintro σ H1 ⟨a, b, i, r, m, rfl, B, off⟩
    have hi := B.hi
    have hr' := B.hr
    have hm' := B.hm
    -- the rest of a great cell
    refine ⟨_, rfl, p, _, _, _, rfl, rfl, sqB B, at2 _ _ _ _, _, _, rfl, rfl, _, rfl, ?_⟩
    refine ite2 (fun hpos => ?_) (fun _ => ?_)
    · refine ⟨_, rfl, p, _, _, _, rfl, rfl, sqB B, at2 _ _ _ _, .inl ⟨_, rfl, _, rfl, _, _, rfl, rfl, hn, ?_⟩⟩
      refine ⟨_, rfl, p, _, _, _, rfl, rfl, sqB B, at2 _ _ _ _, _, rfl, _, _, rfl, rfl, ⟨hn, hl⟩, _, rfl, p, _, _, 2, rfl, rfl, B.at_, rfl, ?_⟩
      exact ⟨_, rfl, fin _ i (r / n) m (r % n) (B.put hi (Int.ediv_nonneg hr' (by omega)) hm') (offp off) (Int.emod_nonneg _ (by omega)) (Int.emod_lt_of_pos _ hn)⟩
    -- the mixed number
    have hsq : m * m < 4611686018427387904 := by
      have h1 : m * m ≤ 2147483647 * 2147483647 := Int.mul_le_mul (by omega) (by omega) hm'.1 (by decide)
      omega
    have hsq0 : 0 ≤ m * m := Int.mul_nonneg hm'.1 hm'.1
    refine ⟨_, rfl, p, _, _, _, rfl, rfl, sqB B, at3 _ _ _ _, _, rfl, p, _, _, _, rfl, rfl, sqB B, at3 _ _ _ _, _, _, rfl, rfl, .inl (by constructor <;> omega), _, _, rfl, rfl, .inl (by constructor <;> omega), ?_⟩
    refine ⟨_, rfl, p, _, _, _, rfl, rfl, sqB B, at3 _ _ _ _, _, _, rfl, rfl, .inl (by constructor <;> omega), _, _, rfl, rfl, _, _, rfl, rfl, .inl ⟨_, rfl, ?_⟩⟩
    refine ⟨_, _, rfl, rfl, (by show (0 : Int) < 2147483563; decide), _, rfl, p, _, _, 3, rfl, rfl, B.at_, rfl, ?_⟩
    have B2 := B.put (i' := i) (r' := r) (m' := (m * m * 5 + m * 31013 + 1700021) % 2147483563) hi hr' (by constructor <;> omega)
    refine ⟨_, rfl, p, _, _, _, rfl, rfl, sqB B2, at3 _ _ _ _, _, _, rfl, rfl, ⟨by decide, by decide⟩, .inl ⟨_, rfl, _, rfl, _, _, rfl, rfl, hn, ?_⟩⟩
    exact fin _ i r _ _ B2 (offp off) (Int.emod_nonneg _ (by omega)) (Int.emod_lt_of_pos _ hn)
theorem ok_bag (h : DefAt K mg d__law_bag) (T : Facts mg) : ∃ fd, FunD K "_law_bag" "_law_bag" d__law_bag.params d__law_bag.body d__law_bag.scope [] [] (He.fAd K d__law_bag.at_) fd ∧ FnOk P w K mg base CX0 1 (He.fAd K d__law_bag.at_) fd ["_law_script"] (spBag K) := by
  obtain ⟨⟨fd, hf⟩, hm⟩ := h
  refine ⟨fd, hf, hf.ok sc__law_bag (fun vs H Q E ⟨a, ns, e, _⟩ => by rw [e]; rfl) (fun cdv A outer s H vs Q E hr hsp => ?_)⟩
  refine ⟨_, PSs.nox (pss_cons (ps_set (i := 1) sc__law_bag.nd rfl (.inl rfl) (pe_callTy call_list_of (by rfl) T.list (by decide +kernel) (pa_cons (pe_slice sl_list (pv 0) po_none (po_some pe_int)) pa_nil)))
    (pss_one (ps_ret (pe_lst (pa_cons (pv 1) (pa_cons pe_int (pa_cons pe_int (pa_cons (pe_op op_add pe_int (pe_op op_mul pe_int (pe_callB call_len_seq (by rfl) T.len PySem.boot_len (pa_cons (pv 1) pa_nil)))) pa_nil)))))))), ?_⟩
  obtain ⟨a, ns, rfl, hS, hq⟩ := hsp
  refine ⟨_, rfl, _, rfl, a, _, rfl, hS, fun p hp => ?_⟩
  rw [cut63]
  refine ⟨p, cellsV ns, rfl, .inl (.of upd_same), fun c hc => ?_⟩
  refine ⟨_, rfl, _, rfl, c, _, rfl, .inl (.of upd_same), ?_⟩
  refine ⟨_, _, rfl, rfl, ?_, _, _, rfl, rfl, ?_⟩
  · exact .inl ⟨by decide, by decide⟩
  refine ⟨by show 4 ≤ sizeLine; decide, fun q hq' => ?_⟩
  have hcq : c ≠ q := fun z => by rw [z, upd_same] at hq'; cases hq'
  have hpc : p ≠ c := fun z => by rw [z, upd_same] at hc; cases hc
  rw [upd_ne hpc.symm] at hc
  rw [upd_ne hcq.symm] at hq'
  have hpq : q ≠ p := fun z => by rw [z, upd_same] at hq'; cases hq'
  rw [upd_ne hpq] at hq'
  refine hq _ c q hc hq' (by rw [upd_ne hcq, upd_same]) upd_same fun b o e => ?_
  rw [upd_ne (ne_of_none e hq'), upd_ne (ne_of_none e hc), upd_ne (ne_of_none e hp)]
  exact e
theorem ok_same (h : DefAt K mg d__law_same) (T : Facts mg) (n : Nat) : FnV P w K mg base d__law_same n ["_law_found", "_law_due"] (fSame n) := by
  induction n with
  | zero => exact (FnV.none h).imp (by rintro svs Q ⟨_, _, a, b, _, _, _, _, _, _, h, _⟩; omega)
  | succ n c__law_same =>
    exact fnv_ok h sc__law_same (fun f cdv A outer s H E hr => (vss_cons (vs_if (vc_tru (ve_isi .list (ve_name 1) (by rfl) T.isinstance (by rfl) T.list (by decide +kernel))) (vss_one (vs_ret (ve_and (ve_isi .list (ve_name 0) (by rfl) T.isinstance (by rfl) T.list (by decide +kernel)) (ve_and (ve_cmp (ow_eq hr.units) (ve_callB cw_len (by rfl) T.len (by decide +kernel) (va_cons (ve_name 0) va_nil)) (ve_callB cw_len (by rfl) T.len (by decide +kernel) (va_cons (ve_name 1) va_nil))) (ve_one (ve_callB (cw_all rfl) (by rfl) T.all (by decide +kernel) (va_cons (ve_lc (own := [("_law_a", 2), ("_law_b", 3)]) rfl sc__law_same.nd (vi_zip (by rfl) T.zip (va_cons (ve_name 0) (va_cons (ve_name 1) va_nil))) (blkOk_by (own := [("_law_a", 2), ("_law_b", 3)]) (N := ["_law_found", "_law_due", "_law_a", "_law_b"]) (sc := d__law_same.scope) (by decide +kernel)) (fun _ _ _ _ _ => (vg_tup rfl (vgs_cons (i := 2) sc__law_same.nd rfl (by first | exact Or.inl rfl | exact Or.inr rfl) (vgs_cons (i := 3) sc__law_same.nd rfl (by first | exact Or.inl rfl | exact Or.inr rfl) vgs_nil)))) (fun _ _ _ _ _ => vcs_nil) (fun _ _ _ _ _ => (ve_fz (ve_cv c__law_same (hr.mono (by omega)) rfl rfl rfl (fun _ _ _ _ _ _ us hl => match us, hl with | [_, _], _ => rfl) (by rfl) (va_cons (ve_name 2) (va_cons (ve_name 3) va_nil)))))) va_nil))))))) vss_nil) (vss_cons (vs_if (vc_tru (ve_isi .tuple (ve_name 1) (by rfl) T.isinstance (by rfl) T.tuple (by decide +kernel))) (vss_one (vs_ret (ve_and (ve_isi .tuple (ve_name 0) (by rfl) T.isinstance (by rfl) T.tuple (by decide +kernel)) (ve_and (ve_cmp (ow_eq hr.units) (ve_callB cw_len (by rfl) T.len (by decide +kernel) (va_cons (ve_name 0) va_nil)) (ve_callB cw_len (by rfl) T.len (by decide +kernel) (va_cons (ve_name 1) va_nil))) (ve_one (ve_callB (cw_all rfl) (by rfl) T.all (by decide +kernel) (va_cons (ve_lc (own := [("_law_a", 2), ("_law_b", 3)]) rfl sc__law_same.nd (vi_zip (by rfl) T.zip (va_cons (ve_name 0) (va_cons (ve_name 1) va_nil))) (blkOk_by (own := [("_law_a", 2), ("_law_b", 3)]) (N := ["_law_found", "_law_due", "_law_a", "_law_b"]) (sc := d__law_same.scope) (by decide +kernel)) (fun _ _ _ _ _ => (vg_tup rfl (vgs_cons (i := 2) sc__law_same.nd rfl (by first | exact Or.inl rfl | exact Or.inr rfl) (vgs_cons (i := 3) sc__law_same.nd rfl (by first | exact Or.inl rfl | exact Or.inr rfl) vgs_nil)))) (fun _ _ _ _ _ => vcs_nil) (fun _ _ _ _ _ => (ve_fz (ve_cv c__law_same (hr.mono (by omega)) rfl rfl rfl (fun _ _ _ _ _ _ us hl => match us, hl with | [_, _], _ => rfl) (by rfl) (va_cons (ve_name 2) (va_cons (ve_name 3) va_nil)))))) va_nil))))))) vss_nil) (vss_cons (vs_if (VW.vc (vw_or (vc_cmp ow_is (ve_name 1) ve_non) (vw_or1 (vc_cmp ow_is (ve_name 0) ve_non)))) (vss_one (vs_ret (ve_and (ve_cmp ow_is (ve_name 1) ve_non) (ve_one (ve_cmp ow_is (ve_name 0) ve_non))))) vss_nil) (vss_cons (vs_if (VW.vc (vw_or (vc_tru (ve_isi .bool (ve_name 1) (by rfl) T.isinstance (by rfl) T.bool (by decide +kernel))) (vw_or1 (vc_tru (ve_isi .bool (ve_name 0) (by rfl) T.isinstance (by rfl) T.bool (by decide +kernel)))))) (vss_one (vs_ret (ve_and (ve_isi .bool (ve_name 1) (by rfl) T.isinstance (by rfl) T.bool (by decide +kernel)) (ve_and (ve_isi .bool (ve_name 0) (by rfl) T.isinstance (by rfl) T.bool (by decide +kernel)) (ve_one (ve_cmp (ow_eq hr.units) (ve_name 0) (ve_name 1))))))) vss_nil) (vss_cons (vs_if (vc_tru (ve_isi .int (ve_name 1) (by rfl) T.isinstance (by rfl) T.int (by decide +kernel))) (vss_one (vs_ret (ve_and (ve_isi .int (ve_name 0) (by rfl) T.isinstance (by rfl) T.int (by decide +kernel)) (ve_one (ve_cmp (ow_eq hr.units) (ve_name 0) (ve_name 1)))))) vss_nil) (vss_one (vs_ret (ve_and (ve_isi .str (ve_name 0) (by rfl) T.isinstance (by rfl) T.str (by decide +kernel)) (ve_one (ve_cmp (ow_eq hr.units) (ve_name 0) (ve_name 1)))))))))))) (by rintro svs Qs ⟨_, _, _, _, rfl, _⟩; rfl) (by
      rintro svs Qs ⟨sa, sb, a, b, rfl, ia, ib, ha, hb, hw, hd, q⟩
      cases b <;> cases a <;> first
        | (simp [D.dat] at ha; done)
        | (simp [D.dat] at hb; done)
        | (simpa [sameD, gSeq, ia.look, ia.d, ib.look, ib.d] using q)
        | skip
      all_goals
        rename_i ys xs
        simp [sameD] at q ha hb hd hw
        simp [gSeq, ia.look, ia.d, ib.look, ib.d]
        split
        · rename_i hl
          have hl : xs.length = ys.length := by omega
          first | rw [zipR_isa ia ib] | rw [zipR_isat ia ib]
          rw [zipD_eq]
          refine lcW_map (fun (p : D × D) => .tup [p.1, p.2]) (fun (p : D × D) => .bl (sameD p.1 p.2)) rfl ?_ (fun p hp R r => ?_) ?_
          · rw [List.length_zip]
            unfold sizeLine
            omega
          · have h1 := List.of_mem_zip (a := p.1) (b := p.2) hp
            simp [gSeq]
            exact ⟨dats_all ha _ h1.1, dats_all hb _ h1.2, wids_all hw.2 _ h1.2, dep_lt_of_mem (by omega) _ h1.2, r⟩
          · simp
            rw [← sames_zip]
            simpa [hl] using q
        · rename_i hl
          have hl : xs.length ≠ ys.length := by omega
          simpa [hl] using q)
end
def d_is_ring : He.DefD := ⟨("is_ring", none), "is_ring", "is_ring", defArgs (top 1), defBody (top 1), defScope (top 1), [], []⟩
theorem sc_is_ring : FnScope ["rows", "value", "row", "at", "low", "high", "more"] ["rows", "value"] d_is_ring.scope := ⟨rfl, rfl, rfl, by decide +kernel, rfl, by decide +kernel, by decide +kernel⟩
def d__law_mixed : He.DefD := ⟨("_law_mixed", none), "_law_mixed", "_law_mixed", defArgs (top 5), defBody (top 5), defScope (top 5), [], []⟩
theorem sc__law_mixed : FnScope ["_law_bag_here", "_law_some", "_law_found", "_law_item"] ["_law_bag_here", "_law_some"] d__law_mixed.scope := ⟨rfl, rfl, rfl, by decide +kernel, rfl, by decide +kernel, by decide +kernel⟩
def d__law_is_ring : He.DefD := ⟨("_law_is_ring", none), "_law_is_ring", "_law_is_ring", defArgs (top 6), defBody (top 6), defScope (top 6), [], []⟩
theorem sc__law_is_ring : FnScope ["_law_my_rows", "_law_some", "_law_whole", "_law_k"] ["_law_my_rows", "_law_some"] d__law_is_ring.scope := ⟨rfl, rfl, rfl, by decide +kernel, rfl, by decide +kernel, by decide +kernel⟩
def d_law : He.DefD := ⟨("law", none), "law", "law", defArgs (top 8), defBody (top 8), defScope (top 8), [], []⟩
theorem sc_law : FnScope ["_law_script", "_law_bag_here", "_law_turn", "_law_size", "_law_my_rows", "_law_ring_z", "_law_here", "_law_k", "_law_goal", "_law_some", "_law_handed", "_law_late", "_law_one", "_law_due", "_law_told"] ["_law_script"] d_law.scope := ⟨rfl, rfl, rfl, by decide +kernel, rfl, by decide +kernel, by decide +kernel⟩
end K17

namespace K17
open PySem PySem.Spec PyProof.Rows L2 VT
abbrev Row := Int × Int × Int
def rowD (r : Row) : D := .tup [.int r.1, .int r.2.1, .int r.2.2]
theorem rowD_eq (a b c : Int) : D.tup [.int a, .int b, .int c] = rowD (a, b, c) := rfl
theorem rowD_dat (r : Row) : (rowD r).dat = true := rfl
theorem rowD_dep (r : Row) : (rowD r).dep = 1 := rfl
theorem rowD_deq (a b : Row) : deq (rowD a) (rowD b) = (a == b) := by
  obtain ⟨a1, a2, a3⟩ := a
  obtain ⟨b1, b2, b3⟩ := b
  have : deq (rowD (a1, a2, a3)) (rowD (b1, b2, b3)) = (a1 == b1 && (a2 == b2 && (a3 == b3 && true))) := rfl
  rw [this, Bool.and_true]
  rfl
theorem rows_dat (rs : List Row) : dats (rs.map rowD) = true := dats_map fun _ _ => rfl
theorem rows_dep (rs : List Row) : deps (rs.map rowD) ≤ 1 := deps_map fun _ _ => Nat.le_refl 1
def inR (rs : List Row) (v : Row) : Bool := rs.any (· == v)
theorem rows_any (rs : List Row) (r : Row) : ((rs.map rowD).any fun z => deq z (rowD r)) = inR rs r := by
  unfold inR
  rw [List.any_map]
  congr 1
  funext x
  exact rowD_deq x r
theorem atI_map {α β : Type} (f : α → β) (xs : List α) (i : Int) : atI (xs.map f) i = (atI xs i).map f := by
  unfold atI
  rw [List.length_map]
  cases ixN xs.length i with
  | none => rfl
  | some j => simp
def pvOk (vs : List Row) (k : Nat) : Bool := match atI vs ((k : Int) - 1), atI vs (k : Int) with
  | some a, some b => a.2.1 == b.1
  | _, _ => false
def ringB (rs vs : List Row) : Bool := !vs.isEmpty && vs.all (inR rs) && ((List.range vs.length).all (pvOk vs)) && decide (0 < (vs.map (·.2.2)).sum)
def NoRing (d : D) : Prop := d = .non ∨ (∃ i, d = .int i) ∨ (∃ x, d = .str x) ∨ d = .lst [.non]
def fRing : FSp := fun svs Q => ∃ sr sv rs d, svs = [sr, sv] ∧ IsA sr (.lst (rs.map rowD)) ∧ IsA sv d ∧ ((∃ vs : List Row, (d = .lst (vs.map rowD) ∨ d = .tup (vs.map rowD)) ∧ vs.length ≤ 1000 ∧ Q (.tr (.bl (ringB rs vs)))) ∨ NoRing d ∧ Q (.tr (.bl false)))
theorem rd_gIxL (xs : List D) (i : Int) (Q : SV → Prop) : gIxD (.lst xs) (.int i) Q = (∃ d, atI xs i = some d ∧ Q (.tr d)) := rfl
theorem rd_gIxT (xs : List D) (i : Int) (Q : SV → Prop) : gIxD (.tup xs) (.int i) Q = (∃ d, atI xs i = some d ∧ Q (.tr d)) := rfl
theorem sum_take_succ (xs : List Int) (k : Nat) (h : k < xs.length) : (xs.take k).sum + xs[k] = (xs.take (k + 1)).sum := by
  rw [List.take_add_one, List.getElem?_eq_getElem h, List.sum_append]
  simp
theorem at_prev {α : Type} (vs : List α) {k : Nat} (h : k < vs.length) : ∃ a, a ∈ vs ∧ atI vs ((k : Int) - 1) = some a := by
  cases k with
  | zero =>
    refine ⟨vs[vs.length - 1], List.getElem_mem (by omega), ?_⟩
    unfold atI ixN
    rw [if_neg (by omega), if_pos (by omega)]
    have : (((0 : Nat) : Int) - 1 + vs.length).toNat = vs.length - 1 := by omega
    rw [this]
    show vs[vs.length - 1]? = _
    rw [List.getElem?_eq_getElem (by omega)]
  | succ k =>
    refine ⟨vs[k], List.getElem_mem (by omega), ?_⟩
    rw [show (((k + 1 : Nat) : Int) - 1) = (k : Int) by omega, atN]
    simp
section
variable {P : Program} {w : World} {K : PySem.W.Frag} {mg : Str → Option Value} {base : Heap}
theorem ok_is_ring (h : DefAt K mg d_is_ring) (T : Facts mg) : FnV P w K mg base d_is_ring 1 ["rows", "value"] fRing :=
  fnv_ok h sc_is_ring (fun f cdv A outer s H E hr => (vss_cons (vs_if (VW.vc (vw_or (vc_not (vc_tru (ve_isi2 .list .tuple (ve_name 1) (by rfl) T.isinstance (by rfl) T.list (by decide +kernel) (by rfl) T.tuple (by decide +kernel)))) (vw_or (vc_cmp (ow_eq hr.units) (ve_callB cw_len (by rfl) T.len (by decide +kernel) (va_cons (ve_name 1) va_nil)) ve_int) (vw_or1 (vc_not (vc_tru (ve_callB (cw_all rfl) (by rfl) T.all (by decide +kernel) (va_cons (ve_lc (own := [("row", 2)]) rfl sc_is_ring.nd (vi_seq (ve_name 1)) (blkOk_by (own := [("row", 2)]) (N := ["rows", "value", "row", "at", "low", "high", "more"]) (sc := d_is_ring.scope) (by decide +kernel)) (fun _ _ _ _ _ => (vg_name (i := 2) sc_is_ring.nd rfl (by first | exact Or.inl rfl | exact Or.inr rfl))) (fun _ _ _ _ _ => vcs_nil) (fun _ _ _ _ _ => (ve_cmp (ow_in hr.units (hu65 hr)) (ve_name 2) (ve_name 0)))) va_nil)))))))) (vss_one (vs_ret ve_bl)) vss_nil) (vss_cons (vs_if (vc_not (vc_tru (ve_callB (cw_all rfl) (by rfl) T.all (by decide +kernel) (va_cons (ve_lc (own := [("at", 3)]) rfl sc_is_ring.nd (vi_r1 (by rfl) T.range (va_cons (ve_callB cw_len (by rfl) T.len (by decide +kernel) (va_cons (ve_name 1) va_nil)) va_nil)) (blkOk_by (own := [("at", 3)]) (N := ["rows", "value", "row", "at", "low", "high", "more"]) (sc := d_is_ring.scope) (by decide +kernel)) (fun _ _ _ _ _ => (vg_name (i := 3) sc_is_ring.nd rfl (by first | exact Or.inl rfl | exact Or.inr rfl))) (fun _ _ _ _ _ => vcs_nil) (fun _ _ _ _ _ => (ve_cmp (ow_eq hr.units) (ve_ix (ve_ix (ve_name 1) (ve_op ow_sub (ve_name 3) ve_int)) ve_int) (ve_ix (ve_ix (ve_name 1) (ve_name 3)) ve_int)))) va_nil)))) (vss_one (vs_ret ve_bl)) vss_nil) (vss_one (vs_ret (ve_cmp ow_gt (ve_callB (cw_sum rfl) (by rfl) T.sum (by decide +kernel) (va_cons (ve_lc (own := [("low", 4), ("high", 5), ("more", 6)]) rfl sc_is_ring.nd (vi_seq (ve_name 1)) (blkOk_by (own := [("low", 4), ("high", 5), ("more", 6)]) (N := ["rows", "value", "row", "at", "low", "high", "more"]) (sc := d_is_ring.scope) (by decide +kernel)) (fun _ _ _ _ _ => (vg_tup rfl (vgs_cons (i := 4) sc_is_ring.nd rfl (by first | exact Or.inl rfl | exact Or.inr rfl) (vgs_cons (i := 5) sc_is_ring.nd rfl (by first | exact Or.inl rfl | exact Or.inr rfl) (vgs_cons (i := 6) sc_is_ring.nd rfl (by first | exact Or.inl rfl | exact Or.inr rfl) vgs_nil))))) (fun _ _ _ _ _ => vcs_nil) (fun _ _ _ _ _ => (ve_name 6))) va_nil)) ve_int)))))) (by rintro svs Qs ⟨_, _, _, _, rfl, _⟩; rfl) (by
    rintro svs Qs ⟨sr, sv, rs, d, rfl, ir, ia, ⟨vs, hd, hl, q⟩ | ⟨hn, q⟩⟩
    · have hdl : d.kind.isSome = true ∧ (d.isT .list = true ∨ d.isT .tuple = true) ∧ d.items = some (vs.map rowD) ∧ ∀ Q, gLen [d] Q ↔ Q (.tr (.int vs.length)) := by
        rcases hd with rfl | rfl
        · exact ⟨rfl, .inl rfl, rfl, fun Q => by simp⟩
        · exact ⟨rfl, .inr rfl, rfl, fun Q => by simp⟩
      have hix : ∀ (i : Int) (Q : SV → Prop), gIxD d (.int i) Q ↔ ∃ a, atI vs i = some a ∧ Q (.tr (rowD a)) := by
        intro i Q
        have e : atI (vs.map rowD) i = (atI vs i).map rowD := atI_map rowD vs i
        rcases hd with rfl | rfl
        · rw [rd_gIxL, e]
          cases atI vs i <;> simp
        · rw [rd_gIxT, e]
          cases atI vs i <;> simp
      refine gSeq_go fun R hR => ?_
      rw [show startS ["rows", "value", "row", "at", "low", "high", "more"] [sr, sv] = [some sr, some sv, none, none, none, none, none] from rfl]
      simp [ir.look, ir.d, ia.look, ia.d, ia.st, hdl.1, hdl.2.1, hdl.2.2.1, hdl.2.2.2]
      by_cases h0 : vs.length = 0
      · have : vs = [] := List.eq_nil_of_length_eq_zero h0
        subst this
        simpa [ringB] using q
      have h0' : vs ≠ [] := fun z => h0 (by rw [z]; rfl)
      simp [h0', hdl.2.1]
      refine lcW_map rowD (fun v => .bl (inR rs v)) rfl (by rw [le_sizeLine]; omega) (fun v hv R2 r2 => ?_) ?_
      · simp [ir.look, ir.d, rows_dat, rowD_dat, rowD_dep, -List.any_map]
        refine ⟨by have := rows_dep rs; omega, ?_⟩
        rw [rows_any]
        exact r2
      · simp [-List.all_eq_true, -List.all_eq_false, -Prod.exists, -Prod.forall]
        cases h1 : vs.all (inR rs)
        · simpa [ringB, h1] using q
        · simp
          rw [hR]
          clear hR R
          refine gSeq_go fun R hR => ?_
          simp [ir.look, ir.d, ia.look, ia.d, ia.st, hdl.2.2.2, -List.all_eq_true, -List.all_eq_false, -Prod.exists, -Prod.forall]
          refine ⟨by omega, lcW_map (as := List.range vs.length) (fun k : Nat => .int k) (fun k => .bl (pvOk vs k)) (by simp [rngD]) (by simp; omega) (fun k hk R2 r2 => ?_) ?_⟩
          · simp [ir.look, ir.d, ia.look, ia.d, ia.st, hix, -Prod.exists, -Prod.forall]
            obtain ⟨a, ha, ea⟩ := at_prev vs (List.mem_range.mp hk)
            have eb : atI vs (k : Int) = some (vs[k]'(List.mem_range.mp hk)) := by rw [atN, List.getElem?_eq_getElem]
            refine ⟨a, ea, ?_⟩
            simp only [rowD]
            simp [-Prod.exists]
            refine ⟨_, eb, ?_⟩
            unfold pvOk at r2
            rw [ea, eb] at r2
            exact r2
          · simp [-List.all_eq_true, -List.all_eq_false, -Prod.exists, -Prod.forall]
            cases h2 : (List.range vs.length).all (pvOk vs)
            · simpa [ringB, h1, h2] using q
            · simp
              rw [hR]
              clear hR R
              simp [ia.look, ia.d, ia.st, hdl.2.2.1, -Prod.exists, -Prod.forall]
              refine lcW_map rowD (fun v => .int v.2.2) rfl (by rw [le_sizeLine]; omega) (fun v hv R2 r2 => ?_) ?_
              · simp [rowD]
                exact r2
              · simp [-List.all_eq_true, -List.all_eq_false, -Prod.exists, -Prod.forall]
                have h0'' : vs.isEmpty = false := by cases vs <;> simp at h0' ⊢
                simpa [ringB, h1, h2, h0''] using q
    · rw [show startS ["rows", "value", "row", "at", "low", "high", "more"] [sr, sv] = [some sr, some sv, none, none, none, none, none] from rfl]
      rcases hn with rfl | ⟨i, rfl⟩ | ⟨i, rfl⟩ | rfl
      · simpa [gSeq, ia.look, ia.d] using q
      · simpa [gSeq, ia.look, ia.d] using q
      · simpa [gSeq, ia.look, ia.d] using q
      · refine gSeq_go fun R hR => ?_
        simp [ir.look, ir.d, ia.look, ia.d, ia.st]
        refine lcW_mapD (fun v => .bl false) (by simp) (fun v hv R2 r2 => ?_) ?_
        · simp at hv
          subst hv
          have hf : ((rs.map rowD).any fun z => deq z .non) = false := by
            rw [List.any_map, List.any_eq_false]
            intro x _
            simp [rowD, deq]
          simp [ir.look, ir.d, rows_dat, -List.any_map]
          refine ⟨by have := rows_dep rs; omega, ?_⟩
          rw [hf]
          exact r2
        · simpa using q)
def fMixed : FSp := fun svs Q => ∃ sv xs, svs = [.bag, sv] ∧ IsA sv (.lst xs) ∧ xs.length ≤ 1000 ∧ ∀ ys : List D, ys.length = xs.length → (∀ y ∈ ys, y ∈ xs) → Q (.own (.lst ys))
theorem ok_mixed (h : DefAt K mg d__law_mixed) (T : Facts mg) (c__law_draw : FnV P w K mg base d__law_draw 1 ["_law_bag_here", "_law_many"] fDraw) : FnV P w K mg base d__law_mixed 2 ["_law_bag_here", "_law_some"] fMixed :=
  fnv_ok h sc__law_mixed (fun f cdv A outer s H E hr => (vss_cons (vs_set (i := 2) sc__law_mixed.nd rfl (by first | exact Or.inl rfl | exact Or.inr rfl) (ve_lst va_nil)) (vss_cons (vs_for PassesOwn.never rfl (vi_seq (ve_name 1)) (vg_name (i := 3) sc__law_mixed.nd rfl (by first | exact Or.inl rfl | exact Or.inr rfl)) (vss_one (vs_insert 2 (va_cons (ve_fz (ve_cv c__law_draw (hr.mono (by omega)) rfl rfl rfl (fun _ _ _ _ _ _ us hl => match us, hl with | [_, _], _ => rfl) (by rfl) (va_cons (ve_name 0) (va_cons (ve_fz (ve_op ow_add (ve_callB cw_len (by rfl) T.len (by decide +kernel) (va_cons (ve_name 2) va_nil)) ve_int)) va_nil)))) (va_cons (ve_name 3) va_nil))))) (vss_one (vs_retName 2))))) (by rintro svs Qs ⟨_, _, rfl, _⟩; rfl) (by
    rintro svs Qs ⟨sv, xs, rfl, ia, hl, q⟩
    rw [show startS ["_law_bag_here", "_law_some", "_law_found", "_law_item"] [SV.bag, sv] = [some .bag, some sv, none, none] from rfl]
    refine gSeq_go fun R hR => ?_
    simp
    rw [hR]
    clear hR R
    refine gSeq_go fun R hR => ?_
    simp [ia.look, ia.d, ia.st]
    refine forW_ix (fun k S => ∃ ys z, S = [some .bag, some sv, some (.own (.lst ys)), z] ∧ ys.length = k ∧ ∀ y ∈ ys, y ∈ xs) ⟨[], _, rfl, rfl, by simp⟩ ?_ ?_
    · rintro S ⟨ys, z, rfl, e, hy⟩
      show R _
      rw [hR]
      simp
      exact q ys e hy
    · rintro k hk S ⟨ys, z, rfl, e, hy⟩ N hN
      simp
      refine ⟨log_lt (by omega), fun r r0 r1 => ⟨r, _, ⟨rfl, rfl⟩, ⟨r0, by omega, by omega⟩, ?_⟩⟩
      refine hN _ ⟨_, _, rfl, ?_, fun y hm => ?_⟩
      · simp
        omega
      · simp at hm
        rcases hm with hm | rfl | hm
        · exact hy _ (List.mem_of_mem_take hm)
        · exact List.getElem_mem hk
        · exact hy _ (List.mem_of_mem_drop hm))
def fLawRing : FSp := fun svs Q => ∃ sr sv rs vs, svs = [sr, sv] ∧ IsA sr (.lst (rs.map rowD)) ∧ IsA sv (.lst (vs.map rowD)) ∧ vs.length ≤ 1000 ∧ Q (.tr (.bl (ringB rs vs)))
theorem ok_law_is_ring (h : DefAt K mg d__law_is_ring) (T : Facts mg) : FnV P w K mg base d__law_is_ring 1 ["_law_my_rows", "_law_some"] fLawRing :=
  fnv_ok h sc__law_is_ring (fun f cdv A outer s H E hr => (vss_cons (vs_if (VW.vc (vw_or (vc_not (vc_tru (ve_isi .list (ve_name 1) (by rfl) T.isinstance (by rfl) T.list (by decide +kernel)))) (vw_or1 (vc_cmp (ow_eq hr.units) (ve_name 1) (ve_lst va_nil))))) (vss_one (vs_ret ve_bl)) vss_nil) (vss_cons (vs_set (i := 2) sc__law_is_ring.nd rfl (by first | exact Or.inl rfl | exact Or.inr rfl) ve_int) (vss_cons (vs_for PassesOwn.never rfl (vi_r1 (by rfl) T.range (va_cons (ve_callB cw_len (by rfl) T.len (by decide +kernel) (va_cons (ve_name 1) va_nil)) va_nil)) (vg_name (i := 3) sc__law_is_ring.nd rfl (by first | exact Or.inl rfl | exact Or.inr rfl)) (vss_cons (vs_if (VW.vc (vw_or (vc_cmp (ow_notin hr.units (hu65 hr)) (ve_ix (ve_name 1) (ve_name 3)) (ve_name 0)) (vw_or1 (vc_cmp (ow_ne hr.units) (ve_ix (ve_ix (ve_name 1) (ve_op ow_sub (ve_name 3) ve_int)) ve_int) (ve_ix (ve_ix (ve_name 1) (ve_name 3)) ve_int))))) (vss_one (vs_ret ve_bl)) vss_nil) (vss_one (vs_set (i := 2) sc__law_is_ring.nd rfl (by first | exact Or.inl rfl | exact Or.inr rfl) (ve_op ow_add (ve_name 2) (ve_ix (ve_ix (ve_name 1) (ve_name 3)) ve_int)))))) (vss_one (vs_ret (ve_cmp ow_gt (ve_name 2) ve_int))))))) (by rintro svs Qs ⟨_, _, _, _, rfl, _⟩; rfl) (by
    rintro svs Qs ⟨sr, sv, rs, vs, rfl, ir, ia, hl, q⟩
    rw [show startS ["_law_my_rows", "_law_some", "_law_whole", "_law_k"] [sr, sv] = [some sr, some sv, none, none] from rfl]
    have d1 := rows_dep vs
    have d2 := rows_dep rs
    have hix : ∀ (i : Int) (Q : SV → Prop), gIxD (.lst (vs.map rowD)) (.int i) Q ↔ ∃ a, atI vs i = some a ∧ Q (.tr (rowD a)) := by
      intro i Q
      have e : atI (vs.map rowD) i = (atI vs i).map rowD := atI_map rowD vs i
      rw [rd_gIxL, e]
      cases atI vs i <;> simp
    refine gSeq_go fun R hR => ?_
    simp [ia.look, ia.d, ia.st, rows_dat]
    refine ⟨by omega, ?_⟩
    by_cases h0 : vs = []
    · subst h0
      simpa [ringB] using q
    have h0' : deqs (vs.map rowD) [] = false := by
      cases vs with
      | nil => exact (h0 rfl).elim
      | cons x xs => rfl
    have h0'' : vs.isEmpty = false := by cases vs <;> simp at h0 ⊢
    simp [h0']
    rw [hR]
    clear hR R
    refine gSeq_go fun R hR => ?_
    simp
    rw [hR]
    clear hR R
    refine gSeq_go fun R hR => ?_
    simp [ia.look, ia.d, ia.st]
    refine ⟨by omega, ?_⟩
    refine forW_rng (fun k S => ∃ z, S = [some sr, some sv, some (.tr (.int (((vs.take k).map (·.2.2)).sum))), z] ∧ ∀ j (hj : j < vs.length), j < k → inR rs vs[j] = true ∧ pvOk vs j = true) ⟨_, rfl, fun j _ hj => by omega⟩ ?_ ?_
    · rintro S ⟨z, rfl, hall⟩
      show R _
      rw [hR]
      have h1 : vs.all (inR rs) = true := List.all_eq_true.mpr fun v hv => by
        obtain ⟨j, hj, rfl⟩ := List.mem_iff_getElem.mp hv
        exact (hall j hj hj).1
      have h2 : (List.range vs.length).all (pvOk vs) = true := List.all_eq_true.mpr fun j hj => (hall j (List.mem_range.mp hj) (List.mem_range.mp hj)).2
      rw [List.take_length]
      simpa [ringB, h1, h2, h0''] using q
    · rintro k hk S ⟨z, rfl, hall⟩ N hN
      obtain ⟨a, ha, ea⟩ := at_prev vs hk
      have eb : atI vs (k : Int) = some vs[k] := by rw [atN, List.getElem?_eq_getElem]
      simp
      refine gSeq_go fun R2 hR2 => ?_
      simp [ia.look, ia.d, ir.look, ir.d, hix, ea, eb, rows_dat, rowD_dat, rowD_dep, rows_any, -List.any_map, -Prod.exists, -Prod.forall, -List.any_eq_true, -List.not_any_eq_all_not, -List.any_eq_false, -List.all_map]
      refine ⟨by omega, ?_⟩
      cases h1 : inR rs vs[k] with
      | false =>
        have : vs.all (inR rs) = false := List.all_eq_false.mpr ⟨_, List.getElem_mem hk, by rw [h1]; exact Bool.false_ne_true⟩
        simpa [ringB, this] using q
      | true =>
        have hp : pvOk vs k = (a.2.1 == vs[k].1) := by
          unfold pvOk
          rw [ea, eb]
        simp [rowD]
        cases h2 : (a.2.1 == vs[k].1) with
        | false =>
          have : (List.range vs.length).all (pvOk vs) = false := List.all_eq_false.mpr ⟨k, List.mem_range.mpr hk, by rw [hp, h2]; exact Bool.false_ne_true⟩
          simp at h2
          simp [ringB, this] at q
          exact .inr ⟨h2, q⟩
        | true =>
          rw [h2] at hp
          simp at h2
          refine .inl ⟨h2, ?_⟩
          rw [hR2]
          clear hR2 R2
          simp [ia.look, ia.d, hix, eb, -Prod.exists, -Prod.forall]
          simp [rowD]
          have es := sum_take_succ (vs.map (·.2.2)) k (by simpa using hk)
          rw [List.getElem_map] at es
          refine hN _ ⟨some (.tr (.int k)), by rw [List.map_take, ← es], fun j hj hjk => ?_⟩
          rcases Nat.lt_succ_iff_lt_or_eq.mp hjk with h | rfl
          · exact hall j hj h
          · exact ⟨h1, hp⟩)
end
end K17

namespace K17
open PySem PySem.Spec PyProof.Rows L2 VT
theorem rows_of : ∀ {ys : List D}, (∀ y ∈ ys, ∃ r : Row, y = rowD r) → ∃ rs : List Row, ys = rs.map rowD
  | [], _ => ⟨[], rfl⟩
  | y :: ys, h => by
    obtain ⟨r, rfl⟩ := h y (List.mem_cons_self ..)
    obtain ⟨rs, rfl⟩ := rows_of fun z hz => h z (List.mem_cons_of_mem _ hz)
    exact ⟨r :: rs, rfl⟩
theorem deqs_refl : ∀ rs : List Row, deqs (rs.map rowD) (rs.map rowD) = true
  | [] => rfl
  | r :: rs => by
    rw [List.map_cons, deqs_cons, rowD_deq, deqs_refl rs]
    simp
section
variable {P : Program} {w : World} {K : PySem.W.Frag} {mg : Str → Option Value} {base : Heap}
theorem ok_law (T : Facts mg) (hB : DefAt K mg d__law_bag) (c__law_draw : FnV P w K mg base d__law_draw 1 ["_law_bag_here", "_law_many"] fDraw) (c__law_mixed : FnV P w K mg base d__law_mixed 2 ["_law_bag_here", "_law_some"] fMixed)
    (c_is_ring : FnV P w K mg base d_is_ring 1 ["rows", "value"] fRing) (c__law_is_ring : FnV P w K mg base d__law_is_ring 1 ["_law_my_rows", "_law_some"] fLawRing) (c__law_same : FnV P w K mg base d__law_same 2 ["_law_found", "_law_due"] (fSame 2)) :
    ∀ fd, FunD K d_law.name d_law.qual d_law.params d_law.body d_law.scope (d_law.dvs K) (d_law.kws K) (He.fAd K d_law.at_) fd → FnOk P w K mg base CX0 3 (He.fAd K d_law.at_) fd ["_law_script"] (spLaw K) := by
  obtain ⟨fdB, FB, GB⟩ := ok_bag (P := P) (w := w) (base := base) hB T
  have bB : Binds K fdB ["_law_script"] [] := FB.bindsN fun _ _ _ _ _ _ us hl => match us, hl with | [_], _ => rfl
  refine law_ok sc_law (fun f cdv A outer s H E hr => pss_cons (ps_set (i := 1) sc_law.nd rfl (by first | exact Or.inl rfl | exact Or.inr rfl) (pe_call GB (hr.mono (by omega)) (by rfl) hB.mg FB.kp bB .nil pass0 (pa_cons (pv 0) pa_nil))) (VSs.ex (vss_cons (vs_for PassesOwn.never rfl (vi_r1 (by rfl) T.range (va_cons ve_int va_nil)) (vg_name (i := 2) sc_law.nd rfl (by first | exact Or.inl rfl | exact Or.inr rfl)) (vss_cons (vs_set (i := 3) sc_law.nd rfl (by first | exact Or.inl rfl | exact Or.inr rfl) (ve_op ow_add ve_int (ve_cv c__law_draw (hr.mono (by omega)) rfl rfl rfl (fun _ _ _ _ _ _ us hl => match us, hl with | [_, _], _ => rfl) (by rfl) (va_cons (ve_name 1) (va_cons ve_int va_nil))))) (vss_cons (vs_set (i := 4) sc_law.nd rfl (by first | exact Or.inl rfl | exact Or.inr rfl) (ve_lc (own := [("_law_k", 7)]) rfl sc_law.nd (vi_r1 (by rfl) T.range (va_cons (ve_op ow_add ve_int (ve_cv c__law_draw (hr.mono (by omega)) rfl rfl rfl (fun _ _ _ _ _ _ us hl => match us, hl with | [_, _], _ => rfl) (by rfl) (va_cons (ve_name 1) (va_cons ve_int va_nil)))) va_nil)) (blkOk_by (own := [("_law_k", 7)]) (N := ["_law_script", "_law_bag_here", "_law_turn", "_law_size", "_law_my_rows", "_law_ring_z", "_law_here", "_law_k", "_law_goal", "_law_some", "_law_handed", "_law_late", "_law_one", "_law_due", "_law_told"]) (sc := d_law.scope) (by decide +kernel)) (fun _ _ _ _ _ => (vg_name (i := 7) sc_law.nd rfl (by first | exact Or.inl rfl | exact Or.inr rfl))) (fun _ _ _ _ _ => vcs_nil) (fun _ _ _ _ _ => (ve_tup (va_cons (ve_fz (ve_cv c__law_draw (hr.mono (by omega)) rfl rfl rfl (fun _ _ _ _ _ _ us hl => match us, hl with | [_, _], _ => rfl) (by rfl) (va_cons (ve_name 1) (va_cons (ve_name 3) va_nil)))) (va_cons (ve_fz (ve_cv c__law_draw (hr.mono (by omega)) rfl rfl rfl (fun _ _ _ _ _ _ us hl => match us, hl with | [_, _], _ => rfl) (by rfl) (va_cons (ve_name 1) (va_cons (ve_name 3) va_nil)))) (va_cons (ve_fz (ve_op ow_sub (ve_cv c__law_draw (hr.mono (by omega)) rfl rfl rfl (fun _ _ _ _ _ _ us hl => match us, hl with | [_, _], _ => rfl) (by rfl) (va_cons (ve_name 1) (va_cons ve_int va_nil))) ve_int)) va_nil))))))) (vss_cons (vs_par2 (i := 5) (j := 6) rfl sc_law.nd rfl rfl (by decide) rfl rfl (va_cons (ve_lst va_nil) (va_cons (ve_cv c__law_draw (hr.mono (by omega)) rfl rfl rfl (fun _ _ _ _ _ _ us hl => match us, hl with | [_, _], _ => rfl) (by rfl) (va_cons (ve_name 1) (va_cons (ve_name 3) va_nil))) va_nil)) (by rfl)) (vss_cons (vs_for PassesOwn.never rfl (vi_r1 (by rfl) T.range (va_cons (ve_op ow_add ve_int (ve_cv c__law_draw (hr.mono (by omega)) rfl rfl rfl (fun _ _ _ _ _ _ us hl => match us, hl with | [_, _], _ => rfl) (by rfl) (va_cons (ve_name 1) (va_cons ve_int va_nil)))) va_nil)) (vg_name (i := 7) sc_law.nd rfl (by first | exact Or.inl rfl | exact Or.inr rfl)) (vss_cons (vs_set (i := 8) sc_law.nd rfl (by first | exact Or.inl rfl | exact Or.inr rfl) (ve_cv c__law_draw (hr.mono (by omega)) rfl rfl rfl (fun _ _ _ _ _ _ us hl => match us, hl with | [_, _], _ => rfl) (by rfl) (va_cons (ve_name 1) (va_cons (ve_name 3) va_nil)))) (vss_cons (vs_append 5 (va_cons (ve_tup (va_cons (ve_name 6) (va_cons (ve_name 8) (va_cons (ve_fz (ve_op ow_sub (ve_cv c__law_draw (hr.mono (by omega)) rfl rfl rfl (fun _ _ _ _ _ _ us hl => match us, hl with | [_, _], _ => rfl) (by rfl) (va_cons (ve_name 1) (va_cons ve_int va_nil))) ve_int)) va_nil)))) va_nil)) (vss_one (vs_set (i := 6) sc_law.nd rfl (by first | exact Or.inl rfl | exact Or.inr rfl) (ve_name 8)))))) (vss_cons (vs_append 5 (va_cons (ve_tup (va_cons (ve_name 6) (va_cons (ve_fz (ve_ix (ve_ix (ve_name 5) ve_int) ve_int)) (va_cons (ve_fz (ve_op ow_sub (ve_cv c__law_draw (hr.mono (by omega)) rfl rfl rfl (fun _ _ _ _ _ _ us hl => match us, hl with | [_, _], _ => rfl) (by rfl) (va_cons (ve_name 1) (va_cons ve_int va_nil))) ve_int)) va_nil)))) va_nil)) (vss_cons (vs_set (i := 9) sc_law.nd rfl (by first | exact Or.inl rfl | exact Or.inr rfl) (ve_cv c__law_mixed (hr.mono (by omega)) rfl rfl rfl (fun _ _ _ _ _ _ us hl => match us, hl with | [_, _], _ => rfl) (by rfl) (va_cons (ve_name 1) (va_cons (ve_fz (ve_op ow_add (ve_name 4) (ve_slice (ve_name 5) (vo_some (ve_op ow_mul (ve_cv c__law_draw (hr.mono (by omega)) rfl rfl rfl (fun _ _ _ _ _ _ us hl => match us, hl with | [_, _], _ => rfl) (by rfl) (va_cons (ve_name 1) (va_cons ve_int va_nil))) (ve_cv c__law_draw (hr.mono (by omega)) rfl rfl rfl (fun _ _ _ _ _ _ us hl => match us, hl with | [_, _], _ => rfl) (by rfl) (va_cons (ve_name 1) (va_cons ve_int va_nil))))) vo_none))) va_nil)))) (vss_cons (vs_set (i := 10) sc_law.nd rfl (by first | exact Or.inl rfl | exact Or.inr rfl) (ve_callT cw_list (by rfl) T.list (by decide +kernel) (va_cons (ve_name 9) va_nil))) (vss_cons (vs_set (i := 11) sc_law.nd rfl (by first | exact Or.inl rfl | exact Or.inr rfl) (ve_op ow_add (ve_slice (ve_name 5) (vo_some (ve_cv c__law_draw (hr.mono (by omega)) rfl rfl rfl (fun _ _ _ _ _ _ us hl => match us, hl with | [_, _], _ => rfl) (by rfl) (va_cons (ve_name 1) (va_cons (ve_fz (ve_callB cw_len (by rfl) T.len (by decide +kernel) (va_cons (ve_name 5) va_nil))) va_nil)))) vo_none) (ve_slice (ve_name 5) vo_none (vo_some (ve_cv c__law_draw (hr.mono (by omega)) rfl rfl rfl (fun _ _ _ _ _ _ us hl => match us, hl with | [_, _], _ => rfl) (by rfl) (va_cons (ve_name 1) (va_cons ve_int va_nil))))))) (vss_cons (vs_fz 11 (vs_fz 5 (vs_for PassesOwn.never rfl (vi_seq (ve_fz (ve_lst (va_cons (ve_name 5) (va_cons (ve_name 11) (va_cons (ve_fz (ve_rev (ve_name 5))) (va_cons (ve_fz (ve_op ow_add (ve_name 5) (ve_name 5))) (va_cons (ve_fz (ve_slice (ve_name 5) (vo_some ve_int) vo_none)) va_nil)))))))) (vg_name (i := 12) sc_law.nd rfl (by first | exact Or.inl rfl | exact Or.inr rfl)) (vss_cons (vs_set (i := 13) sc_law.nd rfl (by first | exact Or.inl rfl | exact Or.inr rfl) (ve_cv c__law_is_ring (hr.mono (by omega)) rfl rfl rfl (fun _ _ _ _ _ _ us hl => match us, hl with | [_, _], _ => rfl) (by rfl) (va_cons (ve_name 9) (va_cons (ve_name 12) va_nil)))) (vss_one (vs_if (vc_not (vc_tru (ve_cv c__law_same (hr.mono (by omega)) rfl rfl rfl (fun _ _ _ _ _ _ us hl => match us, hl with | [_, _], _ => rfl) (by rfl) (va_cons (ve_fz (ve_lst (va_cons (ve_fz (ve_cv c_is_ring (hr.mono (by omega)) rfl rfl rfl (fun _ _ _ _ _ _ us hl => match us, hl with | [_, _], _ => rfl) (by rfl) (va_cons (ve_name 10) (va_cons (ve_name 12) va_nil)))) (va_cons (ve_fz (ve_ck0 (ks := ["value", "rows"]) (ix := [1, 0]) c_is_ring (hr.mono (by omega)) rfl rfl (fun _ _ _ _ _ _ us ws h1 h2 => match us, ws, h1, h2 with | [], [_, _], _, _ => rfl) (by rfl) (vk_cons (ve_fz (ve_callT cw_tuple (by rfl) T.tuple (by decide +kernel) (va_cons (ve_name 12) va_nil))) (vk_cons (ve_name 10) vk_nil)))) va_nil)))) (va_cons (ve_fz (ve_lst (va_cons (ve_name 13) (va_cons (ve_name 13) va_nil)))) va_nil))))) (vss_one (vs_ret ve_bl)) vss_nil)))))) (vss_one (vs_if (vc_cmp (ow_ne hr.units) (ve_name 10) (ve_name 9)) (vss_one (vs_ret ve_bl)) vss_nil)))))))))))) (vss_cons (vs_set (i := 4) sc_law.nd rfl (by first | exact Or.inl rfl | exact Or.inr rfl) (ve_lst (va_cons (ve_tup (va_cons ve_int (va_cons ve_int (va_cons ve_int va_nil)))) (va_cons (ve_tup (va_cons ve_int (va_cons ve_int (va_cons ve_int va_nil)))) (va_cons (ve_tup (va_cons ve_int (va_cons ve_int (va_cons ve_int va_nil)))) (va_cons (ve_tup (va_cons ve_int (va_cons ve_int (va_cons ve_int va_nil)))) va_nil)))))) (vss_cons (vs_setLc (i := 14) (hy := rfl) (hyl := rfl) (hsw := sw_true rfl rfl rfl (by decide +kernel)) (own := [("_law_one", 12)]) (hc := rfl) (hN := sc_law.nd) (vi_seq (ve_fz (ve_lst (va_cons (ve_fz (ve_lst va_nil)) (va_cons ve_non (va_cons ve_int (va_cons (ve_fz (ve_lst (va_cons (ve_tup (va_cons ve_int (va_cons ve_int (va_cons ve_int va_nil)))) va_nil))) (va_cons (ve_fz (ve_lst (va_cons (ve_tup (va_cons ve_int (va_cons ve_int (va_cons ve_int va_nil)))) va_nil))) (va_cons (ve_fz (ve_lst (va_cons (ve_tup (va_cons ve_int (va_cons ve_int (va_cons ve_int va_nil)))) (va_cons (ve_tup (va_cons ve_int (va_cons ve_int (va_cons ve_int va_nil)))) va_nil)))) (va_cons (ve_fz (ve_lst (va_cons (ve_tup (va_cons ve_int (va_cons ve_int (va_cons ve_int va_nil)))) va_nil))) (va_cons ve_str (va_cons (ve_fz (ve_lst (va_cons ve_non va_nil))) va_nil)))))))))))) (blkOk_by (own := [("_law_one", 12)]) (N := ["_law_script", "_law_bag_here", "_law_turn", "_law_size", "_law_my_rows", "_law_ring_z", "_law_here", "_law_k", "_law_goal", "_law_some", "_law_handed", "_law_late", "_law_one", "_law_due", "_law_told"]) (sc := d_law.scope) (by decide +kernel)) (fun _ _ _ _ _ => (vg_name (i := 12) sc_law.nd rfl (by first | exact Or.inl rfl | exact Or.inr rfl))) (fun _ _ _ _ _ => vcs_nil) (fun _ _ _ _ _ => (ve_fz (ve_cv c_is_ring (hr.mono (by omega)) rfl rfl rfl (fun _ _ _ _ _ _ us hl => match us, hl with | [_, _], _ => rfl) (by rfl) (va_cons (ve_name 4) (va_cons (ve_name 12) va_nil)))))) (vss_one (vs_ret (ve_cv c__law_same (hr.mono (by omega)) rfl rfl rfl (fun _ _ _ _ _ _ us hl => match us, hl with | [_, _], _ => rfl) (by rfl) (va_cons (ve_name 14) (va_cons (ve_fz (ve_lst (va_cons ve_bl (va_cons ve_bl (va_cons ve_bl (va_cons ve_bl (va_cons ve_bl (va_cons ve_bl (va_cons ve_bl (va_cons ve_bl (va_cons ve_bl va_nil))))))))))) va_nil)))))))))) ?_
  refine gSeq_go fun R hR => ?_
  simp
  refine forW_rng (fun _ S => ∃ a b c d e f g h i j k l m, S = [none, some .bag, a, b, c, d, e, f, g, h, i, j, k, l, m]) ⟨_, _, _, _, _, _, _, _, _, _, _, _, _, rfl⟩ ?_ ?_
  · rintro S ⟨a, b, c, d, e, f, g, h, i, j, k, l, m, rfl⟩
    show R _
    rw [hR]
    clear hR R
    refine gSeq_go fun R hR => ?_
    simp
    rw [hR]
    clear hR R
    refine gSeq_go fun R hR => ?_
    simp
    have e4 : [D.tup [D.int 0, D.int 1, D.int 1], D.tup [D.int 1, D.int 0, D.int 0], D.tup [D.int 1, D.int 1, D.int 5], D.tup [D.int 0, D.int 0, D.int 0]] = [(0, 1, 1), (1, 0, 0), (1, 1, 5), (0, 0, 0)].map rowD := rfl
    rw [e4]
    have q1 : ∀ (vs : List Row) (Q : SV → Prop), vs.length ≤ 1000 → Q (.tr (.bl (ringB [(0, 1, 1), (1, 0, 0), (1, 1, 5), (0, 0, 0)] vs))) → fRing [.brw (.lst (List.map rowD [(0, 1, 1), (1, 0, 0), (1, 1, 5), (0, 0, 0)])), .tr (.lst (vs.map rowD))] Q :=
      fun vs Q hl q => ⟨_, _, _, _, rfl, (isA_brw _ _).mpr rfl, (isA_tr _ _).mpr rfl, .inl ⟨vs, .inl rfl, hl, q⟩⟩
    have q2 : ∀ (d : D) (Q : SV → Prop), NoRing d → Q (.tr (.bl false)) → fRing [.brw (.lst (List.map rowD [(0, 1, 1), (1, 0, 0), (1, 1, 5), (0, 0, 0)])), .tr d] Q :=
      fun d Q hl q => ⟨_, _, _, _, rfl, (isA_brw _ _).mpr rfl, (isA_tr _ _).mpr rfl, .inr ⟨hl, q⟩⟩
    refine lcW_map (as := [(false, D.lst []), (false, D.non), (false, D.int 3), (true, D.lst [D.tup [D.int 1, D.int 1, D.int 5]]), (false, D.lst [D.tup [D.int 0, D.int 0, D.int 0]]), (true, D.lst [D.tup [D.int 0, D.int 1, D.int 1], D.tup [D.int 1, D.int 0, D.int 0]]), (false, D.lst [D.tup [D.int 0, D.int 1, D.int 1]]), (false, D.str (Str.ofString "a")), (false, D.lst [D.non])]) (fun p => p.2) (fun p => .bl p.1) rfl (by simp) (fun p hp R2 r2 => ?_) ?_
    · simp only [ggName, gFz, gCall, gaCons, gaNil, gName4, List.set]
      simp
      simp only [List.mem_cons, List.not_mem_nil, or_false] at hp
      rcases hp with rfl | rfl | rfl | rfl | rfl | rfl | rfl | rfl | rfl
      · exact q1 [] _ (by decide) r2
      · exact q2 _ _ (.inl rfl) r2
      · exact q2 _ _ (.inr (.inl ⟨_, rfl⟩)) r2
      · exact q1 [(1, 1, 5)] _ (by decide) r2
      · exact q1 [(0, 0, 0)] _ (by decide) r2
      · exact q1 [(0, 1, 1), (1, 0, 0)] _ (by decide) r2
      · exact q1 [(0, 1, 1)] _ (by decide) r2
      · exact q2 _ _ (.inr (.inr (.inl ⟨_, rfl⟩))) r2
      · exact q2 _ _ (.inr (.inr (.inr rfl))) r2
    · simp
      rw [hR]
      simp [sameD, sames]
      exact rfl
  · rintro k0 hk0 S ⟨a, b, c, d, e, f, g, h, i, j, k, l, m, rfl⟩ N hN
    simp
    refine gSeq_go fun R1 hR1 => ?_
    simp
    refine ⟨by decide, fun sz0 s0 s1 => ?_⟩
    obtain ⟨sz, hsz⟩ : ∃ sz : Int, 2 + sz0 = sz := ⟨_, rfl⟩
    have hs1 : 2 ≤ sz ∧ sz < 10 := by omega
    rw [hsz]
    rw [hR1]
    clear hR1 R1 hsz
    refine gSeq_go fun R1 hR1 => ?_
    have hlog : sz.natAbs.log2 < 9000 := log_lt (by omega)
    have hpos : 0 < sz := by omega
    simp
    refine ⟨by decide, fun n n0 n1 => ⟨by omega, ?_⟩⟩
    refine lcW_some (fun _ y => ∃ r : Row, y = rowD r) (by simp; omega) (fun d _ R2 r2 => ?_) fun ys hys => ?_
    · simp [hlog, hpos]
      refine fun r1 _ _ r3 _ _ => ⟨by decide, fun r4 _ _ => r2 _ ⟨(r1, r3, r4 - 4), rfl⟩⟩
    have hyl := hys.length
    obtain ⟨rows, rfl⟩ : ∃ rows : List Row, ys = rows.map rowD := rows_of (hys.all fun _ _ h => h)
    simp at hyl
    simp
    rw [hR1]
    clear hR1 R1
    refine gSeq_go fun R1 hR1 => ?_
    simp [hlog, hpos]
    refine fun h0 _ _ => ?_
    rw [hR1]
    clear hR1 R1
    refine gSeq_go fun R1 hR1 => ?_
    simp
    refine ⟨by decide, fun n2 n20 n21 => ⟨by omega, ?_⟩⟩
    refine forW_rng (fun kk S => ∃ (vs : List Row) (hh : Int) (z w : Option SV), S = [none, some .bag, some (.tr (.int k0)), some (.tr (.int sz)), some (.own (.lst (rows.map rowD))), some (.own (.lst (vs.map rowD))), some (.tr (.int hh)), z, w, h, i, j, k, l, m] ∧ vs.length = kk) ⟨[], h0, _, _, rfl, rfl⟩ ?_ ?_
    · rintro S ⟨vs, hh, z, w, rfl, hvl⟩
      show R1 _
      rw [hR1]
      clear hR1 R1
      refine gSeq_go fun R1 hR1 => ?_
      cases vs with
      | nil => simp at hvl; omega
      | cons v0 vs0 =>
      simp [rowD]
      refine ⟨by decide, fun r4 _ _ => ⟨by simp at hvl; omega, ?_⟩⟩
      obtain ⟨ring, hring, hrl, hr0⟩ : ∃ ring : List Row, rowD v0 :: (vs0.map rowD ++ [rowD (hh, v0.1, r4 - 4)]) = ring.map rowD ∧ ring.length ≤ 10 ∧ 0 < ring.length := ⟨(v0 :: vs0) ++ [(hh, v0.1, r4 - 4)], by simp, by simp at hvl ⊢; omega, by simp⟩
      simp only [rowD] at hring
      simp [hring]
      rw [hR1]
      clear hR1 R1
      refine gSeq_go fun R1 hR1 => ?_
      simp
      refine ⟨log_lt (by decide), fun r5 _ _ => ⟨log_lt (by decide), fun r6 _ _ => ⟨cmulW (by omega) (by omega), ?_⟩⟩⟩
      obtain ⟨tl, htl, htll⟩ : ∃ tl : List Row, cutD (ring.map rowD) (some (r5 * r6)) none = tl.map rowD ∧ tl.length ≤ 10 := ⟨cutD ring (some (r5 * r6)) none, (map_cut rowD ring _ _).symm, Nat.le_trans (cutD_len _ _ _) hrl⟩
      rw [htl, ← List.map_append]
      refine ⟨by simp; omega, _, _, rfl, (isA_tr _ _).mpr rfl, by simp; omega, fun ys hyl2 hys => ?_⟩
      obtain ⟨some_, rfl, hsl⟩ : ∃ s : List Row, ys = s.map rowD ∧ s.length ≤ 1000 := by
        obtain ⟨s, e⟩ := rows_of fun y hy => let ⟨r, _, e⟩ := List.mem_map.mp (hys y hy); (⟨r, e.symm⟩ : ∃ r : Row, y = rowD r)
        exact ⟨s, e, by rw [e] at hyl2; simp at hyl2; omega⟩
      clear hyl2 hys
      simp
      rw [hR1]
      clear hR1 R1
      refine gSeq_go fun R1 hR1 => ?_
      simp
      rw [hR1]
      clear hR1 R1
      refine gSeq_go fun R1 hR1 => ?_
      simp
      refine ⟨?_, log_lt (by omega), fun r7 r70 r71 => ⟨log_lt (by decide), fun r8 _ _ => ?_⟩⟩
      · exact hr0
      rw [← map_cut, ← map_cut, ← List.map_append]
      have hc1 := cutD_len ring (some r7) none
      have hc2 := cutD_len ring none (some r8)
      refine ⟨by simp; omega, ?_⟩
      obtain ⟨late, hlate, hll⟩ : ∃ late : List Row, cutD ring (some r7) none ++ cutD ring none (some r8) = late ∧ late.length ≤ 20 := ⟨_, rfl, by simp; omega⟩
      rw [hlate]
      rw [hR1]
      clear hR1 R1
      refine gSeq_go fun R1 hR1 => ?_
      simp
      refine ⟨by omega, ?_⟩
      have h5 : ∀ d ∈ [D.lst (List.map rowD ring), D.lst (List.map rowD late), D.lst (List.map rowD ring).reverse, D.lst (List.map rowD ring ++ List.map rowD ring), D.lst (cutD (List.map rowD ring) (some 1) none)], ∃ vs : List Row, d = .lst (vs.map rowD) ∧ vs.length ≤ 40 := by
        intro d hd
        simp only [List.mem_cons, List.not_mem_nil, or_false] at hd
        rcases hd with rfl | rfl | rfl | rfl | rfl
        · exact ⟨ring, rfl, by omega⟩
        · exact ⟨late, rfl, by omega⟩
        · exact ⟨ring.reverse, by simp, by simp; omega⟩
        · exact ⟨ring ++ ring, by simp, by simp; omega⟩
        · exact ⟨cutD ring (some 1) none, by rw [map_cut], by have := cutD_len ring (some 1) none; omega⟩
      generalize [D.lst (List.map rowD ring), D.lst (List.map rowD late), D.lst (List.map rowD ring).reverse, D.lst (List.map rowD ring ++ List.map rowD ring), D.lst (cutD (List.map rowD ring) (some 1) none)] = ones at h5
      refine ⟨fun r S => (∀ d ∈ r, ∃ vs : List Row, d = .lst (vs.map rowD) ∧ vs.length ≤ 40) ∧ ∃ x y u, S = [none, some SV.bag, some (SV.tr (D.int ↑k0)), some (SV.tr (D.int sz)), some (SV.own (D.lst (List.map rowD rows))),
        some (SV.tr (D.lst (List.map rowD ring))), some (SV.tr (D.int hh)), z, w,
        some (SV.own (D.lst (List.map rowD some_))), some (SV.own (D.lst (List.map rowD some_))),
        some (SV.tr (D.lst (List.map rowD late))), x, y, u], ⟨h5, _, _, _, rfl⟩, ?_, ?_⟩
      · rintro S ⟨_, x, y, u, rfl⟩
        show R1 _
        rw [hR1]
        clear hR1 R1
        have := rows_dep some_
        have e : deqs (some_.map rowD) (some_.map rowD) = true := deqs_refl some_
        simp [rows_dat, e]
        exact ⟨by omega, hN _ ⟨_, _, _, _, _, _, _, _, _, _, _, _, _, rfl⟩⟩
      · rintro d r S ⟨hd, x, y, u, rfl⟩
        obtain ⟨vs, rfl, hvl⟩ := hd d (List.mem_cons_self ..)
        have hr := fun z hz => hd z (List.mem_cons_of_mem _ hz)
        simp
        refine gSeq_go fun R2 hR2 => ?_
        simp
        refine ⟨_, _, some_, vs, rfl, (isA_brw _ _).mpr rfl, (isA_tr _ _).mpr rfl, by omega, ?_⟩
        simp
        rw [hR2]
        clear hR2 R2
        simp
        refine ⟨_, _, some_, _, rfl, (isA_brw _ _).mpr rfl, (isA_tr _ _).mpr rfl, .inl ⟨vs, .inl rfl, by omega, ?_⟩⟩
        simp
        refine ⟨_, _, some_, _, rfl, (isA_brw _ _).mpr rfl, (isA_tr _ _).mpr rfl, .inl ⟨vs, .inr rfl, by omega, ?_⟩⟩
        simp [sameD, sames]
        exact hr
    · rintro k hk S ⟨vs, hh, z, w, rfl, hvl⟩ N2 hN2
      simp
      refine gSeq_go fun R2 hR2 => ?_
      simp [hlog, hpos]
      refine fun g0 _ _ => ?_
      rw [hR2]
      clear hR2 R2
      refine gSeq_go fun R2 hR2 => ?_
      simp
      refine ⟨by decide, fun r4 _ _ => ⟨by omega, ?_⟩⟩
      rw [hR2]
      clear hR2 R2
      simp
      have e : List.map rowD vs ++ [D.tup [D.int hh, D.int g0, D.int (r4 - 4)]] = List.map rowD (vs ++ [(hh, g0, r4 - 4)]) := by
        rw [List.map_append]
        rfl
      rw [e]
      exact hN2 _ ⟨vs ++ [(hh, g0, r4 - 4)], g0, _, _, rfl, by simp [hvl]⟩
end
end K17

set_option maxHeartbeats 0
namespace K17
open PySem PySem.Spec PyProof.Rows L2 VT
def fn : List He.DefD := [d_is_ring, d__law_bag, d__law_draw, d__law_mixed, d__law_is_ring, d__law_same, d_law]
def fa : List He.Fa := [.free "abs", .free "all", .free "bool", .free "int", .free "isinstance", .free "len", .free "list", .free "range", .free "str", .free "sum", .free "tuple", .free "zip", .glo "is_ring", .glo "_law_bag", .glo "_law_draw", .glo "_law_mixed", .glo "_law_is_ring", .glo "_law_same", .glo "law"]
abbrev R : PySem.W.OpenRow := PySem.W.OpenLaw.row PySem.Challenge.rw_heardwire_k17_rings_of_bounds
abbrev hk : PySem.W.Hook := He.hookD 4 fa fn
def ob (s : PySem.W.SharedT) : He.AlD := He.obsDG 4 fa fn (HandSHeadRun.getT s)
theorem ob_eq (s : PySem.W.SharedT) : ob s = hk.obs s.abs := He.obsDG_eq (HandSHeadRun.getT_eq s)
def loose : List PySem.Str := (["is_ring", "_law_bag", "_law_draw", "_law_mixed", "_law_is_ring", "_law_same"] : List PySem.Str)
theorem run (w : World) : HandSHeadRun.RunEq R (PySem.W.view R.prog [8]) hk ob 4000 loose w := by
  intro os
  kernel_rfl
structure Defs (K : PySem.W.Frag) (mg : Str → Option Value) : Prop where
  is_ring : DefAt K mg d_is_ring
  _law_bag : DefAt K mg d__law_bag
  _law_draw : DefAt K mg d__law_draw
  _law_mixed : DefAt K mg d__law_mixed
  _law_is_ring : DefAt K mg d__law_is_ring
  _law_same : DefAt K mg d__law_same
  law : DefAt K mg d_law
theorem defs_of {K : PySem.W.Frag} {h : Heap} {mg : Str → Option Value} (X : K.In h) (G : h.Ns mainGlobals mg) (c : He.SaysD fa fn K) : Facts mg ∧ Defs K mg :=
  ⟨⟨He.free_ok X G (c.fact 0 (f := .free "abs") rfl),
    He.free_ok X G (c.fact 1 (f := .free "all") rfl),
    He.free_ok X G (c.fact 2 (f := .free "bool") rfl),
    He.free_ok X G (c.fact 3 (f := .free "int") rfl),
    He.free_ok X G (c.fact 4 (f := .free "isinstance") rfl),
    He.free_ok X G (c.fact 5 (f := .free "len") rfl),
    He.free_ok X G (c.fact 6 (f := .free "list") rfl),
    He.free_ok X G (c.fact 7 (f := .free "range") rfl),
    He.free_ok X G (c.fact 8 (f := .free "str") rfl),
    He.free_ok X G (c.fact 9 (f := .free "sum") rfl),
    He.free_ok X G (c.fact 10 (f := .free "tuple") rfl),
    He.free_ok X G (c.fact 11 (f := .free "zip") rfl)⟩,
   ⟨⟨c.def_ 0 (d := d_is_ring) rfl, He.glo_ok X G (c.fact 12 (f := .glo "is_ring") rfl)⟩,
    ⟨c.def_ 1 (d := d__law_bag) rfl, He.glo_ok X G (c.fact 13 (f := .glo "_law_bag") rfl)⟩,
    ⟨c.def_ 2 (d := d__law_draw) rfl, He.glo_ok X G (c.fact 14 (f := .glo "_law_draw") rfl)⟩,
    ⟨c.def_ 3 (d := d__law_mixed) rfl, He.glo_ok X G (c.fact 15 (f := .glo "_law_mixed") rfl)⟩,
    ⟨c.def_ 4 (d := d__law_is_ring) rfl, He.glo_ok X G (c.fact 16 (f := .glo "_law_is_ring") rfl)⟩,
    ⟨c.def_ 5 (d := d__law_same) rfl, He.glo_ok X G (c.fact 17 (f := .glo "_law_same") rfl)⟩,
    ⟨c.def_ 6 (d := d_law) rfl, He.glo_ok X G (c.fact 18 (f := .glo "law") rfl)⟩⟩⟩
theorem law_holds {P : Program} {w : World} {K : PySem.W.Frag} {mg : Str → Option Value} {base : Heap} (T : Facts mg) (D : Defs K mg) :
    ∀ fd, FunD K d_law.name d_law.qual d_law.params d_law.body d_law.scope (d_law.dvs K) (d_law.kws K) (He.fAd K d_law.at_) fd → FnOk P w K mg base CX0 3 (He.fAd K d_law.at_) fd ["_law_script"] (spLaw K) := by
  have c_draw := ok_draw (P := P) (w := w) (base := base) D._law_draw T
  exact ok_law T D._law_bag c_draw (ok_mixed D._law_mixed T c_draw) (ok_is_ring D.is_ring T) (ok_law_is_ring D._law_is_ring T) (ok_same D._law_same T 2)
theorem facts {P : Program} {w : World} {K : PySem.W.Frag} {h : Heap} {mg : Str → Option Value} {f : Addr} (X : K.In h) (G : h.Ns mainGlobals mg) (hfa : mg ("law" : Str) = some (.ref f)) (c : He.SaysD fa fn K) :
    ∃ fd : FuncData, (∀ (s : Shared) (v : Value), BindsTo s fd ⟨[v], []⟩ [("_law_script", v)]) ∧ ∀ base : Heap, K.In base → base.Ns mainGlobals mg → FnOk P w K mg base CX0 3 f fd ["_law_script"] (spLaw K) := by
  obtain ⟨T, D⟩ := defs_of X G c
  obtain ⟨fd, F⟩ := D.law.fd
  have e := hfa.symm.trans D.law.mg
  cases e
  have b := FunD.bindsA (ps := ["_law_script"]) F fun _ _ _ _ _ _ us hl => match us, hl with | [_], _ => rfl
  exact ⟨fd, fun s v => b s [v] rfl, fun base _ _ => law_holds (P := P) (w := w) (base := base) T D fd F⟩
end K17
open PySem PySem.W PySem.Calls PyProof.Rows
theorem PySem.Challenge.cw_heardwire_k17_rings_of_bounds_holds : PySem.Challenge.rw_heardwire_k17_rings_of_bounds.Holds := by
  w_on; o_law
  refine HandSHeadRun.head_any (r := OpenLaw.row PySem.Challenge.rw_heardwire_k17_rings_of_bounds) (q := view (OpenLaw.row PySem.Challenge.rw_heardwire_k17_rings_of_bounds).prog [8]) (H := K17.hk) (ob := K17.ob) (M := 4000) (loose := K17.loose) (d := HandSHeadRun.topDef (OpenLaw.row PySem.Challenge.rw_heardwire_k17_rings_of_bounds).prog 8) (kwd := []) K17.ob_eq
    (by kernel_rfl) (fun s => by kernel_rfl) K17.run (by kernel_rfl) (by kernel_rfl) (by kernel_rfl) (by rfl) (by first | assumption | decide +kernel) (by decide +kernel) ⟨rfl, rfl, rfl, rfl, rfl, by decide +kernel⟩ ?hw ?hc
  case hw => w_witness2
  case hc =>
    refine L2.walk_ofE (l := PySem.Challenge.rw_heardwire_k17_rings_of_bounds) (n := 63) (k := 3) (x := "_law_script") (CX := L2.CX0) rfl (by decide) (by kernel_rfl) ⟨rfl, by decide, by decide⟩ ?F (fun _ _ _ _ z => z)
    intro w mg fa h Y G hmg0
    obtain ⟨K, KX, c⟩ := Y
    have hmg : mg ("law" : PySem.Str) = some (.ref fa) := by
      have e : (HandSHeadRun.topDef (OpenLaw.row PySem.Challenge.rw_heardwire_k17_rings_of_bounds).prog 8).name = ("law" : PySem.Str) := by kernel_rfl
      rw [← e]
      exact hmg0
    obtain ⟨fd, hb, hF⟩ := K17.facts (P := (PySem.Challenge.rw_heardwire_k17_rings_of_bounds).prog) (w := w) KX G hmg c
    exact ⟨K, fd, VT.spLaw K, KX, hb, fun H a ns hl _ hS => ⟨a, ns, rfl, hS, fun _ => rfl⟩, hF⟩
