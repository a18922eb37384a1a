import PyProof.Rows.All
import Wide.All
import OpenK.AllK
import Wide.FinOn
import HandS.ForMost
import HandS.ForExc
import HandS.EndBits
import HandS.TupAny
import HandS.Wide
import HandS.Flow
import HandS.Style
import HandS.CallSlots
import HandS.SortInts
import HandS.Zip
import HandS.TupMul
import HandS.IsInst
import PySem.Challenge.RW_swornworlds_k24_marks
set_option Elab.async false
set_option linter.all false
set_option maxRecDepth 100000
set_option maxHeartbeats 4000000
set_option autoImplicit false
namespace R
open PySem PySem.Spec PyProof.Rows L2

/-! ## R0: data, slots, the virtual heap, and how they stand for the layer's values -/

/-- data: what a value of the program is, without addresses; ref n: the n-th shared object -/
inductive D where
  | non | bl (b : Bool) | int (i : Int) | str (x : Str) | ty (n : String)
  | tup (xs : List D) | lst (xs : List D) | dct (ks : List Key) (xs : List D) | obj (c : Str) (ns : List Str) (xs : List D)
  | ref (n : Nat) | scr (ns : List Int)

/-- an expression's value: data, or a list that nobody else holds -/
inductive DV where
  | v (d : D) | fr (ds : List D)
@[reducible] def DV.d : DV → D
  | .v d => d
  | .fr ds => .lst ds

/-- a name's slot: nothing, data, or a list that this slot alone holds -/
inductive Slot where
  | no | val (d : D) | own (ds : List D)

/-- a shared object -/
inductive VO where
  | lst (xs : List D) | dct (ks : List Key) (xs : List D) | ins (c : Str) (ns : List Str) (xs : List D)

/-- what of the program the relation wants: the written part, the classes' addresses -/
structure Wd where
  K : PySem.W.Frag
  cl : Str → Option Addr

def KL (K : PySem.W.Frag) (a : Addr) (xs : List V) : Prop :=
  ∃ (o : Obj) (its : Array Value) (n : Nat), K.lookup a = some o ∧ o.cls = .type "list" ∧ o.dict = none ∧ o.data = .seq its n ∧ its.size ≤ sizeLine ∧ Vals xs its.toList
def SqV (K : PySem.W.Frag) (Z : Addr → Prop) (H : Hp) (a : Addr) (xs : List V) : Prop := (¬ Z a ∧ Rd H a (.lst xs)) ∨ KL K a xs
theorem SqV.sq {K : PySem.W.Frag} {Z : Addr → Prop} {H : Hp} {a : Addr} {xs : List V} (h : SqV K Z H a xs) : SqL K H a xs := by
  rcases h with ⟨_, h⟩ | h
  · exact .inl h
  · exact .inr h

mutual
def RD (G : Wd) (Z : Addr → Prop) (ρ : List Addr) (H : Hp) : D → V → Prop
  | .non, v => v = .non
  | .bl b, v => v = .bl b
  | .int i, v => v = .int i
  | .str x, v => v = .str x
  | .ty n, v => v = .ty n
  | .tup xs, v => ∃ a vs, v = .ref a ∧ SqT G.K H a vs ∧ RDs G Z ρ H xs vs
  | .lst xs, v => ∃ a vs, v = .ref a ∧ ¬ Z a ∧ H a = some (.lst vs) ∧ RDs G Z ρ H xs vs
  | .dct ks xs, v => ∃ a ws vs, v = .ref a ∧ ¬ Z a ∧ H a = some (.dK ws) ∧ ws.map (·.1) = ks ∧ ws.map (·.2) = vs ∧ RDs G Z ρ H xs vs
  | .obj c ns xs, v => ∃ a C dx ws vs, v = .ref a ∧ ¬ Z a ∧ G.cl c = some C ∧ H a = some (.ins C dx ws) ∧ ws.map (·.1) = ns ∧ ws.map (·.2) = vs ∧ RDs G Z ρ H xs vs
  | .ref n, v => ∃ a, ρ[n]? = some a ∧ v = .ref a
  | .scr ns, v => ∃ a, v = .ref a ∧ SqV G.K Z H a (ns.map V.int)
def RDs (G : Wd) (Z : Addr → Prop) (ρ : List Addr) (H : Hp) : List D → List V → Prop
  | [], vs => vs = []
  | d :: ds, vs => ∃ v r, vs = v :: r ∧ RD G Z ρ H d v ∧ RDs G Z ρ H ds r
end

/-- how the ground may move under data -/
structure Mv (Z : Addr → Prop) (ρ : List Addr) (H : Hp) (Z' : Addr → Prop) (ρ' : List Addr) (H' : Hp) : Prop where
  pre : ∀ (n : Nat) (a : Addr), ρ[n]? = some a → ρ'[n]? = some a
  keep : ∀ a u, ¬ Z a → H a = some u → ¬ Z' a ∧ H' a = some u
  tup : ∀ a xs, Rd H a (.tup xs) → Rd H' a (.tup xs)

theorem Mv.sqv {K : PySem.W.Frag} {Z Z' : Addr → Prop} {ρ ρ' : List Addr} {H H' : Hp} (m : Mv Z ρ H Z' ρ' H') {a : Addr} {xs : List V} (h : SqV K Z H a xs) : SqV K Z' H' a xs := by
  rcases h with ⟨nz, h | ⟨o, h⟩⟩ | h
  · obtain ⟨n1, h1⟩ := m.keep a _ nz h
    exact .inl ⟨n1, .inl h1⟩
  · obtain ⟨n1, h1⟩ := m.keep a _ nz h
    exact .inl ⟨n1, .inr ⟨o, h1⟩⟩
  · exact .inr h
theorem Mv.sqt {K : PySem.W.Frag} {Z Z' : Addr → Prop} {ρ ρ' : List Addr} {H H' : Hp} (m : Mv Z ρ H Z' ρ' H') {a : Addr} {xs : List V} (h : SqT K H a xs) : SqT K H' a xs := by
  rcases h with h | h
  · exact .inl (m.tup a xs h)
  · exact .inr h

mutual
theorem RD.move {G : Wd} {Z Z' : Addr → Prop} {ρ ρ' : List Addr} {H H' : Hp} (m : Mv Z ρ H Z' ρ' H') : ∀ (d : D) (v : V), RD G Z ρ H d v → RD G Z' ρ' H' d v
  | .non, v, h => h
  | .bl b, v, h => h
  | .int i, v, h => h
  | .str x, v, h => h
  | .ty n, v, h => h
  | .tup xs, v, h => by
    obtain ⟨a, vs, e, h1, h2⟩ := h
    exact ⟨a, vs, e, m.sqt h1, RDs.move m xs vs h2⟩
  | .lst xs, v, h => by
    obtain ⟨a, vs, e, nz, h1, h2⟩ := h
    obtain ⟨n1, h3⟩ := m.keep a _ nz h1
    exact ⟨a, vs, e, n1, h3, RDs.move m xs vs h2⟩
  | .scr ns, v, h => by
    obtain ⟨a, e, h1⟩ := h
    exact ⟨a, e, m.sqv h1⟩
  | .dct ks xs, v, h => by
    obtain ⟨a, ws, vs, e, nz, h1, e1, e2, h2⟩ := h
    obtain ⟨n1, h3⟩ := m.keep a _ nz h1
    exact ⟨a, ws, vs, e, n1, h3, e1, e2, RDs.move m xs vs h2⟩
  | .obj c ns xs, v, h => by
    obtain ⟨a, C, dx, ws, vs, e, nz, hc, h1, e1, e2, h2⟩ := h
    obtain ⟨n1, h3⟩ := m.keep a _ nz h1
    exact ⟨a, C, dx, ws, vs, e, n1, hc, h3, e1, e2, RDs.move m xs vs h2⟩
  | .ref n, v, h => by
    obtain ⟨a, h1, e⟩ := h
    exact ⟨a, m.pre n a h1, e⟩
theorem RDs.move {G : Wd} {Z Z' : Addr → Prop} {ρ ρ' : List Addr} {H H' : Hp} (m : Mv Z ρ H Z' ρ' H') : ∀ (ds : List D) (vs : List V), RDs G Z ρ H ds vs → RDs G Z' ρ' H' ds vs
  | [], vs, h => h
  | d :: ds, vs, h => by
    obtain ⟨v, r, e, h1, h2⟩ := h
    exact ⟨v, r, e, RD.move m d v h1, RDs.move m ds r h2⟩
end

section
variable {G : Wd} {Z : Addr → Prop} {ρ : List Addr} {H : Hp}
theorem RDs.length : ∀ {ds : List D} {vs : List V}, RDs G Z ρ H ds vs → ds.length = vs.length
  | [], vs, h => by cases (show vs = [] from h); rfl
  | d :: ds, vs, h => by
    obtain ⟨v, r, rfl, _, h2⟩ := h
    rw [List.length_cons, List.length_cons, RDs.length h2]
theorem RDs.get : ∀ {ds : List D} {vs : List V} {i : Nat} {d : D}, RDs G Z ρ H ds vs → ds[i]? = some d → ∃ v, vs[i]? = some v ∧ RD G Z ρ H d v
  | [], _, _, _, _, e => by simp at e
  | d :: ds, vs, 0, x, h, e => by
    obtain ⟨v, r, rfl, h1, _⟩ := h
    simp at e
    subst e
    exact ⟨v, rfl, h1⟩
  | d :: ds, vs, i + 1, x, h, e => by
    obtain ⟨v, r, rfl, _, h2⟩ := h
    obtain ⟨w, h3, h4⟩ := RDs.get (i := i) h2 (by simpa using e)
    exact ⟨w, by simpa using h3, h4⟩
theorem RDs.getV : ∀ {ds : List D} {vs : List V} {i : Nat} {v : V}, RDs G Z ρ H ds vs → vs[i]? = some v → ∃ d, ds[i]? = some d ∧ RD G Z ρ H d v
  | [], vs, i, v, h, e => by cases (show vs = [] from h); simp at e
  | d :: ds, vs, 0, x, h, e => by
    obtain ⟨v, r, rfl, h1, _⟩ := h
    simp at e
    subst e
    exact ⟨d, rfl, h1⟩
  | d :: ds, vs, i + 1, x, h, e => by
    obtain ⟨v, r, rfl, _, h2⟩ := h
    obtain ⟨w, h3, h4⟩ := RDs.getV (i := i) h2 (by simpa using e)
    exact ⟨w, by simpa using h3, h4⟩
theorem RDs.append : ∀ {ds es : List D} {vs ws : List V}, RDs G Z ρ H ds vs → RDs G Z ρ H es ws → RDs G Z ρ H (ds ++ es) (vs ++ ws)
  | [], es, vs, ws, h, h' => by cases (show vs = [] from h); exact h'
  | d :: ds, es, vs, ws, h, h' => by
    obtain ⟨v, r, rfl, h1, h2⟩ := h
    exact ⟨v, r ++ ws, rfl, h1, RDs.append h2 h'⟩
theorem RDs.take : ∀ {ds : List D} {vs : List V} (n : Nat), RDs G Z ρ H ds vs → RDs G Z ρ H (ds.take n) (vs.take n)
  | _, _, 0, _ => rfl
  | [], vs, n + 1, h => by cases (show vs = [] from h); rfl
  | d :: ds, vs, n + 1, h => by
    obtain ⟨v, r, rfl, h1, h2⟩ := h
    exact ⟨v, r.take n, rfl, h1, RDs.take n h2⟩
theorem RDs.drop : ∀ {ds : List D} {vs : List V} (n : Nat), RDs G Z ρ H ds vs → RDs G Z ρ H (ds.drop n) (vs.drop n)
  | _, _, 0, h => h
  | [], vs, n + 1, h => by cases (show vs = [] from h); rfl
  | d :: ds, vs, n + 1, h => by
    obtain ⟨v, r, rfl, h1, h2⟩ := h
    exact RDs.drop n h2
theorem RDs.set : ∀ {ds : List D} {vs : List V} {d : D} {v : V} (n : Nat), RDs G Z ρ H ds vs → RD G Z ρ H d v → RDs G Z ρ H (ds.set n d) (vs.set n v)
  | [], vs, d, v, n, h, _ => by cases (show vs = [] from h); rfl
  | d' :: ds, vs, d, v, 0, h, q => by
    obtain ⟨v', r, rfl, h1, h2⟩ := h
    exact ⟨v, r, rfl, q, h2⟩
  | d' :: ds, vs, d, v, n + 1, h, q => by
    obtain ⟨v', r, rfl, h1, h2⟩ := h
    exact ⟨v', r.set n v, rfl, h1, RDs.set n h2 q⟩
theorem RDs.reverse : ∀ {ds : List D} {vs : List V}, RDs G Z ρ H ds vs → RDs G Z ρ H ds.reverse vs.reverse
  | [], vs, h => by cases (show vs = [] from h); rfl
  | d :: ds, vs, h => by
    obtain ⟨v, r, rfl, h1, h2⟩ := h
    rw [List.reverse_cons, List.reverse_cons]
    exact RDs.append (RDs.reverse h2) ⟨v, [], rfl, h1, rfl⟩
theorem RDs.erase : ∀ {ds : List D} {vs : List V} (n : Nat), RDs G Z ρ H ds vs → RDs G Z ρ H (ds.eraseIdx n) (vs.eraseIdx n)
  | [], vs, n, h => by cases (show vs = [] from h); rfl
  | d :: ds, vs, 0, h => by
    obtain ⟨v, r, rfl, h1, h2⟩ := h
    exact h2
  | d :: ds, vs, n + 1, h => by
    obtain ⟨v, r, rfl, h1, h2⟩ := h
    exact ⟨v, r.eraseIdx n, rfl, h1, RDs.erase n h2⟩
theorem RDs.one {d : D} {v : V} (h : RD G Z ρ H d v) : RDs G Z ρ H [d] [v] := ⟨v, [], rfl, h, rfl⟩
theorem RDs.ints : ∀ ns : List Int, RDs G Z ρ H (ns.map D.int) (ns.map V.int)
  | [] => rfl
  | n :: ns => ⟨.int n, ns.map V.int, rfl, rfl, RDs.ints ns⟩
theorem RDs.ints_of : ∀ {ns : List Int} {vs : List V}, RDs G Z ρ H (ns.map D.int) vs → vs = ns.map V.int
  | [], vs, h => h
  | n :: ns, vs, h => by
    obtain ⟨v, r, rfl, h1, h2⟩ := h
    rw [RDs.ints_of h2, show v = .int n from h1]
    rfl
theorem RDs.bls_of : ∀ {ns : List Bool} {vs : List V}, RDs G Z ρ H (ns.map D.bl) vs → vs = ns.map V.bl
  | [], vs, h => h
  | n :: ns, vs, h => by
    obtain ⟨v, r, rfl, h1, h2⟩ := h
    rw [RDs.bls_of h2, show v = .bl n from h1]
    rfl
end

/-- the slot holds it alone -/
def Own (env : List Slot) (σ : L2.St) (a : Addr) (i : Nat) : Prop := ∃ ds, env[i]? = some (.own ds) ∧ σ[i]? = some (some (.ref a))
/-- what may be written here -/
def MZ (T ρ : List Addr) (env : List Slot) (σ : L2.St) (a : Addr) : Prop := a ∈ T ∨ a ∈ ρ ∨ ∃ i, Own env σ a i
/-- what stays: F the callers' own lists; mu what may be written since H0 -/
structure Base where
  F : Addr → Prop
  mu : Addr → Prop
  H0 : Hp
  r0 : List Addr
def ZZ (F : Addr → Prop) (T ρ : List Addr) (env : List Slot) (σ : L2.St) (a : Addr) : Prop := F a ∨ MZ T ρ env σ a
/-- an object of a kind that is written -/
def Mt : HO → Prop
  | .lst _ => True
  | .dK _ => True
  | .ins _ _ _ => True
  | _ => False
def RO (G : Wd) (Z : Addr → Prop) (ρ : List Addr) (H : Hp) (a : Addr) : VO → Prop
  | .lst xs => ∃ vs, H a = some (.lst vs) ∧ RDs G Z ρ H xs vs
  | .dct ks xs => ∃ ws vs, H a = some (.dK ws) ∧ ws.map (·.1) = ks ∧ ws.map (·.2) = vs ∧ RDs G Z ρ H xs vs
  | .ins c ns xs => ∃ C dx ws vs, G.cl c = some C ∧ H a = some (.ins C dx ws) ∧ ws.map (·.1) = ns ∧ ws.map (·.2) = vs ∧ RDs G Z ρ H xs vs
def RSl (G : Wd) (Z : Addr → Prop) (ρ : List Addr) (H : Hp) (o : Option (Option V)) : Slot → Prop
  | .no => True
  | .val d => ∃ v, o = some (some v) ∧ RD G Z ρ H d v
  | .own ds => ∃ a vs, o = some (some (.ref a)) ∧ H a = some (.lst vs) ∧ RDs G Z ρ H ds vs

structure Rel (G : Wd) (B : Base) (T ρ : List Addr) (env : List Slot) (vh : List VO) (σ : L2.St) (H : Hp) : Prop where
  vl : vh.length = ρ.length
  rn : ρ.Nodup
  tn : T.Nodup
  tr : ∀ a, a ∈ T → a ∉ ρ
  ot : ∀ i a, Own env σ a i → a ∉ T ∧ a ∉ ρ
  oi : ∀ i j a, Own env σ a i → Own env σ a j → i = j
  fm : ∀ a, B.F a → ¬ MZ T ρ env σ a
  tk : ∀ a, ZZ B.F T ρ env σ a → ∃ u, H a = some u ∧ Mt u
  ob : ∀ (n : Nat) (o : VO) (a : Addr), vh[n]? = some o → ρ[n]? = some a → RO G (ZZ B.F T ρ env σ) ρ H a o
  sl : σ.length = env.length
  st : ∀ (i : Nat) (s : Slot), env[i]? = some s → RSl G (ZZ B.F T ρ env σ) ρ H σ[i]? s
  kp : ∀ a u, B.H0 a = some u → ¬ B.mu a → H a = some u
  tp : ∀ a xs, Rd B.H0 a (.tup xs) → Rd H a (.tup xs)
  zn : ∀ a, MZ T ρ env σ a → B.mu a ∨ B.H0 a = none
  pr : ∀ (n : Nat) (a : Addr), B.r0[n]? = some a → ρ[n]? = some a

theorem RO.move {G : Wd} {Z Z' : Addr → Prop} {ρ ρ' : List Addr} {H H' : Hp} (m : Mv Z ρ H Z' ρ' H') {a : Addr} {o : VO} (h : RO G Z ρ H a o) (e : H' a = H a) : RO G Z' ρ' H' a o := by
  cases o with
  | lst xs => obtain ⟨vs, h1, h2⟩ := h; exact ⟨vs, e.trans h1, RDs.move m _ _ h2⟩
  | dct ks xs => obtain ⟨ws, vs, h1, e1, e2, h2⟩ := h; exact ⟨ws, vs, e.trans h1, e1, e2, RDs.move m _ _ h2⟩
  | ins c ns xs => obtain ⟨C, dx, ws, vs, hc, h1, e1, e2, h2⟩ := h; exact ⟨C, dx, ws, vs, hc, e.trans h1, e1, e2, RDs.move m _ _ h2⟩
theorem RO.mt {G : Wd} {Z : Addr → Prop} {ρ : List Addr} {H : Hp} {a : Addr} {o : VO} (h : RO G Z ρ H a o) : ∃ u, H a = some u ∧ Mt u := by
  cases o with
  | lst xs => obtain ⟨vs, h1, h2⟩ := h; exact ⟨_, h1, trivial⟩
  | dct ks xs => obtain ⟨ws, vs, h1, e1, e2, h2⟩ := h; exact ⟨_, h1, trivial⟩
  | ins c ns xs => obtain ⟨C, dx, ws, vs, hc, h1, e1, e2, h2⟩ := h; exact ⟨_, h1, trivial⟩
theorem RSl.move {G : Wd} {Z Z' : Addr → Prop} {ρ ρ' : List Addr} {H H' : Hp} (m : Mv Z ρ H Z' ρ' H') {o : Option (Option V)} {s : Slot} (h : RSl G Z ρ H o s) (e : ∀ a ds, s = .own ds → o = some (some (.ref a)) → H' a = H a) : RSl G Z' ρ' H' o s := by
  cases s with
  | no => trivial
  | val d => obtain ⟨v, h1, h2⟩ := h; exact ⟨v, h1, RD.move m _ _ h2⟩
  | own ds => obtain ⟨a, vs, h1, h2, h3⟩ := h; exact ⟨a, vs, h1, (e a ds rfl h1).trans h2, RDs.move m _ _ h3⟩

theorem mt_tup {H : Hp} {a : Addr} {u : HO} {xs : List V} (h : H a = some u) (m : Mt u) : ¬ Rd H a (.tup xs) := by
  rintro (q | ⟨o, q⟩)
  · rw [h] at q; cases q; exact m
  · rw [h] at q; cases q; exact m
end R

namespace R
open PySem PySem.Spec PyProof.Rows L2
/-! ## R1: how the relation goes on -/
section
variable {G : Wd} {B : Base} {T ρ : List Addr} {env : List Slot} {vh : List VO} {σ : L2.St} {H : Hp}

theorem Mv.same {Z : Addr → Prop} {H' : Hp} (s : Same H H') : Mv Z ρ H Z ρ H' :=
  ⟨fun _ _ h => h, fun a u nz h => ⟨nz, s a u h⟩, fun a xs h => by
    rcases h with h | ⟨o, h⟩
    · exact .inl (s _ _ h)
    · exact .inr ⟨o, s _ _ h⟩⟩
theorem Mv.less {Z Z' : Addr → Prop} (h : ∀ a, Z' a → Z a) : Mv Z ρ H Z' ρ H :=
  ⟨fun _ _ h => h, fun a u nz e => ⟨fun z => nz (h a z), e⟩, fun a xs e => e⟩
theorem Mv.fresh {Z Z' : Addr → Prop} {H' : Hp} (s : Same H H') (h : ∀ a, Z' a → Z a ∨ H a = none) : Mv Z ρ H Z' ρ H' :=
  ⟨fun _ _ h => h, fun a u nz e => ⟨fun z => (h a z).elim nz fun q => (by rw [e] at q; cases q), s a u e⟩, (Mv.same (Z := Z) (ρ := ρ) s).tup⟩
theorem Mv.upd {Z : Addr → Prop} {x : Addr} {o u : HO} (hx : Z x) (e : H x = some o) (mo : Mt o) : Mv Z ρ H Z ρ (upd H x u) :=
  ⟨fun _ _ h => h, fun a w nz h => ⟨nz, (upd_ne (fun z => nz (by rw [z]; exact hx))).trans h⟩, fun a xs h => by
    have ne : a ≠ x := fun z => by subst z; exact mt_tup e mo h
    rcases h with h | ⟨o, h⟩
    · exact .inl (by rw [upd_ne ne]; exact h)
    · exact .inr ⟨o, by rw [upd_ne ne]; exact h⟩⟩
theorem same_new {p : Addr} {o : HO} (h : H p = none) : Same H (upd H p o) := fun b x e => by
  rw [upd_ne (ne_of_none e h)]
  exact e

theorem Rel.grow {H' : Hp} (R : Rel G B T ρ env vh σ H) (s : Same H H') : Rel G B T ρ env vh σ H' := by
  have m : Mv (ZZ B.F T ρ env σ) ρ H (ZZ B.F T ρ env σ) ρ H' := Mv.same s
  refine ⟨R.vl, R.rn, R.tn, R.tr, R.ot, R.oi, R.fm, fun a z => ?_, fun n o a h1 h2 => ?_, R.sl, fun i x h => ?_, fun a u h1 h2 => s _ _ (R.kp a u h1 h2), fun a xs h => m.tup a xs (R.tp a xs h), R.zn, R.pr⟩
  · obtain ⟨u, h, q⟩ := R.tk a z
    exact ⟨u, s _ _ h, q⟩
  · have q := R.ob n o a h1 h2
    obtain ⟨u, h, _⟩ := q.mt
    exact q.move m ((s _ _ h).trans h.symm)
  · refine (R.st i x h).move m fun a ds e e2 => ?_
    subst e
    obtain ⟨u, h', _⟩ := R.tk a (.inr (.inr (.inr ⟨i, ds, h, e2⟩)))
    exact (s _ _ h').trans h'.symm
theorem Rel.grown {d : D} {v : V} {H' : Hp} (s : Same H H') (h : RD G (ZZ B.F T ρ env σ) ρ H d v) : RD G (ZZ B.F T ρ env σ) ρ H' d v := RD.move (Mv.same s) _ _ h

/-- a new list (or other object) of ours -/
theorem Rel.tmp {p : Addr} {o : HO} (R : Rel G B T ρ env vh σ H) (hp : H p = none) (mo : Mt o) : Rel G B (p :: T) ρ env vh σ (upd H p o) := by
  have s := same_new (o := o) hp
  have np : ∀ a, ZZ B.F T ρ env σ a → a ≠ p := fun a z e => by
    obtain ⟨u, h, _⟩ := R.tk a z
    rw [e, hp] at h; cases h
  have m : Mv (ZZ B.F T ρ env σ) ρ H (ZZ B.F (p :: T) ρ env σ) ρ (upd H p o) := Mv.fresh s fun a z => by
    rcases z with z | z | z
    · exact .inl (.inl z)
    · rcases List.mem_cons.mp z with e | z
      · exact .inr (by rw [e]; exact hp)
      · exact .inl (.inr (.inl z))
    · exact .inl (.inr (.inr z))
  refine ⟨R.vl, R.rn, List.nodup_cons.mpr ⟨fun z => np p (.inr (.inl z)) rfl, R.tn⟩, fun a z => ?_, fun i a z => ⟨fun q => ?_, (R.ot i a z).2⟩, R.oi, fun a z q => ?_, fun a z => ?_, fun n o a h1 h2 => ?_, R.sl, fun i x h => ?_, fun a u h1 h2 => s _ _ (R.kp a u h1 h2), fun a xs h => m.tup a xs (R.tp a xs h), fun a z => ?_, R.pr⟩
  · rcases List.mem_cons.mp z with e | z
    · intro q; exact np a (.inr (.inr (.inl q))) e
    · exact R.tr a z
  · rcases List.mem_cons.mp q with e | q
    · exact np a (.inr (.inr (.inr ⟨i, z⟩))) e
    · exact (R.ot i a z).1 q
  · rcases q with q | q
    · rcases List.mem_cons.mp q with e | q
      · exact np a (.inl z) e
      · exact R.fm a z (.inl q)
    · exact R.fm a z (.inr q)
  · rcases z with z | z | z
    · obtain ⟨u, h, q⟩ := R.tk a (.inl z)
      exact ⟨u, s _ _ h, q⟩
    · rcases List.mem_cons.mp z with e | z
      · exact ⟨o, by rw [e]; exact upd_same, mo⟩
      · obtain ⟨u, h, q⟩ := R.tk a (.inr (.inl z))
        exact ⟨u, s _ _ h, q⟩
    · obtain ⟨u, h, q⟩ := R.tk a (.inr (.inr z))
      exact ⟨u, s _ _ h, q⟩
  · have q := R.ob n o a h1 h2
    obtain ⟨u, h, _⟩ := q.mt
    exact q.move m ((s _ _ h).trans h.symm)
  · refine (R.st i x h).move m fun a ds e e2 => ?_
    subst e
    obtain ⟨u, h', _⟩ := R.tk a (.inr (.inr (.inr ⟨i, ds, h, e2⟩)))
    exact (s _ _ h').trans h'.symm
  · rcases z with z | z
    · rcases List.mem_cons.mp z with e | z
      · by_cases mu : B.mu a
        · exact .inl mu
        · refine .inr ?_
          cases q : B.H0 a with
          | none => rfl
          | some u =>
            have := R.kp a u q mu
            rw [e, hp] at this; cases this
      · exact R.zn a (.inl z)
    · exact R.zn a (.inr z)

theorem Own.of_set {i j : Nat} {s : Slot} {v : Option V} {a : Addr} (h : Own (env.set i s) (σ.set i v) a j) : (j = i ∧ ∃ ds, s = .own ds ∧ v = some (.ref a)) ∨ (j ≠ i ∧ Own env σ a j) := by
  obtain ⟨ds, h1, h2⟩ := h
  by_cases e : j = i
  · subst e
    refine .inl ⟨rfl, ds, ?_, ?_⟩
    · by_cases hl : j < env.length
      · rw [List.getElem?_set_self hl] at h1; exact Option.some.inj h1
      · rw [List.getElem?_eq_none (by simpa using hl)] at h1; cases h1
    · by_cases hl : j < σ.length
      · rw [List.getElem?_set_self hl] at h2; exact Option.some.inj h2
      · rw [List.getElem?_eq_none (by simpa using hl)] at h2; cases h2
  · rw [List.getElem?_set_ne (Ne.symm e)] at h1 h2
    exact .inr ⟨e, ds, h1, h2⟩
theorem Own.of_setE {i j : Nat} {s : Slot} {a : Addr} (h : Own (env.set i s) σ a j) : (j = i ∧ ∃ ds, s = .own ds ∧ σ[i]? = some (some (.ref a))) ∨ (j ≠ i ∧ Own env σ a j) := by
  obtain ⟨ds, h1, h2⟩ := h
  by_cases e : j = i
  · subst e
    refine .inl ⟨rfl, ds, ?_, h2⟩
    by_cases hl : j < env.length
    · rw [List.getElem?_set_self hl] at h1; exact Option.some.inj h1
    · rw [List.getElem?_eq_none (by simpa using hl)] at h1; cases h1
  · rw [List.getElem?_set_ne (Ne.symm e)] at h1
    exact .inr ⟨e, ds, h1, h2⟩
theorem set_getE {α : Type} {l : List α} {i j : Nat} {s x : α} (h : (l.set i s)[j]? = some x) : (j = i ∧ x = s) ∨ (j ≠ i ∧ l[j]? = some x) := by
  by_cases e : j = i
  · subst e
    by_cases hl : j < l.length
    · rw [List.getElem?_set_self hl] at h; exact .inl ⟨rfl, (Option.some.inj h).symm⟩
    · rw [List.getElem?_eq_none (by simpa using hl)] at h; cases h
  · rw [List.getElem?_set_ne (Ne.symm e)] at h
    exact .inr ⟨e, h⟩

/-- fewer things that may be written: T, slots made less -/
theorem Rel.weak {T' : List Addr} {env' : List Slot} {σ' : L2.St} (R : Rel G B T ρ env vh σ H) (hT : ∀ a, a ∈ T' → a ∈ T) (nT : T'.Nodup) (hO : ∀ i a, Own env' σ' a i → Own env σ a i)
    (hl : σ'.length = env'.length) (hs : ∀ (i : Nat) (s : Slot), env'[i]? = some s → RSl G (ZZ B.F T' ρ env' σ') ρ H σ'[i]? s) : Rel G B T' ρ env' vh σ' H := by
  have less : ∀ a, MZ T' ρ env' σ' a → MZ T ρ env σ a := fun a z => by
    rcases z with z | z | ⟨i, z⟩
    · exact .inl (hT a z)
    · exact .inr (.inl z)
    · exact .inr (.inr ⟨i, hO i a z⟩)
  have lessZ : ∀ a, ZZ B.F T' ρ env' σ' a → ZZ B.F T ρ env σ a := fun a z => z.elim .inl fun z => .inr (less a z)
  have m : Mv (ZZ B.F T ρ env σ) ρ H (ZZ B.F T' ρ env' σ') ρ H := Mv.less lessZ
  exact ⟨R.vl, R.rn, nT, fun a z => R.tr a (hT a z), fun i a z => ⟨fun q => (R.ot i a (hO i a z)).1 (hT a q), (R.ot i a (hO i a z)).2⟩, fun i j a p q => R.oi i j a (hO i a p) (hO j a q),
    fun a f z => R.fm a f (less a z), fun a z => R.tk a (lessZ a z), fun n o a h1 h2 => (R.ob n o a h1 h2).move m rfl, hl, hs, R.kp, R.tp, fun a z => R.zn a (less a z), R.pr⟩

theorem Rel.dropT {a : Addr} (R : Rel G B (a :: T) ρ env vh σ H) : Rel G B T ρ env vh σ H :=
  R.weak (fun b h => List.mem_cons_of_mem _ h) (List.nodup_cons.mp R.tn).2 (fun _ _ h => h) R.sl fun i s h => (R.st i s h).move (Mv.less fun b z => by
    rcases z with z | z | z
    · exact .inl z
    · exact .inr (.inl (List.mem_cons_of_mem _ z))
    · exact .inr (.inr z)) fun _ _ _ _ => rfl
theorem Rel.dropT_d {a : Addr} {d : D} {v : V} (h : RD G (ZZ B.F (a :: T) ρ env σ) ρ H d v) : RD G (ZZ B.F T ρ env σ) ρ H d v := RD.move (Mv.less fun b z => by
    rcases z with z | z | z
    · exact .inl z
    · exact .inr (.inl (List.mem_cons_of_mem _ z))
    · exact .inr (.inr z)) _ _ h
theorem Rel.dropT_ds {a : Addr} {ds : List D} {vs : List V} (h : RDs G (ZZ B.F (a :: T) ρ env σ) ρ H ds vs) : RDs G (ZZ B.F T ρ env σ) ρ H ds vs := RDs.move (Mv.less fun b z => by
    rcases z with z | z | z
    · exact .inl z
    · exact .inr (.inl (List.mem_cons_of_mem _ z))
    · exact .inr (.inr z)) _ _ h
/-- a list of ours is let go: it is data then -/
theorem Rel.let_go {a : Addr} {ds : List D} {vs : List V} (R : Rel G B (a :: T) ρ env vh σ H) (e : H a = some (.lst vs)) (h : RDs G (ZZ B.F (a :: T) ρ env σ) ρ H ds vs) : RD G (ZZ B.F T ρ env σ) ρ H (.lst ds) (.ref a) := by
  refine ⟨a, vs, rfl, ?_, e, Rel.dropT_ds h⟩
  rintro (z | z | z | ⟨i, z⟩)
  · exact R.fm a z (.inl List.mem_cons_self)
  · exact (List.nodup_cons.mp R.tn).1 z
  · exact R.tr a List.mem_cons_self z
  · exact (R.ot i a z).1 List.mem_cons_self

/-- a name is stored -/
theorem Rel.setVal {i : Nat} {d : D} {v : V} (R : Rel G B T ρ env vh σ H) (h : RD G (ZZ B.F T ρ env σ) ρ H d v) : Rel G B T ρ (env.set i (.val d)) vh (σ.set i (some v)) H := by
  have hO : ∀ j a, Own (env.set i (.val d)) (σ.set i (some v)) a j → Own env σ a j := fun j a z => by
    rcases Own.of_set z with ⟨_, ds, e, _⟩ | ⟨_, q⟩
    · cases e
    · exact q
  have m : Mv (ZZ B.F T ρ env σ) ρ H (ZZ B.F T ρ (env.set i (.val d)) (σ.set i (some v))) ρ H := Mv.less fun a z => by
    rcases z with z | z | z | ⟨j, z⟩
    · exact .inl z
    · exact .inr (.inl z)
    · exact .inr (.inr (.inl z))
    · exact .inr (.inr (.inr ⟨j, hO j a z⟩))
  refine R.weak (fun _ h => h) R.tn hO (by simpa using R.sl) fun j s hj => ?_
  rcases set_getE hj with ⟨e, e2⟩ | ⟨ne, q⟩
  · subst e e2
    have hl : j < σ.length := by
      have := (List.getElem?_eq_some_iff.mp hj).1
      rw [List.length_set] at this
      rw [R.sl]; exact this
    exact ⟨v, by rw [List.getElem?_set_self hl], RD.move m _ _ h⟩
  · rw [List.getElem?_set_ne (Ne.symm ne)]
    exact (R.st j s q).move m fun _ _ _ _ => rfl
theorem Rel.setOwn {i : Nat} {a : Addr} {ds : List D} {vs : List V} (R : Rel G B (a :: T) ρ env vh σ H) (e : H a = some (.lst vs)) (h : RDs G (ZZ B.F (a :: T) ρ env σ) ρ H ds vs) :
    Rel G B T ρ (env.set i (.own ds)) vh (σ.set i (some (.ref a))) H := by
  have hO : ∀ j b, Own (env.set i (.own ds)) (σ.set i (some (.ref a))) b j → (j = i ∧ b = a) ∨ (j ≠ i ∧ Own env σ b j) := fun j b z => by
    rcases Own.of_set z with ⟨e, _, _, e2⟩ | q
    · cases e2; exact .inl ⟨e, rfl⟩
    · exact .inr q
  have less : ∀ b, MZ T ρ (env.set i (.own ds)) (σ.set i (some (.ref a))) b → MZ (a :: T) ρ env σ b := fun b z => by
    rcases z with z | z | ⟨j, z⟩
    · exact .inl (List.mem_cons_of_mem _ z)
    · exact .inr (.inl z)
    · rcases hO j b z with ⟨_, e⟩ | ⟨_, q⟩
      · exact .inl (by rw [e]; exact List.mem_cons_self)
      · exact .inr (.inr ⟨j, q⟩)
  have lessZ : ∀ b, ZZ B.F T ρ (env.set i (.own ds)) (σ.set i (some (.ref a))) b → ZZ B.F (a :: T) ρ env σ b := fun b z => z.elim .inl fun z => .inr (less b z)
  have m : Mv (ZZ B.F (a :: T) ρ env σ) ρ H (ZZ B.F T ρ (env.set i (.own ds)) (σ.set i (some (.ref a)))) ρ H := Mv.less lessZ
  have aT := (List.nodup_cons.mp R.tn).1
  refine ⟨R.vl, R.rn, (List.nodup_cons.mp R.tn).2, fun b z => R.tr b (List.mem_cons_of_mem _ z), fun j b z => ?_, fun j k b z q => ?_, fun b f z => R.fm b f (less b z), fun b z => R.tk b (lessZ b z),
    fun n o b h1 h2 => (R.ob n o b h1 h2).move m rfl, by simpa using R.sl, fun j s hj => ?_, R.kp, R.tp, fun b z => R.zn b (less b z), R.pr⟩
  · rcases hO j b z with ⟨_, e⟩ | ⟨_, q⟩
    · rw [e]; exact ⟨aT, R.tr a List.mem_cons_self⟩
    · exact ⟨fun z => (R.ot j b q).1 (List.mem_cons_of_mem _ z), (R.ot j b q).2⟩
  · rcases hO j b z with ⟨e1, e2⟩ | ⟨n1, q1⟩
    · rcases hO k b q with ⟨e3, e4⟩ | ⟨n2, q2⟩
      · rw [e1, e3]
      · rw [e2] at q2
        exact absurd List.mem_cons_self (R.ot k a q2).1
    · rcases hO k b q with ⟨e3, e4⟩ | ⟨n2, q2⟩
      · rw [e4] at q1
        exact absurd List.mem_cons_self (R.ot j a q1).1
      · exact R.oi j k b q1 q2
  · rcases set_getE hj with ⟨e1, e2⟩ | ⟨ne, q⟩
    · subst e1 e2
      have hl : j < σ.length := by
        have := (List.getElem?_eq_some_iff.mp hj).1
        rw [List.length_set] at this
        rw [R.sl]; exact this
      exact ⟨a, vs, by rw [List.getElem?_set_self hl], e, RDs.move m _ _ h⟩
    · rw [List.getElem?_set_ne (Ne.symm ne)]
      exact (R.st j s q).move m fun _ _ _ _ => rfl
/-- a slot lets its list go -/
theorem Rel.freeze {i : Nat} {ds : List D} (R : Rel G B T ρ env vh σ H) (hi : env[i]? = some (.own ds)) : Rel G B T ρ (env.set i (.val (.lst ds))) vh σ H := by
  obtain ⟨a, vs, ha, e, h⟩ := R.st i _ hi
  have hO : ∀ j b, Own (env.set i (.val (.lst ds))) σ b j → j ≠ i ∧ Own env σ b j := fun j b z => by
    rcases Own.of_setE z with ⟨_, _, e, _⟩ | q
    · cases e
    · exact q
  have m : Mv (ZZ B.F T ρ env σ) ρ H (ZZ B.F T ρ (env.set i (.val (.lst ds))) σ) ρ H := Mv.less fun b z => by
    rcases z with z | z | z | ⟨j, z⟩
    · exact .inl z
    · exact .inr (.inl z)
    · exact .inr (.inr (.inl z))
    · exact .inr (.inr (.inr ⟨j, (hO j b z).2⟩))
  have own : Own env σ a i := ⟨ds, hi, ha⟩
  refine R.weak (fun _ h => h) R.tn (fun j b z => (hO j b z).2) (by rw [List.length_set]; exact R.sl) fun j s hj => ?_
  rcases set_getE hj with ⟨e1, e2⟩ | ⟨ne, q⟩
  · subst e1 e2
    refine ⟨.ref a, ha, a, vs, rfl, ?_, e, RDs.move m _ _ h⟩
    rintro (z | z | z | ⟨k, z⟩)
    · exact R.fm a z (.inr (.inr ⟨j, own⟩))
    · exact (R.ot j a own).1 z
    · exact (R.ot j a own).2 z
    · obtain ⟨n, q⟩ := hO k a z
      exact n (R.oi k j a q own)
  · exact (R.st j s q).move m fun _ _ _ _ => rfl

/-- an object of ours is written; what else stands, stands -/
theorem Rel.write {x : Addr} {o u : HO} {env' : List Slot} {vh' : List VO} (R : Rel G B T ρ env vh σ H) (hx : MZ T ρ env σ x) (e : H x = some o) (mo : Mt o) (mu : Mt u) (hl : vh'.length = vh.length) (hle : env'.length = env.length)
    (hO : ∀ i a, Own env' σ a i ↔ Own env σ a i)
    (hob : ∀ (n : Nat) (o : VO) (a : Addr), vh'[n]? = some o → ρ[n]? = some a → (a ≠ x → vh[n]? = some o) ∧ (a = x → RO G (ZZ B.F T ρ env σ) ρ (upd H x u) x o))
    (hst : ∀ (i : Nat) (s : Slot), env'[i]? = some s → (env[i]? = some s ∧ ∀ ds, s = .own ds → σ[i]? ≠ some (some (.ref x))) ∨ RSl G (ZZ B.F T ρ env σ) ρ (upd H x u) σ[i]? s) : Rel G B T ρ env' vh' σ (upd H x u) := by
  have hM : ∀ a, MZ T ρ env' σ a ↔ MZ T ρ env σ a := fun a =>
    ⟨fun z => z.imp id (Or.imp id fun ⟨i, z⟩ => ⟨i, (hO i a).mp z⟩), fun z => z.imp id (Or.imp id fun ⟨i, z⟩ => ⟨i, (hO i a).mpr z⟩)⟩
  have hZ : ∀ a, ZZ B.F T ρ env' σ a ↔ ZZ B.F T ρ env σ a := fun a => ⟨fun z => z.imp id (hM a).mp, fun z => z.imp id (hM a).mpr⟩
  have eZ : ZZ B.F T ρ env' σ = ZZ B.F T ρ env σ := funext fun a => propext (hZ a)
  have m : Mv (ZZ B.F T ρ env σ) ρ H (ZZ B.F T ρ env σ) ρ (upd H x u) := Mv.upd (.inr hx) e mo
  refine ⟨hl.trans R.vl, R.rn, R.tn, R.tr, fun i a z => R.ot i a ((hO i a).mp z), fun i j a z q => R.oi i j a ((hO i a).mp z) ((hO j a).mp q), fun a f z => R.fm a f ((hM a).mp z), fun a z => ?_, fun n o a h1 h2 => ?_, R.sl.trans hle.symm, fun i s h => ?_, fun a w h1 h2 => ?_, fun a xs h => m.tup a xs (R.tp a xs h), fun a z => R.zn a ((hM a).mp z), R.pr⟩
  · by_cases ea : a = x
    · exact ⟨u, by rw [ea]; exact upd_same, mu⟩
    · obtain ⟨w, h, q⟩ := R.tk a ((hZ a).mp z)
      exact ⟨w, by rw [upd_ne ea]; exact h, q⟩
  · rw [eZ]
    obtain ⟨q1, q2⟩ := hob n o a h1 h2
    by_cases ea : a = x
    · rw [ea]; exact q2 ea
    · exact (R.ob n o a (q1 ea) h2).move m (upd_ne ea)
  · rw [eZ]
    rcases hst i s h with ⟨q, nx⟩ | q
    · refine (R.st i s q).move m fun a ds es e2 => upd_ne fun z => nx ds es ?_
      rw [e2, z]
    · exact q
  · have n : a ≠ x := fun z => by
      rcases R.zn x hx with q | q
      · rw [z] at h2; exact h2 q
      · rw [z, q] at h1; cases h1
    rw [upd_ne n]
    exact R.kp a w h1 h2
/-- an own list is written -/
theorem Rel.ownUpd {i : Nat} {ds ds' : List D} {a : Addr} {vs vs' : List V} (R : Rel G B T ρ env vh σ H) (hi : env[i]? = some (.own ds)) (ha : σ[i]? = some (some (.ref a))) (e : H a = some (.lst vs)) (h : RDs G (ZZ B.F T ρ env σ) ρ H ds' vs') :
    Rel G B T ρ (env.set i (.own ds')) vh σ (upd H a (.lst vs')) := by
  have own : Own env σ a i := ⟨ds, hi, ha⟩
  have li : i < env.length := (List.getElem?_eq_some_iff.mp hi).1
  have m : Mv (ZZ B.F T ρ env σ) ρ H (ZZ B.F T ρ env σ) ρ (upd H a (.lst vs')) := Mv.upd (.inr (.inr (.inr ⟨i, own⟩))) e trivial
  refine R.write (.inr (.inr ⟨i, own⟩)) e trivial trivial rfl (by simp) (fun j b => ⟨fun z => ?_, fun z => ?_⟩) (fun n o b h1 h2 => ⟨fun _ => h1, fun eb => ?_⟩) fun j s hj => ?_
  · rcases Own.of_setE z with ⟨e1, _, _, e3⟩ | ⟨_, q⟩
    · rw [e1]; exact ⟨ds, hi, e3⟩
    · exact q
  · obtain ⟨es, h1, h2⟩ := z
    by_cases ej : j = i
    · rw [ej] at h2 ⊢
      exact ⟨ds', by rw [List.getElem?_set_self li], h2⟩
    · exact ⟨es, by rw [List.getElem?_set_ne (Ne.symm ej)]; exact h1, h2⟩
  · rw [eb] at h2
    exact absurd (List.mem_of_getElem? h2) (R.ot i a own).2
  · rcases set_getE hj with ⟨e1, e2⟩ | ⟨ne, q⟩
    · subst e1 e2
      exact .inr ⟨a, vs', ha, upd_same, RDs.move m _ _ h⟩
    · exact .inl ⟨q, fun es e1 e2 => ne (R.oi j i a ⟨es, by rw [q, e1], e2⟩ own)⟩
/-- a shared object is written -/
theorem Rel.shUpd {n : Nat} {a : Addr} {o o' : VO} {u : HO} (R : Rel G B T ρ env vh σ H) (hn : vh[n]? = some o) (ha : ρ[n]? = some a) (mu : Mt u) (h : RO G (ZZ B.F T ρ env σ) ρ (upd H a u) a o') :
    Rel G B T ρ env (vh.set n o') σ (upd H a u) := by
  obtain ⟨w, e, mo⟩ := (R.ob n o a hn ha).mt
  have hx : MZ T ρ env σ a := .inr (.inl (List.mem_of_getElem? ha))
  refine R.write hx e mo mu (by simp) rfl (fun _ _ => Iff.rfl) (fun k p b h1 h2 => ⟨fun nb => ?_, fun eb => ?_⟩) fun j s hj => .inl ⟨hj, fun ds e1 e2 => ?_⟩
  · rcases set_getE h1 with ⟨e1, _⟩ | ⟨_, q⟩
    · rw [e1, ha] at h2
      exact absurd (Option.some.inj h2).symm nb
    · exact q
  · have ek : k = n := by
      rw [eb] at h2
      obtain ⟨l1, e1⟩ := List.getElem?_eq_some_iff.mp h2
      obtain ⟨l2, e2⟩ := List.getElem?_eq_some_iff.mp ha
      exact (List.getElem_inj R.rn).mp (e1.trans e2.symm)
    rcases set_getE h1 with ⟨_, e2⟩ | ⟨ne, _⟩
    · rw [e2]; exact h
    · exact absurd ek ne
  · exact (R.ot j a ⟨ds, by rw [hj, e1], e2⟩).2 (List.mem_of_getElem? ha)
/-- what is ours becomes shared -/
theorem Rel.share {a : Addr} {o : VO} (R : Rel G B (a :: T) ρ env vh σ H) (h : RO G (ZZ B.F (a :: T) ρ env σ) ρ H a o) : Rel G B T (ρ ++ [a]) env (vh ++ [o]) σ H := by
  have ar : a ∉ ρ := R.tr a List.mem_cons_self
  have aT := (List.nodup_cons.mp R.tn).1
  have hM : ∀ b, MZ T (ρ ++ [a]) env σ b ↔ MZ (a :: T) ρ env σ b := fun b => by
    unfold MZ
    rw [List.mem_append, List.mem_singleton, List.mem_cons]
    constructor
    · rintro (z | (z | z) | z)
      · exact .inl (.inr z)
      · exact .inr (.inl z)
      · exact .inl (.inl z)
      · exact .inr (.inr z)
    · rintro ((z | z) | z | z)
      · exact .inr (.inl (.inr z))
      · exact .inl z
      · exact .inr (.inl (.inl z))
      · exact .inr (.inr z)
  have eZ : ZZ B.F T (ρ ++ [a]) env σ = ZZ B.F (a :: T) ρ env σ := funext fun b => propext ⟨fun z => z.imp id (hM b).mp, fun z => z.imp id (hM b).mpr⟩
  have pre : ∀ (n : Nat) (b : Addr), ρ[n]? = some b → (ρ ++ [a])[n]? = some b := fun n b e => by
    rw [List.getElem?_append_left (List.getElem?_eq_some_iff.mp e).1]; exact e
  have m : Mv (ZZ B.F (a :: T) ρ env σ) ρ H (ZZ B.F (a :: T) ρ env σ) (ρ ++ [a]) H := ⟨pre, fun b u nz e => ⟨nz, e⟩, fun _ _ e => e⟩
  refine ⟨by rw [List.length_append, List.length_append, R.vl]; rfl, ?_, (List.nodup_cons.mp R.tn).2, fun b z q => ?_, fun i b z => ⟨fun q => (R.ot i b z).1 (List.mem_cons_of_mem _ q), fun q => ?_⟩, R.oi, fun b f z => R.fm b f ((hM b).mp z), fun b z => R.tk b (by rw [← eZ]; exact z),
    fun n p b h1 h2 => ?_, R.sl, fun i s hi => ?_, R.kp, R.tp, fun b z => R.zn b ((hM b).mp z), fun n b e => pre n b (R.pr n b e)⟩
  · refine List.nodup_append.mpr ⟨R.rn, List.nodup_cons.mpr ⟨fun z => (by cases z), List.nodup_nil⟩, fun x hx y hy e => ?_⟩
    rw [List.mem_singleton.mp hy] at e
    rw [e] at hx
    exact ar hx
  · rcases List.mem_append.mp q with q | q
    · exact R.tr b (List.mem_cons_of_mem _ z) q
    · rw [List.mem_singleton.mp q] at z; exact aT z
  · rcases List.mem_append.mp q with q | q
    · exact (R.ot i b z).2 q
    · rw [List.mem_singleton.mp q] at z
      exact (R.ot i a z).1 List.mem_cons_self
  · rw [eZ]
    by_cases hl : n < ρ.length
    · rw [List.getElem?_append_left hl] at h2
      rw [List.getElem?_append_left (by rw [R.vl]; exact hl)] at h1
      exact (R.ob n p b h1 h2).move m rfl
    · rw [List.getElem?_append_right (by omega)] at h2
      rw [List.getElem?_append_right (by rw [R.vl]; omega), R.vl] at h1
      have z : n - ρ.length = 0 := by
        have := (List.getElem?_eq_some_iff.mp h2).1
        rw [List.length_singleton] at this
        omega
      rw [z] at h1 h2
      have e1 : o = p := Option.some.inj h1
      have e2 : a = b := Option.some.inj h2
      rw [← e1, ← e2]
      exact h.move m rfl
  · rw [eZ]
    exact (R.st i s hi).move m fun _ _ _ _ => rfl

/-- the frame is left -/
theorem Rel.ret (R : Rel G B T ρ env vh σ H) : Rel G B T ρ [] vh [] H :=
  R.weak (fun _ h => h) R.tn (fun i a z => by obtain ⟨_, h, _⟩ := z; simp at h) rfl fun i s h => by simp at h
theorem Rel.ret_d {d : D} {v : V} (h : RD G (ZZ B.F T ρ env σ) ρ H d v) : RD G (ZZ B.F T ρ [] []) ρ H d v := RD.move (Mv.less fun b z => by
    rcases z with z | z | z | ⟨i, _, h, _⟩
    · exact .inl z
    · exact .inr (.inl z)
    · exact .inr (.inr (.inl z))
    · simp at h) _ _ h
theorem Rel.ret_ds {ds : List D} {vs : List V} (h : RDs G (ZZ B.F T ρ env σ) ρ H ds vs) : RDs G (ZZ B.F T ρ [] []) ρ H ds vs := RDs.move (Mv.less fun b z => by
    rcases z with z | z | z | ⟨i, _, h, _⟩
    · exact .inl z
    · exact .inr (.inl z)
    · exact .inr (.inr (.inl z))
    · simp at h) _ _ h
/-- a slot gives its list out of hand: it is a list of ours then -/
theorem Rel.take {i : Nat} {ds : List D} (R : Rel G B T ρ env vh σ H) (hi : env[i]? = some (.own ds)) :
    ∃ a vs, σ[i]? = some (some (.ref a)) ∧ H a = some (.lst vs) ∧ Rel G B (a :: T) ρ (env.set i .no) vh σ H ∧ RDs G (ZZ B.F (a :: T) ρ (env.set i .no) σ) ρ H ds vs := by
  obtain ⟨a, vs, ha, e, h⟩ := R.st i _ hi
  have own : Own env σ a i := ⟨ds, hi, ha⟩
  have hO : ∀ j b, Own (env.set i .no) σ b j → j ≠ i ∧ Own env σ b j := fun j b z => by
    rcases Own.of_setE z with ⟨_, _, e, _⟩ | q
    · cases e
    · exact q
  have hM : ∀ b, MZ (a :: T) ρ (env.set i .no) σ b → MZ T ρ env σ b := fun b z => by
    rcases z with z | z | ⟨j, z⟩
    · rcases List.mem_cons.mp z with q | q
      · exact .inr (.inr ⟨i, by rw [q]; exact own⟩)
      · exact .inl q
    · exact .inr (.inl z)
    · exact .inr (.inr ⟨j, (hO j b z).2⟩)
  have hZ : ∀ b, ZZ B.F (a :: T) ρ (env.set i .no) σ b → ZZ B.F T ρ env σ b := fun b z => z.elim .inl fun z => .inr (hM b z)
  have m : Mv (ZZ B.F T ρ env σ) ρ H (ZZ B.F (a :: T) ρ (env.set i .no) σ) ρ H := Mv.less hZ
  refine ⟨a, vs, ha, e, ⟨R.vl, R.rn, List.nodup_cons.mpr ⟨(R.ot i a own).1, R.tn⟩, fun b z => ?_, fun j b z => ⟨fun q => ?_, (R.ot j b (hO j b z).2).2⟩, fun j k b z q => R.oi j k b (hO j b z).2 (hO k b q).2, fun b f z => R.fm b f (hM b z), fun b z => R.tk b (hZ b z),
    fun n o b h1 h2 => (R.ob n o b h1 h2).move m rfl, by rw [List.length_set]; exact R.sl, fun j s hj => ?_, R.kp, R.tp, fun b z => R.zn b (hM b z), R.pr⟩, RDs.move m _ _ h⟩
  · rcases List.mem_cons.mp z with q | q
    · rw [q]; exact (R.ot i a own).2
    · exact R.tr b q
  · obtain ⟨nj, z⟩ := hO j b z
    rcases List.mem_cons.mp q with q | q
    · rw [q] at z; exact nj (R.oi j i a z own)
    · exact (R.ot j b z).1 q
  · rcases set_getE hj with ⟨e1, e2⟩ | ⟨ne, q⟩
    · rw [e2]; trivial
    · exact (R.st j s q).move m fun _ _ _ _ => rfl

/-- what is from here on -/
def Base.now (B : Base) (T ρ : List Addr) (env : List Slot) (σ : L2.St) (H : Hp) : Base := ⟨B.F, MZ T ρ env σ, H, ρ⟩
theorem Rel.rebase (R : Rel G B T ρ env vh σ H) : Rel G (B.now T ρ env σ H) T ρ env vh σ H :=
  ⟨R.vl, R.rn, R.tn, R.tr, R.ot, R.oi, R.fm, R.tk, R.ob, R.sl, R.st, fun _ _ h _ => h, fun _ _ h => h, fun _ z => .inl z, fun _ _ h => h⟩
theorem Rel.unbase {T' ρ' : List Addr} {env' : List Slot} {vh' : List VO} {σ' : L2.St} {H' : Hp} (R : Rel G B T ρ env vh σ H) (S : Rel G (B.now T ρ env σ H) T' ρ' env' vh' σ' H') : Rel G B T' ρ' env' vh' σ' H' :=
  ⟨S.vl, S.rn, S.tn, S.tr, S.ot, S.oi, S.fm, S.tk, S.ob, S.sl, S.st, fun a u h nm => S.kp a u (R.kp a u h nm) fun z => (R.zn a z).elim nm fun q => (by rw [h] at q; cases q), fun a xs h => S.tp a xs (R.tp a xs h), fun a z => (by
    rcases S.zn a z with q | q
    · exact R.zn a q
    · refine (Classical.em (B.mu a)).elim .inl fun nm => .inr ?_
      cases e : B.H0 a with
      | none => rfl
      | some u =>
        have := R.kp a u e nm
        rw [show (B.now T ρ env σ H).H0 a = H a from rfl] at q
        rw [q] at this
        cases this), fun n a h => S.pr n a (R.pr n a h)⟩
theorem Rel.moved {T' ρ' : List Addr} {env' : List Slot} {vh' : List VO} {σ' : L2.St} {H' : Hp} (R : Rel G B T ρ env vh σ H) (S : Rel G (B.now T ρ env σ H) T' ρ' env' vh' σ' H') : Mv (ZZ B.F T ρ env σ) ρ H (ZZ B.F T' ρ' env' σ') ρ' H' :=
  ⟨S.pr, fun a u nz h => ⟨fun z => (by
    rcases z with z | z
    · exact nz (.inl z)
    · rcases S.zn a z with q | q
      · exact nz (.inr q)
      · rw [show (B.now T ρ env σ H).H0 a = H a from rfl] at q
        rw [h] at q
        cases q), S.kp a u h fun z => nz (.inr z)⟩, S.tp⟩

/-- at a call: the callee's ground -/
def Base.callee (B : Base) (T ρ : List Addr) (env : List Slot) (σ : L2.St) (H : Hp) : Base := ⟨fun a => B.F a ∨ a ∈ T ∨ ∃ i, Own env σ a i, fun a => a ∈ ρ, H, ρ⟩
theorem calleeZ : ZZ (B.callee T ρ env σ H).F [] ρ [] [] = ZZ B.F T ρ env σ := funext fun a => propext ⟨fun z => (by
    rcases z with (z | z | z) | z | z | ⟨i, _, h, _⟩
    · exact .inl z
    · exact .inr (.inl z)
    · exact .inr (.inr (.inr z))
    · cases z
    · exact .inr (.inr (.inl z))
    · simp at h), fun z => by
    rcases z with z | z | z | z
    · exact .inl (.inl z)
    · exact .inl (.inr (.inl z))
    · exact .inr (.inr (.inl z))
    · exact .inl (.inr (.inr z))⟩
theorem no_own {a : Addr} {i : Nat} : ¬ Own [] [] a i := fun ⟨_, h, _⟩ => by simp at h
theorem Rel.enter (R : Rel G B T ρ env vh σ H) : Rel G (B.callee T ρ env σ H) [] ρ [] vh [] H := by
  refine ⟨R.vl, R.rn, List.nodup_nil, fun a z => (by cases z), fun i a z => absurd z no_own, fun i j a z => absurd z no_own, fun a f z => ?_, fun a z => R.tk a (by rw [← calleeZ (B := B) (H := H)]; exact z), fun n o a h1 h2 => ?_, rfl, fun i s h => (by simp at h), fun _ _ h _ => h, fun _ _ h => h, fun a z => ?_, fun _ _ h => h⟩
  · have ar : a ∈ ρ := by
      rcases z with z | z | ⟨i, z⟩
      · cases z
      · exact z
      · exact absurd z no_own
    rcases f with f | f | ⟨i, f⟩
    · exact R.fm a f (.inr (.inl ar))
    · exact R.tr a f ar
    · exact (R.ot i a f).2 ar
  · rw [calleeZ]; exact R.ob n o a h1 h2
  · rcases z with z | z | ⟨i, z⟩
    · cases z
    · exact .inl z
    · exact absurd z no_own
/-- behind a call -/
theorem Rel.backMv {T' ρ' : List Addr} {vh' : List VO} {H' : Hp} (R : Rel G B T ρ env vh σ H) (S : Rel G (B.callee T ρ env σ H) T' ρ' [] vh' [] H') : Mv (ZZ B.F T ρ env σ) ρ H (ZZ B.F (T' ++ T) ρ' env σ) ρ' H' := by
  have kp : ∀ a u, H a = some u → a ∉ ρ → H' a = some u := fun a u h n => S.kp a u h n
  refine ⟨S.pr, fun a u nz h => ⟨fun z => ?_, kp a u h fun z => nz (.inr (.inr (.inl z)))⟩, S.tp⟩
  have new : MZ T' ρ' [] [] a → False := fun z => by
    rcases S.zn a z with q | q
    · exact nz (.inr (.inr (.inl q)))
    · rw [show (B.callee T ρ env σ H).H0 a = H a from rfl] at q
      rw [h] at q; cases q
  rcases z with z | z | z | z
  · exact nz (.inl z)
  · rcases List.mem_append.mp z with z | z
    · exact new (.inl z)
    · exact nz (.inr (.inl z))
  · exact new (.inr (.inl z))
  · exact nz (.inr (.inr (.inr z)))
theorem Rel.backZ {T' ρ' : List Addr} {H' : Hp} : ZZ (B.callee T ρ env σ H).F T' ρ' [] [] = ZZ B.F (T' ++ T) ρ' env σ := funext fun a => propext ⟨fun z => (by
    rcases z with (z | z | z) | z | z | ⟨i, z⟩
    · exact .inl z
    · exact .inr (.inl (List.mem_append_right _ z))
    · exact .inr (.inr (.inr z))
    · exact .inr (.inl (List.mem_append_left _ z))
    · exact .inr (.inr (.inl z))
    · exact absurd z no_own), fun z => by
    rcases z with z | z | z | z
    · exact .inl (.inl z)
    · rcases List.mem_append.mp z with z | z
      · exact .inr (.inl z)
      · exact .inl (.inr (.inl z))
    · exact .inr (.inr (.inl z))
    · exact .inl (.inr (.inr z))⟩
theorem Rel.back {T' ρ' : List Addr} {vh' : List VO} {H' : Hp} (R : Rel G B T ρ env vh σ H) (S : Rel G (B.callee T ρ env σ H) T' ρ' [] vh' [] H') : Rel G B (T' ++ T) ρ' env vh' σ H' := by
  have m := R.backMv S
  have kp : ∀ a u, H a = some u → a ∉ ρ → H' a = some u := fun a u h n => S.kp a u h n
  have cut : ∀ a, MZ (T' ++ T) ρ' env σ a → MZ T' ρ' [] [] a ∨ a ∈ T ∨ ∃ i, Own env σ a i := fun a z => by
    rcases z with z | z | z
    · rcases List.mem_append.mp z with z | z
      · exact .inl (.inl z)
      · exact .inr (.inl z)
    · exact .inl (.inr (.inl z))
    · exact .inr (.inr z)
  refine ⟨S.vl, S.rn, ?_, fun a z q => ?_, fun i a z => ⟨fun q => ?_, fun q => ?_⟩, R.oi, fun a f z => ?_, fun a z => S.tk a (by rw [Rel.backZ (H' := H')]; exact z), fun n o a h1 h2 => ?_, R.sl, fun i s hi => ?_, fun a u h nm => ?_, fun a xs h => S.tp a xs (R.tp a xs h), fun a z => ?_, fun n a h => S.pr n a (R.pr n a h)⟩
  · refine List.nodup_append.mpr ⟨S.tn, R.tn, fun x hx y hy e => ?_⟩
    rw [← e] at hy
    exact S.fm x (.inr (.inl hy)) (.inl hx)
  · rcases List.mem_append.mp z with z | z
    · exact S.tr a z q
    · exact S.fm a (.inr (.inl z)) (.inr (.inl q))
  · rcases List.mem_append.mp q with q | q
    · exact S.fm a (.inr (.inr ⟨i, z⟩)) (.inl q)
    · exact (R.ot i a z).1 q
  · exact S.fm a (.inr (.inr ⟨i, z⟩)) (.inr (.inl q))
  · rcases cut a z with z | z | z
    · exact S.fm a (.inl f) z
    · exact R.fm a f (.inl z)
    · exact R.fm a f (.inr (.inr z))
  · rw [← Rel.backZ (B := B) (H := H) (H' := H')]
    exact S.ob n o a h1 h2
  · refine (R.st i s hi).move m fun a ds e1 e2 => ?_
    subst e1
    have own : Own env σ a i := ⟨ds, hi, e2⟩
    obtain ⟨u, h, _⟩ := R.tk a (.inr (.inr (.inr ⟨i, own⟩)))
    exact (kp a u h (R.ot i a own).2).trans h.symm
  · have h1 := R.kp a u h nm
    refine kp a u h1 fun z => ?_
    rcases R.zn a (.inr (.inl z)) with q | q
    · exact nm q
    · rw [h] at q; cases q
  · rcases cut a z with z | z | z
    · rcases S.zn a z with q | q
      · exact R.zn a (.inr (.inl q))
      · refine (Classical.em (B.mu a)).elim .inl fun nm => .inr ?_
        cases e : B.H0 a with
        | none => rfl
        | some u =>
          have := R.kp a u e nm
          rw [show (B.callee T ρ env σ H).H0 a = H a from rfl] at q
          rw [q] at this; cases this
    · exact R.zn a (.inl z)
    · exact R.zn a (.inr (.inr z))
end
end R

namespace R
open PySem PySem.Spec PyProof.Rows L2
/-! ## R2: the small language and what its parts come to -/

/-- built-in functions and classes, called by their names -/
inductive Bf where
  | len | int | bool | str | tuple | list | abs | min2 | max2 | sum | all | any | sorted | min1 | max1
  deriving DecidableEq
/-- what is gone through -/
inductive Ik where
  | seq | rng1 | rng2 | rng3 | zip | enum | rev
  deriving DecidableEq
/-- a target -/
inductive Tg where
  | one (i : Nat) | many (is : List Nat)
  deriving DecidableEq

inductive E where
  | non | bl (b : Bool) | int (i : Int) | str (x : Str)
  | var (i : Nat) | bor (i : Nat) | glo (x : Str) | skip
  | tup (es : List E) | lst (es : List E)
  | bin (op : Operator) (a b : E) | neg (a : E)
  | cmp (op : CmpOp) (a b : E) | chain (op op' : CmpOp) (a b c : E)
  | and (a b : E) | or (a b : E) | not (a : E) | ite (c a b : E)
  | idx (a i : E) | sli (a lo hi : E)
  | call (f : Str) (es : List E) | blt (f : Bf) (es : List E)
  | isi (a : E) (tys : List String)
  | lc (elt : E) (tg : Tg) (own : List Nat) (k : Ik) (es : List E) (cs : List E)

abbrev VH := List VO
abbrev VE := List Slot
inductive Out where
  | ok (x : DV) | exc (c : Str) (xs : List D)
structure VSp where
  run : List D → VH → (Out → VH → Prop) → Prop
  mono : ∀ (ds : List D) (vh : VH) (R R' : Out → VH → Prop), (∀ o h, R o h → R' o h) → run ds vh R → run ds vh R'
/-- a promise by what comes out -/
def det (s : List D → VH → Out → VH → Prop) : VSp := ⟨fun ds vh R => ∃ o h, s ds vh o h ∧ R o h, fun ds vh R R' f ⟨o, h, a, b⟩ => ⟨o, h, a, f o h b⟩⟩
abbrev Fns := Str → VSp
abbrev Cns := Str → Option D
/-- what is wanted of an exception -/
abbrev XP := Str → List D → VE → VH → Prop
abbrev QE := DV → VE → VH → Prop

/-- a slot's value, read for its items alone -/
def Slot.ld : Slot → Option D
  | .no => none
  | .val d => some d
  | .own ds => some (.lst ds)
def Slot.ok : Slot → Prop
  | .no => False
  | _ => True
/-- an operand: data, or what a slot holds -/
inductive Op where
  | dat (d : D) | slt (i : Nat)
def deref (vh : VH) : D → Option D
  | .ref n => match vh[n]? with
    | some (.lst xs) => some (.lst xs)
    | some (.dct ks xs) => some (.dct ks xs)
    | _ => none
  | d => some d
def Op.ld (env : VE) (vh : VH) : Op → Option D
  | .dat x => deref vh x
  | .slt i => match env[i]? with
    | some s => match s.ld with
      | some d => deref vh d
      | none => none
    | none => none
def ldAll (env : VE) (vh : VH) : List Op → Option (List D)
  | [] => some []
  | x :: xs => match x.ld env vh, ldAll env vh xs with
    | some d, some ds => some (d :: ds)
    | _, _ => none

/-! ### truth, equality, operators -/
def truD : D → Option Bool
  | .non => some false
  | .bl b => some b
  | .int i => some (i != 0)
  | .str x => if x.length ≤ 16777216 then some ((x.length : Int) != 0) else none
  | .tup xs => some (!xs.isEmpty)
  | .lst xs => some (!xs.isEmpty)
  | .dct ks xs => some (!xs.isEmpty)
  | _ => none

mutual
def eqD : D → D → Bool
  | .non, .non => true
  | .bl a, .bl b => a == b
  | .bl a, .int j => (if a then 1 else 0) == j
  | .int i, .bl b => i == (if b then 1 else 0)
  | .int i, .int j => i == j
  | .str x, .str y => x == y
  | .lst xs, .lst ys => eqDs xs ys
  | .tup xs, .tup ys => eqDs xs ys
  | _, _ => false
def eqDs : List D → List D → Bool
  | [], [] => true
  | x :: xs, y :: ys => eqD x y && eqDs xs ys
  | _, _ => false
end
mutual
/-- data that == looks at as data, at most so deep -/
def okD : Nat → D → Bool
  | _, .non => true
  | _, .bl _ => true
  | _, .int _ => true
  | _, .str x => PyData.canLay0 (.str x)
  | n + 1, .lst xs => okDs n xs
  | n + 1, .tup xs => okDs n xs
  | _, _ => false
def okDs : Nat → List D → Bool
  | _, [] => true
  | n, x :: xs => okD n x && okDs n xs
end

def mulOk (i j : Int) : Prop := (-(2 ^ 64) < i ∧ i < 2 ^ 64) ∨ (-(2 ^ 64) < j ∧ j < 2 ^ 64) ∨ i.natAbs.log2 + j.natAbs.log2 < 1000000

def wpBin (op : Operator) (a b : D) (Q : DV → Prop) : Prop := match op, a, b with
  | .Add, .int i, .int j => Q (.v (.int (i + j)))
  | .Add, .str x, .str y => x.length + y.length ≤ 16777216 ∧ Q (.v (.str (x ++ y)))
  | .Add, .tup xs, .tup ys => xs.length + ys.length ≤ 16777216 ∧ Q (.v (.tup (xs ++ ys)))
  | .Add, .lst xs, .lst ys => xs.length + ys.length ≤ 16777216 ∧ Q (.fr (xs ++ ys))
  | .Sub, .int i, .int j => Q (.v (.int (i - j)))
  | .Mult, .int i, .int j => mulOk i j ∧ Q (.v (.int (i * j)))
  | .Mult, .tup xs, .int k => 1 ≤ k ∧ k ≤ 1000 ∧ xs.length ≤ 1000 ∧ Q (.v (.tup (List.replicate k.toNat xs).flatten))
  | .FloorDiv, .int i, .int j => (0 < j ∧ j.natAbs.log2 < 9000) ∧ Q (.v (.int (i / j)))
  | .Mod, .int i, .int j => 0 < j ∧ Q (.v (.int (i % j)))
  | .Pow, .int i, .int j => (0 ≤ j ∧ j ≤ 1000000 ∧ i.natAbs < 2 ^ 64) ∧ Q (.v (.int (i ^ j.toNat)))
  | _, _, _ => False

def isNon : D → Bool
  | .non => true
  | _ => false
def flatD : D → Bool
  | .non => true
  | .bl _ => true
  | .int _ => true
  | .str _ => true
  | _ => false
def inD (x : D) (xs : List D) : Bool := xs.any fun y => eqD y x

def wpCmp (op : CmpOp) (a b : D) (Q : Bool → Prop) : Prop := match op, a, b with
  | .Eq, x, y => okD 64 x = true ∧ okD 64 y = true ∧ Q (eqD x y)
  | .NotEq, x, y => okD 64 x = true ∧ okD 64 y = true ∧ Q (!eqD x y)
  | .Lt, .int i, .int j => Q (decide (i < j))
  | .LtE, .int i, .int j => Q (decide (i ≤ j))
  | .Gt, .int i, .int j => Q (decide (j < i))
  | .GtE, .int i, .int j => Q (decide (j ≤ i))
  | .Is, x, .non => Q (isNon x)
  | .IsNot, x, .non => Q (!isNon x)
  | .Is, .bl x, .bl y => Q (decide (x = y))
  | .IsNot, .bl x, .bl y => Q (!decide (x = y))
  | _, _, _ => False

def wpIdx (a i : D) (Q : D → Prop) : Prop := match a, i with
  | .tup xs, .int k => ∃ d, atI xs k = some d ∧ Q d
  | .lst xs, .int k => ∃ d, atI xs k = some d ∧ Q d
  | .scr xs, .int k => ∃ d, atI xs k = some d ∧ Q (.int d)
  | .str x, .int k => x.length ≤ 16777216 ∧ ∃ c, atI x.cps.toList k = some c ∧ Q (.str ⟨#[c]⟩)
  | _, _ => False
def partD : DV → Option (Option Int)
  | .v (.int i) => some (some i)
  | .v .non => some none
  | _ => none
/-- xs[lo:hi] -/
def cutL {α : Type} (xs : List α) (lo hi : Option Int) : List α := (xs.drop (HT.sIx xs.length 0 lo)).take (HT.sIx xs.length xs.length hi - HT.sIx xs.length 0 lo)
def wpSli (a : D) (lo hi : Option Int) (Q : DV → Prop) : Prop := match a with
  | .tup xs => Q (.v (.tup (cutL xs lo hi)))
  | .lst xs => Q (.fr (cutL xs lo hi))
  | .scr xs => Q (.fr ((cutL xs lo hi).map D.int))
  | _ => False

/-- a value's built-in type -/
def tyD : D → Option String
  | .non => some "NoneType"
  | .bl _ => some "bool"
  | .int _ => some "int"
  | .str _ => some "str"
  | .tup _ => some "tuple"
  | .lst _ => some "list"
  | .scr _ => some "list"
  | .dct _ _ => some "dict"
  | _ => none
/-- the built-in types that isinstance is asked for -/
def okTy (b : String) : Bool := b == "int" || b == "bool" || b == "str" || b == "tuple" || b == "list" || b == "dict"
def isTy (a b : String) : Bool := a == b || (a == "bool" && b == "int")
def wpBlt (f : Bf) (ds : List D) (Q : DV → Prop) : Prop := match f, ds with
  | .len, [.tup xs] => Q (.v (.int xs.length))
  | .len, [.lst xs] => Q (.v (.int xs.length))
  | .len, [.scr xs] => Q (.v (.int xs.length))
  | .len, [.str x] => x.length ≤ 16777216 ∧ Q (.v (.int x.length))
  | .int, [.int i] => Q (.v (.int i))
  | .int, [.bl b] => Q (.v (.int (if b then 1 else 0)))
  | .tuple, [.lst xs] => Q (.v (.tup xs))
  | .tuple, [.tup xs] => Q (.v (.tup xs))
  | .list, [.lst xs] => Q (.fr xs)
  | .list, [.scr xs] => Q (.fr (xs.map D.int))
  | .list, [.tup xs] => Q (.fr xs)
  | .abs, [.int i] => Q (.v (.int (if i < 0 then -i else i)))
  | .min2, [.int i, .int j] => Q (.v (.int (if j < i then j else i)))
  | .max2, [.int i, .int j] => Q (.v (.int (if j > i then j else i)))
  | .all, [.lst xs] => ∃ bs : List Bool, xs = bs.map D.bl ∧ Q (.v (.bl (bs.all id)))
  | .any, [.lst xs] => ∃ bs : List Bool, xs = bs.map D.bl ∧ Q (.v (.bl (bs.any id)))
  | .sorted, [.lst xs] => ∃ ns : List Int, xs = ns.map D.int ∧ ∀ ns' : List Int, ns'.Perm ns → ns'.Pairwise (· ≤ ·) → Q (.fr (ns'.map D.int))
  | .min1, [.lst xs] => ∃ ns : List Int, xs = ns.map D.int ∧ 0 < ns.length ∧ ∀ m, m ∈ ns → (∀ y, y ∈ ns → m ≤ y) → Q (.v (.int m))
  | .max1, [.lst xs] => ∃ ns : List Int, xs = ns.map D.int ∧ 0 < ns.length ∧ ∀ m, m ∈ ns → (∀ y, y ∈ ns → y ≤ m) → Q (.v (.int m))
  | .sum, [.scr ns] => Q (.v (.int ns.sum))
  | .sum, [.lst xs] => ∃ ns : List Int, xs = ns.map D.int ∧ Q (.v (.int ns.sum))
  | _, _ => False

/-- the items that are gone through -/
def itemsD (k : Ik) (ds : List D) : Option (List D) := match k, ds with
  | .seq, [.tup xs] => some xs
  | .seq, [.lst xs] => some xs
  | .seq, [.scr xs] => some (xs.map D.int)
  | .rng1, [.int n] => if -(2 ^ 62) ≤ n ∧ n < 2 ^ 62 then some ((List.range n.toNat).map fun (i : Nat) => D.int (i : Int)) else none
  | .rng2, [.int a, .int b] => if -(2 ^ 62) ≤ a ∧ a < 2 ^ 62 ∧ -(2 ^ 62) ≤ b ∧ b < 2 ^ 62 then some ((List.range (b - a).toNat).map fun (i : Nat) => D.int (a + (i : Int))) else none
  | .rng3, [.int a, .int b, .int c] => if c = -1 ∧ -(2 ^ 62) ≤ a ∧ a < 2 ^ 62 ∧ -(2 ^ 62) ≤ b ∧ b < 2 ^ 62 then some ((List.range (a - b).toNat).map fun (i : Nat) => D.int (a - (i : Int))) else none
  | .zip, [.lst xs, .lst ys] => some (List.zipWith (fun x y => D.tup [x, y]) xs ys)
  | .zip, [.tup xs, .tup ys] => some (List.zipWith (fun x y => D.tup [x, y]) xs ys)
  | .enum, [.lst xs] => some (List.zipWith (fun (i : Nat) x => D.tup [.int (i : Int), x]) (List.range xs.length) xs)
  | _, _ => none
def setAllE (env : VE) : List Nat → List D → Option VE
  | [], [] => some env
  | i :: is, d :: ds => setAllE (env.set i (.val d)) is ds
  | _, _ => none
def bindT (tg : Tg) (d : D) (env : VE) : Option VE := match tg, d with
  | .one i, d => some (env.set i (.val d))
  | .many is, .tup ds => setAllE env is ds
  | _, _ => none
def wipeE (env : VE) : List Nat → VE
  | [] => env
  | i :: is => (wipeE env is).set i .no

def noOwn (env : VE) : List Nat → Prop
  | [] => True
  | j :: js => (match env[j]? with
    | some (.own _) => False
    | _ => True) ∧ noOwn env js

/-- a value as it is wanted: itself, or its truth -/
def fin (t : Bool) (x : DV) (env : VE) (vh : VH) (Q : QE) : Prop := match t with
  | false => Q x env vh
  | true => ∃ k, (deref vh x.d).bind truD = some k ∧ Q (.v (.bl k)) env vh
def finB (t : Bool) (b : Bool) (env : VE) (vh : VH) (Q : QE) : Prop := Q (.v (.bl b)) env vh
def ifP (b : Bool) (p q : Prop) : Prop := match b with
  | true => p
  | false => q

/-- a comprehension's turns -/
def lcGo (turn : D → VH → (Option D → VH → Prop) → Prop) : List D → VH → List D → (List D → VH → Prop) → Prop
  | [], h, acc, Q => Q acc h
  | d :: ds, h, acc, Q => turn d h fun o h' => match o with
    | some y => acc.length < 16777216 ∧ lcGo turn ds h' (acc ++ [y]) Q
    | none => lcGo turn ds h' acc Q

/-- an operand: a slot that is read for its items, or a value -/
def asO (e : E) (w : XP → Bool → VE → VH → QE → Prop) (K : XP) (env : VE) (vh : VH) (Q : Op → VE → VH → Prop) : Prop := match e with
  | .bor i => (∃ s, env[i]? = some s ∧ s.ok) ∧ Q (.slt i) env vh
  | _ => w K false env vh fun x e1 h1 => Q (.dat x.d) e1 h1
mutual
/-- what an expression comes to; t: as a test -/
def wpE (Φ : Fns) (Γ : Cns) : E → XP → Bool → VE → VH → QE → Prop
  | .non, K, t, env, vh, Q => fin t (.v .non) env vh Q
  | .bl b, K, t, env, vh, Q => fin t (.v (.bl b)) env vh Q
  | .int i, K, t, env, vh, Q => fin t (.v (.int i)) env vh Q
  | .str x, K, t, env, vh, Q => fin t (.v (.str x)) env vh Q
  | .skip, K, t, env, vh, Q => fin t (.v .non) env vh Q
  | .var i, K, t, env, vh, Q => ∃ s, env[i]? = some s ∧ match s with
    | .no => False
    | .val d => fin t (.v d) env vh Q
    | .own ds => fin t (.v (.lst ds)) (env.set i (.val (.lst ds))) vh Q
  | .bor i, K, true, env, vh, Q => ∃ d k, (Op.slt i).ld env vh = some d ∧ truD d = some k ∧ Q (.v (.bl k)) env vh
  | .bor i, K, false, env, vh, Q => False
  | .glo x, K, t, env, vh, Q => ∃ d, Γ x = some d ∧ fin t (.v d) env vh Q
  | .tup es, K, t, env, vh, Q => wpEs Φ Γ es K env vh fun ds e1 h1 => ds.length ≤ 16777216 ∧ fin t (.v (.tup ds)) e1 h1 Q
  | .lst es, K, t, env, vh, Q => wpEs Φ Γ es K env vh fun ds e1 h1 => ds.length ≤ 16777216 ∧ fin t (.fr ds) e1 h1 Q
  | .bin op a b, K, t, env, vh, Q => asO a (wpE Φ Γ a) K env vh fun x e1 h1 => asO b (wpE Φ Γ b) K e1 h1 fun y e2 h2 => ∃ c d, x.ld e2 h2 = some c ∧ y.ld e2 h2 = some d ∧ wpBin op c d fun z => fin t z e2 h2 Q
  | .neg a, K, t, env, vh, Q => wpE Φ Γ a K false env vh fun x e1 h1 => ∃ i, x = .v (.int i) ∧ fin t (.v (.int (-i))) e1 h1 Q
  | .cmp op a b, K, t, env, vh, Q => asO a (wpE Φ Γ a) K env vh fun x e1 h1 => asO b (wpE Φ Γ b) K e1 h1 fun y e2 h2 => ∃ c d, x.ld e2 h2 = some c ∧ y.ld e2 h2 = some d ∧ wpCmp op c d fun k => Q (.v (.bl k)) e2 h2
  | .chain op op' a b c, K, t, env, vh, Q => asO a (wpE Φ Γ a) K env vh fun x e1 h1 => asO b (wpE Φ Γ b) K e1 h1 fun y e2 h2 => ∃ d e, x.ld e2 h2 = some d ∧ y.ld e2 h2 = some e ∧ wpCmp op d e fun k =>
      ifP k (asO c (wpE Φ Γ c) K e2 h2 fun z e3 h3 => ∃ e f, y.ld e3 h3 = some e ∧ z.ld e3 h3 = some f ∧ wpCmp op' e f fun k => Q (.v (.bl k)) e3 h3) (Q (.v (.bl false)) e2 h2)
  | .and a b, K, true, env, vh, Q => wpE Φ Γ a K true env vh fun x e1 h1 => ∃ k, x = .v (.bl k) ∧ ifP k (wpE Φ Γ b K true e1 h1 Q) (Q (.v (.bl false)) e1 h1)
  | .and a b, K, false, env, vh, Q => wpE Φ Γ a K false env vh fun x e1 h1 => ∃ d k, x = .v d ∧ (deref h1 d).bind truD = some k ∧ ifP k (wpE Φ Γ b K false e1 h1 Q) (Q x e1 h1)
  | .or a b, K, true, env, vh, Q => wpE Φ Γ a K true env vh fun x e1 h1 => ∃ k, x = .v (.bl k) ∧ ifP k (Q (.v (.bl true)) e1 h1) (wpE Φ Γ b K true e1 h1 Q)
  | .or a b, K, false, env, vh, Q => wpE Φ Γ a K false env vh fun x e1 h1 => ∃ d k, x = .v d ∧ (deref h1 d).bind truD = some k ∧ ifP k (Q x e1 h1) (wpE Φ Γ b K false e1 h1 Q)
  | .not a, K, true, env, vh, Q => wpE Φ Γ a K true env vh fun x e1 h1 => ∃ k, x = .v (.bl k) ∧ Q (.v (.bl (!k))) e1 h1
  | .not a, K, false, env, vh, Q => asO a (wpE Φ Γ a) K env vh fun x e1 h1 => ∃ d k, x.ld e1 h1 = some d ∧ truD d = some k ∧ Q (.v (.bl (!k))) e1 h1
  | .ite c a b, K, t, env, vh, Q => wpE Φ Γ c K true env vh fun x e1 h1 => ∃ k, x = .v (.bl k) ∧ ifP k (wpE Φ Γ a K t e1 h1 Q) (wpE Φ Γ b K t e1 h1 Q)
  | .idx a i, K, t, env, vh, Q => asO a (wpE Φ Γ a) K env vh fun x e1 h1 => asO i (wpE Φ Γ i) K e1 h1 fun y e2 h2 => ∃ c d, x.ld e2 h2 = some c ∧ y.ld e2 h2 = some d ∧ wpIdx c d fun z => fin t (.v z) e2 h2 Q
  | .sli a lo hi, K, t, env, vh, Q => asO a (wpE Φ Γ a) K env vh fun x e1 h1 => wpE Φ Γ lo K false e1 h1 fun l e2 h2 => ∃ i, partD l = some i ∧ wpE Φ Γ hi K false e2 h2 fun u e3 h3 =>
      ∃ c j, x.ld e3 h3 = some c ∧ partD u = some j ∧ wpSli c i j fun z => fin t z e3 h3 Q
  | .call f es, K, t, env, vh, Q => wpEs Φ Γ es K env vh fun ds e1 h1 => (Φ f).run ds h1 fun o h2 => match o with
    | .ok x => fin t x e1 h2 Q
    | .exc c fs => K c fs e1 h2
  | .blt f es, K, t, env, vh, Q => wpOs Φ Γ es K env vh fun xs e1 h1 => ∃ ds, ldAll e1 h1 xs = some ds ∧ wpBlt f ds fun z => fin t z e1 h1 Q
  | .isi a tys, K, t, env, vh, Q => asO a (wpE Φ Γ a) K env vh fun x e1 h1 => ∃ d n, x.ld e1 h1 = some d ∧ tyD d = some n ∧ tys.all okTy = true ∧ fin t (.v (.bl (tys.any (isTy n)))) e1 h1 Q
  | .lc elt tg own k es cs, K, t, env, vh, Q => wpEs Φ Γ es K env vh fun ds e1 h1 => ∃ items, itemsD k ds = some items ∧
      noOwn e1 own ∧
      lcGo (fun d h R => ∃ e2, bindT tg d (wipeE e1 own) = some e2 ∧ wpTs Φ Γ cs e2 h fun b h3 => ifP b (wpE Φ Γ elt (fun _ _ _ _ => False) false e2 h3 fun x e4 h4 => e4 = e2 ∧ R (some x.d) h4) (R none h3)) items h1 [] fun acc h2 => fin t (.fr acc) e1 h2 Q
def wpEs (Φ : Fns) (Γ : Cns) : List E → XP → VE → VH → (List D → VE → VH → Prop) → Prop
  | [], K, env, vh, Q => Q [] env vh
  | e :: es, K, env, vh, Q => wpE Φ Γ e K false env vh fun x e1 h1 => wpEs Φ Γ es K e1 h1 fun xs e2 h2 => Q (x.d :: xs) e2 h2
def wpOs (Φ : Fns) (Γ : Cns) : List E → XP → VE → VH → (List Op → VE → VH → Prop) → Prop
  | [], K, env, vh, Q => Q [] env vh
  | e :: es, K, env, vh, Q => asO e (wpE Φ Γ e) K env vh fun x e1 h1 => wpOs Φ Γ es K e1 h1 fun xs e2 h2 => Q (x :: xs) e2 h2
/-- a clause's tests -/
def wpTs (Φ : Fns) (Γ : Cns) : List E → VE → VH → (Bool → VH → Prop) → Prop
  | [], env, vh, Q => Q true vh
  | [c], env, vh, Q => wpE Φ Γ c (fun _ _ _ _ => False) true env vh fun x e1 h1 => e1 = env ∧ ∃ k, x = .v (.bl k) ∧ Q k h1
  | _ :: _ :: _, _, _, _ => False
end

/-! ### monotone -/
section
variable {Φ : Fns} {Γ : Cns}
theorem fin_mono {t : Bool} {x : DV} {env : VE} {vh : VH} {Q Q' : QE} (f : ∀ x e h, Q x e h → Q' x e h) (h : fin t x env vh Q) : fin t x env vh Q' := by
  cases t with
  | false => exact f _ _ _ h
  | true => obtain ⟨k, h1, h2⟩ := h; exact ⟨k, h1, f _ _ _ h2⟩
theorem ifP_mono {b : Bool} {p q p' q' : Prop} (f : p → p') (g : q → q') (h : ifP b p q) : ifP b p' q' := by
  cases b with
  | false => exact g h
  | true => exact f h
theorem wpBin_mono {op : Operator} {a b : D} {Q Q' : DV → Prop} (f : ∀ x, Q x → Q' x) (h : wpBin op a b Q) : wpBin op a b Q' := by
  unfold wpBin at *
  split at h <;> first
    | exact f _ h
    | exact ⟨h.1, f _ h.2⟩
    | exact ⟨h.1, h.2.1, h.2.2.1, f _ h.2.2.2⟩
    | exact h
theorem wpCmp_mono {op : CmpOp} {a b : D} {Q Q' : Bool → Prop} (f : ∀ x, Q x → Q' x) (h : wpCmp op a b Q) : wpCmp op a b Q' := by
  unfold wpCmp at *
  split at h <;> first
    | exact f _ h
    | exact ⟨h.1, h.2.1, f _ h.2.2⟩
    | exact h
theorem wpIdx_mono {a b : D} {Q Q' : D → Prop} (f : ∀ x, Q x → Q' x) (h : wpIdx a b Q) : wpIdx a b Q' := by
  unfold wpIdx at *
  split at h <;> first
    | (obtain ⟨d, h1, h3⟩ := h; exact ⟨d, h1, f _ h3⟩)
    | (obtain ⟨h0, d, h1, h3⟩ := h; exact ⟨h0, d, h1, f _ h3⟩)
    | exact h
theorem wpSli_mono {a : D} {i j : Option Int} {Q Q' : DV → Prop} (f : ∀ x, Q x → Q' x) (h : wpSli a i j Q) : wpSli a i j Q' := by
  unfold wpSli at *
  split at h <;> first
    | exact f _ h
    | exact h
theorem wpBlt_mono {g : Bf} {ds : List D} {Q Q' : DV → Prop} (f : ∀ x, Q x → Q' x) (h : wpBlt g ds Q) : wpBlt g ds Q' := by
  unfold wpBlt at *
  split at h <;> first
    | exact f _ h
    | exact ⟨h.1, f _ h.2⟩
    | (obtain ⟨j, h1, h3⟩ := h; exact ⟨j, h1, f _ h3⟩)
    | (obtain ⟨j, h1, h3⟩ := h; exact ⟨j, h1, fun a b c => f _ (h3 a b c)⟩)
    | (obtain ⟨j, h1, h2, h3⟩ := h; exact ⟨j, h1, h2, fun a b c => f _ (h3 a b c)⟩)
    | exact h
theorem lcGo_mono {turn turn' : D → VH → (Option D → VH → Prop) → Prop} (ht : ∀ d h R R', (∀ o h, R o h → R' o h) → turn d h R → turn' d h R') :
    ∀ (ds : List D) (h : VH) (acc : List D) (Q Q' : List D → VH → Prop), (∀ a h, Q a h → Q' a h) → lcGo turn ds h acc Q → lcGo turn' ds h acc Q'
  | [], h, acc, Q, Q', f, x => f _ _ x
  | d :: ds, h, acc, Q, Q', f, x => ht d h _ _ (fun o h' y => match o with
    | some z => (show _ ∧ _ from y).imp id (lcGo_mono ht ds h' _ Q Q' f)
    | none => lcGo_mono ht ds h' _ Q Q' f y) x
theorem asO_mono {e : E} {w : XP → Bool → VE → VH → QE → Prop} {K : XP} {env : VE} {vh : VH} {Q Q' : Op → VE → VH → Prop} (hw : ∀ Q Q' : QE, (∀ x e h, Q x e h → Q' x e h) → w K false env vh Q → w K false env vh Q') (f : ∀ x e h, Q x e h → Q' x e h)
    (h : asO e w K env vh Q) : asO e w K env vh Q' := by
  unfold asO at *
  split at h
  · exact ⟨h.1, f _ _ _ h.2⟩
  · exact hw _ _ (fun x e h => f _ _ _) h
mutual
theorem wpE_mono : ∀ (e : E) (K : XP) (t : Bool) (env : VE) (vh : VH) (Q Q' : QE), (∀ x e h, Q x e h → Q' x e h) → wpE Φ Γ e K t env vh Q → wpE Φ Γ e K t env vh Q'
  | .non, K, t, env, vh, Q, Q', f, h => fin_mono f h
  | .bl b, K, t, env, vh, Q, Q', f, h => fin_mono f h
  | .int i, K, t, env, vh, Q, Q', f, h => fin_mono f h
  | .str x, K, t, env, vh, Q, Q', f, h => fin_mono f h
  | .skip, K, t, env, vh, Q, Q', f, h => fin_mono f h
  | .var i, K, t, env, vh, Q, Q', f, h => by
    obtain ⟨s, h1, h2⟩ := h
    refine ⟨s, h1, ?_⟩
    cases s with
    | no => exact h2
    | val d => exact fin_mono f h2
    | own ds => exact fin_mono f h2
  | .bor i, K, true, env, vh, Q, Q', f, h => by
    obtain ⟨d, k, h1, h2, h3⟩ := h
    exact ⟨d, k, h1, h2, f _ _ _ h3⟩
  | .bor i, K, false, env, vh, Q, Q', f, h => h
  | .glo x, K, t, env, vh, Q, Q', f, h => by
    obtain ⟨d, h1, h3⟩ := h
    exact ⟨d, h1, fin_mono f h3⟩
  | .tup es, K, t, env, vh, Q, Q', f, h => wpEs_mono es K env vh _ _ (fun xs e1 h1 h => ⟨h.1, fin_mono f h.2⟩) h
  | .lst es, K, t, env, vh, Q, Q', f, h => wpEs_mono es K env vh _ _ (fun xs e1 h1 h => ⟨h.1, fin_mono f h.2⟩) h
  | .bin op a b, K, t, env, vh, Q, Q', f, h => asO_mono (wpE_mono a K false env vh) (fun x e1 h1 h => asO_mono (wpE_mono b K false e1 h1) (fun y e2 h2 h => by
      obtain ⟨c, d, p, q, r⟩ := h
      exact ⟨c, d, p, q, wpBin_mono (fun _ => fin_mono f) r⟩) h) h
  | .neg a, K, t, env, vh, Q, Q', f, h => wpE_mono a K false env vh _ _ (fun x e1 h1 h => by
      obtain ⟨i, p, r⟩ := h
      exact ⟨i, p, fin_mono f r⟩) h
  | .cmp op a b, K, t, env, vh, Q, Q', f, h => asO_mono (wpE_mono a K false env vh) (fun x e1 h1 h => asO_mono (wpE_mono b K false e1 h1) (fun y e2 h2 h => by
      obtain ⟨c, d, p, q, r⟩ := h
      exact ⟨c, d, p, q, wpCmp_mono (fun _ => f _ _ _) r⟩) h) h
  | .chain op op' a b c, K, t, env, vh, Q, Q', f, h => asO_mono (wpE_mono a K false env vh) (fun x e1 h1 h => asO_mono (wpE_mono b K false e1 h1) (fun y e2 h2 h => by
      obtain ⟨d, e, p, q, r⟩ := h
      exact ⟨d, e, p, q, wpCmp_mono (fun k => ifP_mono (asO_mono (wpE_mono c K false e2 h2) fun z e3 h3 h => by
        obtain ⟨g, i, p, q, r⟩ := h
        exact ⟨g, i, p, q, wpCmp_mono (fun _ => f _ _ _) r⟩) (f _ _ _)) r⟩) h) h
  | .and a b, K, true, env, vh, Q, Q', f, h => wpE_mono a K true env vh _ _ (fun x e1 h1 h => by
      obtain ⟨k, p, r⟩ := h
      exact ⟨k, p, ifP_mono (wpE_mono b K true e1 h1 _ _ f) (f _ _ _) r⟩) h
  | .and a b, K, false, env, vh, Q, Q', f, h => wpE_mono a K false env vh _ _ (fun x e1 h1 h => by
      obtain ⟨d, k, p, q, r⟩ := h
      exact ⟨d, k, p, q, ifP_mono (wpE_mono b K false e1 h1 _ _ f) (f _ _ _) r⟩) h
  | .or a b, K, true, env, vh, Q, Q', f, h => wpE_mono a K true env vh _ _ (fun x e1 h1 h => by
      obtain ⟨k, p, r⟩ := h
      exact ⟨k, p, ifP_mono (f _ _ _) (wpE_mono b K true e1 h1 _ _ f) r⟩) h
  | .or a b, K, false, env, vh, Q, Q', f, h => wpE_mono a K false env vh _ _ (fun x e1 h1 h => by
      obtain ⟨d, k, p, q, r⟩ := h
      exact ⟨d, k, p, q, ifP_mono (f _ _ _) (wpE_mono b K false e1 h1 _ _ f) r⟩) h
  | .not a, K, true, env, vh, Q, Q', f, h => wpE_mono a K true env vh _ _ (fun x e1 h1 h => by
      obtain ⟨k, p, r⟩ := h
      exact ⟨k, p, f _ _ _ r⟩) h
  | .not a, K, false, env, vh, Q, Q', f, h => asO_mono (wpE_mono a K false env vh) (fun x e1 h1 h => by
      obtain ⟨d, k, p, q, r⟩ := h
      exact ⟨d, k, p, q, f _ _ _ r⟩) h
  | .ite c a b, K, t, env, vh, Q, Q', f, h => wpE_mono c K true env vh _ _ (fun x e1 h1 h => by
      obtain ⟨k, p, r⟩ := h
      exact ⟨k, p, ifP_mono (wpE_mono a K t e1 h1 _ _ f) (wpE_mono b K t e1 h1 _ _ f) r⟩) h
  | .idx a i, K, t, env, vh, Q, Q', f, h => asO_mono (wpE_mono a K false env vh) (fun x e1 h1 h => asO_mono (wpE_mono i K false e1 h1) (fun y e2 h2 h => by
      obtain ⟨c, d, p, q, r⟩ := h
      exact ⟨c, d, p, q, wpIdx_mono (fun _ => fin_mono f) r⟩) h) h
  | .sli a lo hi, K, t, env, vh, Q, Q', f, h => asO_mono (wpE_mono a K false env vh) (fun x e1 h1 h => wpE_mono lo K false e1 h1 _ _ (fun y e2 h2 ⟨i, p, h⟩ => ⟨i, p, wpE_mono hi K false e2 h2 _ _ (fun z e3 h3 h => by
      obtain ⟨c, j, p, q, s⟩ := h
      exact ⟨c, j, p, q, wpSli_mono (fun _ => fin_mono f) s⟩) h⟩) h) h
  | .call g es, K, t, env, vh, Q, Q', f, h => wpEs_mono es K env vh _ _ (fun ds e1 h1 h => (Φ g).mono _ _ _ _ (fun o h2 y => match o with
      | .ok x => fin_mono f y
      | .exc c fs => y) h) h
  | .blt g es, K, t, env, vh, Q, Q', f, h => wpOs_mono es K env vh _ _ (fun ds e1 h1 h => by
      obtain ⟨c, p, r⟩ := h
      exact ⟨c, p, wpBlt_mono (fun _ => fin_mono f) r⟩) h
  | .isi a tys, K, t, env, vh, Q, Q', f, h => asO_mono (wpE_mono a K false env vh) (fun x e1 h1 h => by
      obtain ⟨c, d, p, q, o, r⟩ := h
      exact ⟨c, d, p, q, o, fin_mono f r⟩) h
  | .lc elt tg own k es cs, K, t, env, vh, Q, Q', f, h => wpEs_mono es K env vh _ _ (fun ds e1 h1 h => by
      obtain ⟨items, p, z, r⟩ := h
      refine ⟨items, p, z, lcGo_mono (fun d h R R' g y => ?_) _ _ _ _ _ (fun acc h2 => fin_mono f) r⟩
      obtain ⟨e2, q, y⟩ := y
      exact ⟨e2, q, wpTs_mono cs e2 h _ _ (fun b h3 => ifP_mono (wpE_mono elt _ false e2 h3 _ _ fun x e4 h4 z => ⟨z.1, g _ _ z.2⟩) (g _ _)) y⟩) h
theorem wpEs_mono : ∀ (es : List E) (K : XP) (env : VE) (vh : VH) (Q Q' : List D → VE → VH → Prop), (∀ x e h, Q x e h → Q' x e h) → wpEs Φ Γ es K env vh Q → wpEs Φ Γ es K env vh Q'
  | [], K, env, vh, Q, Q', f, h => f _ _ _ h
  | e :: es, K, env, vh, Q, Q', f, h => wpE_mono e K false env vh _ _ (fun x e1 h1 h => wpEs_mono es K e1 h1 _ _ (fun xs e2 h2 => f _ _ _) h) h
theorem wpOs_mono : ∀ (es : List E) (K : XP) (env : VE) (vh : VH) (Q Q' : List Op → VE → VH → Prop), (∀ x e h, Q x e h → Q' x e h) → wpOs Φ Γ es K env vh Q → wpOs Φ Γ es K env vh Q'
  | [], K, env, vh, Q, Q', f, h => f _ _ _ h
  | e :: es, K, env, vh, Q, Q', f, h => asO_mono (wpE_mono e K false env vh) (fun x e1 h1 h => wpOs_mono es K e1 h1 _ _ (fun xs e2 h2 => f _ _ _) h) h
theorem wpTs_mono : ∀ (es : List E) (env : VE) (vh : VH) (Q Q' : Bool → VH → Prop), (∀ b h, Q b h → Q' b h) → wpTs Φ Γ es env vh Q → wpTs Φ Γ es env vh Q'
  | [], env, vh, Q, Q', f, h => f _ _ h
  | [c], env, vh, Q, Q', f, h => wpE_mono c _ true env vh _ _ (fun x e1 h1 h => by
      obtain ⟨q, k, p, r⟩ := h
      exact ⟨q, k, p, f _ _ r⟩) h
  | _ :: _ :: _, env, vh, Q, Q', f, h => h
end
end
end R

namespace R
open PySem PySem.Spec PyProof.Rows L2
open PySem.SeqAt
open PySem.AutoSeq1 (wpAny_loadPart')
open PySem.MeetsSeq PySem.MeetsSeq2 PySem.MeetsSeq3
theorem tuple_mul1 (l : Addr) (items : Array Value) (n : Nat) (dd : Option Addr) (sl : Array (Option Value)) (x : Int) (u : Tok) (c0 : (decide (x < -(2 ^ 63)) || decide (x ≥ 2 ^ 63)) = false) (c1 : (items.isEmpty || x == 1) = true) :
    Meets (Builtin.«tuple.__mul__» ⟨[.ref l, .int x u], []⟩) (fun _ R s => s.heap.get? l = some { cls := .type "tuple", dict := dd, data := .seq items n, slots := sl } ∧
      R (.ok (.ret (Value.ref l))) s) :=
  .of_wp fun prog w A R s h => by
    obtain ⟨hp, g, d, tk, os⟩ := s
    obtain ⟨hl, h⟩ := h
    have f1 := AutoSeq1.idx_int
    wp_walk using wpAny_loadPart' hl
    repeat (first
      | (refine wpAny_ite_false (decide_eq_false (by rw [c0]; exact Bool.false_ne_true)) ?_; wp_walk using wpAny_loadPart' hl)
      | (refine wpAny_ite_true (decide_eq_true c1) ?_; wp_walk using wpAny_loadPart' hl))
    exact ⟨_, rfl, h⟩

def rRepA (K : PySem.W.Frag) : R2 := fun x y H Q => ∃ l k xs, x = .ref l ∧ y = .int k ∧ SqT K H l xs ∧ 1 ≤ k ∧ k ≤ 1000 ∧ xs.length ≤ 1000 ∧ (xs = [] ∨ k = 1 → Q (.ref l) H) ∧ (xs ≠ [] → 2 ≤ k → ∀ p, H p = none → Q (.ref p) (upd H p (.tup (List.replicate k.toNat xs).flatten)))
theorem op_repA {X : Cx} : OpR X (binaryOp .Mult) (rRepA X.K) := by
  intro pins s σ H x y v u Q I rx ry h
  obtain ⟨l, k, xs, rfl, rfl, hT, h1, h2, hz, q1, q2⟩ := h
  by_cases hs : xs = [] ∨ k = 1
  · cases rx
    obtain ⟨t, rfl⟩ := ry
    obtain ⟨its, r, ⟨⟨cls, dd, data, sl⟩, ho, hc, n, hd⟩, hzz⟩ := I.tuple hT
    simp only at hc hd
    subst hc hd
    have c0 : (decide (k < -(2 ^ 63)) || decide (k ≥ 2 ^ 63)) = false := by
      rw [decide_eq_false (by omega), decide_eq_false (by omega)] <;> rfl
    have c1 : (its.toArray.isEmpty || k == 1) = true := by
      rcases hs with e | e
      · subst e
        cases r
        rfl
      · rw [e]; simp
    refine wpAny_binaryOp_repeat_ref (T := "tuple") (U := "int") (by decide) ⟨_, ho, rfl⟩ (fun s' => typeIs_int s' k t) noFill_tuple_mul F.fills_int_mul F.slot_int_rmul repeat_tuple F.slot_int_index.lookup
      (call_meets F.slot_int_rmul (typeIs_int s k t) F.entry_int_rmul (F.args_int_rmul_2 _ _) (int_rmul_tuple k t l its.toArray n dd sl)
        ⟨ho, rfl, ⟨_, ho, rfl⟩, call_meets F.slot_tuple_mul ⟨_, ho, rfl⟩ F.entry_tuple_mul (F.args_tuple_mul_2 _ _) (tuple_mul1 l its.toArray n dd sl k t c0 c1) ⟨ho, ?_⟩⟩)
    exact ⟨.ref l, H, I, rfl, q1 hs⟩
  · have n1 : xs ≠ [] := fun e => hs (.inl e)
    have n2 : 2 ≤ k := by
      have : k ≠ 1 := fun e => hs (.inr e)
      omega
    exact op_repT pins s σ H _ _ v u Q I rx ry ⟨l, k, xs, rfl, rfl, hT, n1, n2, h2, hz, q2 n1 n2⟩

/-! ### what operations on data give -/
/-- read for its items alone -/
def RW (G : Wd) (Z : Addr → Prop) (ρ : List Addr) (H : Hp) : D → V → Prop
  | .lst xs, v => ∃ a vs, v = .ref a ∧ H a = some (.lst vs) ∧ RDs G Z ρ H xs vs
  | .dct ks xs, v => ∃ a ws vs, v = .ref a ∧ H a = some (.dK ws) ∧ ws.map (·.1) = ks ∧ ws.map (·.2) = vs ∧ RDs G Z ρ H xs vs
  | d, v => RD G Z ρ H d v
theorem RD.w {G : Wd} {Z : Addr → Prop} {ρ : List Addr} {H : Hp} : ∀ {d : D} {v : V}, RD G Z ρ H d v → RW G Z ρ H d v
  | .lst xs, v, h => by obtain ⟨a, vs, e, _, h1, h2⟩ := h; exact ⟨a, vs, e, h1, h2⟩
  | .dct ks xs, v, h => by obtain ⟨a, ws, vs, e, _, h1, e1, e2, h2⟩ := h; exact ⟨a, ws, vs, e, h1, e1, e2, h2⟩
  | .non, _, h => h
  | .bl _, _, h => h
  | .int _, _, h => h
  | .str _, _, h => h
  | .ty _, _, h => h
  | .tup _, _, h => h
  | .obj _ _ _, _, h => h
  | .ref _, _, h => h
  | .scr _, _, h => h
/-- a new value -/
def OutV (G : Wd) (Z : Addr → Prop) (ρ : List Addr) (H : Hp) (z : DV) (v : V) (H' : Hp) : Prop := match z with
  | .v d => Same H H' ∧ RD G Z ρ H' d v
  | .fr ds => ∃ p vs, v = .ref p ∧ H p = none ∧ H' = upd H p (.lst vs) ∧ RDs G Z ρ H ds vs
section
variable {X : Cx} {G : Wd} {Z : Addr → Prop} {ρ : List Addr}
theorem out_flat {H : Hp} {d : D} {v : V} {Q : VK} (q : ∀ v H', OutV G Z ρ H (.v d) v H' → Q v H') (h : RD G Z ρ H d v) : Q v H := q v H ⟨Same.refl H, h⟩
theorem out_tup {H : Hp} {p : Addr} {ds : List D} {vs : List V} (hp : H p = none) (h : RDs G Z ρ H ds vs) : OutV G Z ρ H (.v (.tup ds)) (.ref p) (upd H p (.tup vs)) := by
  have s := same_new (o := .tup vs) hp
  exact ⟨s, p, vs, rfl, .of upd_same, RDs.move (Mv.same s) _ _ h⟩
theorem out_lst {H : Hp} {p : Addr} {ds : List D} {vs : List V} (hp : H p = none) (h : RDs G Z ρ H ds vs) : OutV G Z ρ H (.fr ds) (.ref p) (upd H p (.lst vs)) := ⟨p, vs, rfl, hp, rfl, h⟩
theorem flat_nil {H : Hp} {ds : List D} {vs : List V} (h : RDs G Z ρ H ds vs) : vs = [] ↔ ds = [] := by
  have := h.length
  constructor
  · intro e; subst e; exact List.eq_nil_of_length_eq_zero this
  · intro e; subst e; exact List.eq_nil_of_length_eq_zero this.symm
theorem RDs.rep {H : Hp} {ds : List D} {vs : List V} (h : RDs G Z ρ H ds vs) : ∀ n : Nat, RDs G Z ρ H (List.replicate n ds).flatten (List.replicate n vs).flatten
  | 0 => rfl
  | n + 1 => by
    rw [List.replicate_succ, List.replicate_succ, List.flatten_cons, List.flatten_cons]
    exact h.append (RDs.rep h n)
theorem op_bin (hK : X.K = G.K) {op : Operator} : OpR X (binaryOp op) (fun x y H Q => ∃ Z ρ c d, RW G Z ρ H c x ∧ RW G Z ρ H d y ∧ wpBin op c d fun z => ∀ v H', OutV G Z ρ H z v H' → Q v H') := by
  rintro pins s σ H x y v u Q I rx ry ⟨Z, ρ, c, d, hc, hd, q⟩
  unfold wpBin at q
  split at q
  · cases (show x = _ from hc); cases (show y = _ from hd)
    exact op_add pins s σ H _ _ v u Q I rx ry ⟨_, _, rfl, rfl, out_flat q rfl⟩
  · cases (show x = _ from hc); cases (show y = _ from hd)
    exact op_add_str pins s σ H _ _ v u Q I rx ry ⟨_, _, rfl, rfl, by rw [sizeLine_eq]; exact q.1, out_flat q.2 rfl⟩
  · obtain ⟨a, vs, rfl, h1, h2⟩ := hc
    obtain ⟨b, ws, rfl, h3, h4⟩ := hd
    obtain ⟨hz, q⟩ := q
    refine op_catA pins s σ H _ _ v u Q I rx ry ⟨a, b, vs, ws, rfl, rfl, by rw [hK]; exact h1, by rw [hK]; exact h3, by rw [sizeLine_eq, ← h2.length, ← h4.length]; exact hz, fun e => ?_, fun _ e => ?_, fun _ _ p hp => ?_⟩
    · rw [(flat_nil h2).mp e] at q
      exact out_flat q ⟨b, ws, rfl, h3, h4⟩
    · rw [(flat_nil h4).mp e] at q
      exact out_flat q ⟨a, vs, rfl, h1, by rw [List.append_nil]; exact h2⟩
    · exact q _ _ (out_tup hp (h2.append h4))
  · obtain ⟨a, vs, rfl, h1, h2⟩ := hc
    obtain ⟨b, ws, rfl, h3, h4⟩ := hd
    exact op_cat pins s σ H _ _ v u Q I rx ry ⟨a, b, vs, ws, rfl, rfl, h1, h3, by rw [sizeLine_eq, ← h2.length, ← h4.length]; exact q.1, fun p hp => q.2 _ _ (out_lst hp (h2.append h4))⟩
  · cases (show x = _ from hc); cases (show y = _ from hd)
    exact op_sub pins s σ H _ _ v u Q I rx ry ⟨_, _, rfl, rfl, out_flat q rfl⟩
  · cases (show x = _ from hc); cases (show y = _ from hd)
    rcases q.1 with w | w | w
    · exact op_mul pins s σ H _ _ v u Q I rx ry ⟨_, _, rfl, rfl, .inl w, out_flat q.2 rfl⟩
    · exact op_mul pins s σ H _ _ v u Q I rx ry ⟨_, _, rfl, rfl, .inr w, out_flat q.2 rfl⟩
    · exact op_mulW pins s σ H _ _ v u Q I rx ry ⟨_, _, rfl, rfl, w, out_flat q.2 rfl⟩
  · obtain ⟨a, vs, rfl, h1, h2⟩ := hc
    cases (show y = _ from hd)
    obtain ⟨k0, k1, kz, q⟩ := q
    refine op_repA pins s σ H _ _ v u Q I rx ry ⟨a, _, vs, rfl, rfl, by rw [hK]; exact h1, k0, k1, by rw [← h2.length]; exact kz, fun e => ?_, fun _ _ p hp => ?_⟩
    · refine out_flat q ⟨a, vs, rfl, h1, ?_⟩
      rcases e with e | e
      · subst e
        have e0 := (flat_nil h2).mp rfl
        subst e0
        rw [show (List.replicate (Int.toNat _) ([] : List D)).flatten = [] from by simp]
        exact rfl
      · subst e
        simpa using h2
    · exact q _ _ (out_tup hp (h2.rep _))
  · cases (show x = _ from hc); cases (show y = _ from hd)
    exact op_fdivW pins s σ H _ _ v u Q I rx ry ⟨_, _, rfl, rfl, q.1, out_flat q.2 rfl⟩
  · cases (show x = _ from hc); cases (show y = _ from hd)
    exact op_mod pins s σ H _ _ v u Q I rx ry ⟨_, _, rfl, rfl, q.1, out_flat q.2 rfl⟩
  · cases (show x = _ from hc); cases (show y = _ from hd)
    exact op_pow pins s σ H _ _ v u Q I rx ry ⟨_, _, rfl, rfl, q.1, out_flat q.2 rfl⟩
  · exact q.elim

/-! ### equality -/
mutual
def toP : D → PyData
  | .bl b => .bool b
  | .int i => .int i
  | .str x => .str x
  | .lst xs => .list (toPs xs)
  | .tup xs => .tuple (toPs xs)
  | _ => .none
def toPs : List D → List PyData
  | [] => []
  | x :: xs => toP x :: toPs xs
end
mutual
theorem okD_lay : ∀ (n : Nat) (d : D), okD n d = true → (toP d).canLay0 = true ∧ (toP d).depth ≤ n
  | n, .non, h => ⟨by simp only [toP, PyData.canLay0], by simp only [toP, PyData.depth]; exact Nat.zero_le _⟩
  | n, .bl b, h => ⟨by simp only [toP, PyData.canLay0], by simp only [toP, PyData.depth]; exact Nat.zero_le _⟩
  | n, .int b, h => ⟨by simp only [toP, PyData.canLay0], by simp only [toP, PyData.depth]; exact Nat.zero_le _⟩
  | n, .str x, h => ⟨by simpa only [toP, okD] using h, by simp only [toP, PyData.depth]; exact Nat.zero_le _⟩
  | n + 1, .lst xs, h => by
    have := okDs_lay n xs (by simpa only [okD] using h)
    simp only [toP, PyData.canLay0, PyData.depth]
    exact ⟨this.1, by omega⟩
  | n + 1, .tup xs, h => by
    have := okDs_lay n xs (by simpa only [okD] using h)
    simp only [toP, PyData.canLay0, PyData.depth]
    exact ⟨this.1, by omega⟩
  | 0, .lst xs, h => by simp [okD] at h
  | 0, .tup xs, h => by simp [okD] at h
  | n, .ty _, h => by simp [okD] at h
  | n, .dct _ _, h => by simp [okD] at h
  | n, .obj _ _ _, h => by simp [okD] at h
  | n, .ref _, h => by simp [okD] at h
  | n, .scr _, h => by simp [okD] at h
theorem okDs_lay : ∀ (n : Nat) (ds : List D), okDs n ds = true → PyData.canLayAll0 (toPs ds) = true ∧ PyData.depthAll (toPs ds) ≤ n
  | n, [], h => ⟨by simp only [toPs, PyData.canLayAll0], by simp only [toPs, PyData.depthAll]; exact Nat.zero_le _⟩
  | n, x :: xs, h => by
    have h' : okD n x = true ∧ okDs n xs = true := by simpa only [okDs, Bool.and_eq_true] using h
    have a := okD_lay n x h'.1
    have b := okDs_lay n xs h'.2
    simp only [toPs, PyData.canLayAll0, PyData.depthAll, Bool.and_eq_true]
    exact ⟨⟨a.1, b.1⟩, by omega⟩
end
mutual
theorem eqD_P : ∀ (n : Nat) (c d : D), okD n c = true → okD n d = true → PyData.eqv (toP c) (toP d) = eqD c d
  | n, .non, d, hc, hd => by cases d <;> first | rfl | (simp [okD] at hd; done) | (simp [okD, toP, eqD, PyData.eqv]; done)
  | n, .bl b, d, hc, hd => by cases d <;> first | rfl | (simp [okD] at hd; done) | (simp [okD, toP, eqD, PyData.eqv]; done)
  | n, .int b, d, hc, hd => by cases d <;> first | rfl | (simp [okD] at hd; done) | (simp [okD, toP, eqD, PyData.eqv]; done)
  | n, .str b, d, hc, hd => by cases d <;> first | rfl | (simp [okD] at hd; done) | (simp [okD, toP, eqD, PyData.eqv]; done)
  | n + 1, .lst xs, d, hc, hd => by
    cases d with
    | lst ys =>
      simp only [toP, eqD, PyData.eqv]
      exact eqDs_P n xs ys (by simpa only [okD] using hc) (by simpa only [okD] using hd)
    | _ => first | rfl | (simp [okD] at hd; done) | (simp [toP, eqD, PyData.eqv]; done)
  | n + 1, .tup xs, d, hc, hd => by
    cases d with
    | tup ys =>
      simp only [toP, eqD, PyData.eqv]
      exact eqDs_P n xs ys (by simpa only [okD] using hc) (by simpa only [okD] using hd)
    | _ => first | rfl | (simp [okD] at hd; done) | (simp [toP, eqD, PyData.eqv]; done)
  | 0, .lst xs, d, hc, hd => by simp [okD] at hc
  | 0, .tup xs, d, hc, hd => by simp [okD] at hc
  | n, .ty _, d, hc, hd => by simp [okD] at hc
  | n, .dct _ _, d, hc, hd => by simp [okD] at hc
  | n, .obj _ _ _, d, hc, hd => by simp [okD] at hc
  | n, .ref _, d, hc, hd => by simp [okD] at hc
  | n, .scr _, d, hc, hd => by simp [okD] at hc
theorem eqDs_P : ∀ (n : Nat) (xs ys : List D), okDs n xs = true → okDs n ys = true → PyData.eqvAll (toPs xs) (toPs ys) = eqDs xs ys
  | n, [], [], _, _ => by simp [toPs, PyData.eqvAll, eqDs]
  | n, [], _ :: _, _, _ => by simp [toPs, PyData.eqvAll, eqDs]
  | n, _ :: _, [], _, _ => by simp [toPs, PyData.eqvAll, eqDs]
  | n, x :: xs, y :: ys, hc, hd => by
    have h1 : okD n x = true ∧ okDs n xs = true := by simpa only [okDs, Bool.and_eq_true] using hc
    have h2 : okD n y = true ∧ okDs n ys = true := by simpa only [okDs, Bool.and_eq_true] using hd
    simp only [toPs, PyData.eqvAll, eqDs]
    rw [eqD_P n x y h1.1 h2.1, eqDs_P n xs ys h1.2 h2.2]
end
mutual
theorem RD.dp (hK : X.K = G.K) {H : Hp} : ∀ (n : Nat) (d : D) (v : V), okD n d = true → RW G Z ρ H d v → Dp X.K H v (toP d)
  | n, .non, v, h, r => by cases (show v = _ from r); exact .non
  | n, .bl b, v, h, r => by cases (show v = _ from r); exact .bl b
  | n, .int b, v, h, r => by cases (show v = _ from r); exact .int b
  | n, .str b, v, h, r => by cases (show v = _ from r); exact .str b
  | n + 1, .lst xs, v, h, r => by
    obtain ⟨a, vs, rfl, h1, h2⟩ := r
    exact .lst (.of h1) (RDs.dps hK n xs vs (by simpa only [okD] using h) h2)
  | n + 1, .tup xs, v, h, r => by
    obtain ⟨a, vs, rfl, h1, h2⟩ := r
    exact .tup (by rw [hK]; exact h1) (RDs.dps hK n xs vs (by simpa only [okD] using h) h2)
  | 0, .lst xs, v, h, r => by simp [okD] at h
  | 0, .tup xs, v, h, r => by simp [okD] at h
  | n, .ty _, v, h, r => by simp [okD] at h
  | n, .dct _ _, v, h, r => by simp [okD] at h
  | n, .obj _ _ _, v, h, r => by simp [okD] at h
  | n, .ref _, v, h, r => by simp [okD] at h
  | n, .scr _, v, h, r => by simp [okD] at h
theorem RDs.dps (hK : X.K = G.K) {H : Hp} : ∀ (n : Nat) (ds : List D) (vs : List V), okDs n ds = true → RDs G Z ρ H ds vs → DpAll X.K H vs (toPs ds)
  | n, [], vs, h, r => by cases (show vs = [] from r); exact .nil
  | n, x :: xs, vs, h, r => by
    obtain ⟨v, w, rfl, h1, h2⟩ := r
    have h' : okD n x = true ∧ okDs n xs = true := by simpa only [okDs, Bool.and_eq_true] using h
    exact .cons (RD.dp hK n x v h'.1 h1.w) (RDs.dps hK n xs w h'.2 h2)
end
theorem shaped_ok {d : D} (h : okD 64 d = true) : SeqAt.shaped (toP d) = true := by
  have := okD_lay 64 d h
  unfold SeqAt.shaped
  rw [this.1, decide_eq_true this.2] <;> rfl
theorem op_cmp (hK : X.K = G.K) (hu : X.A.units + 64 < cLine) {op : CmpOp} : OpR X (compareOp op) (fun x y H Q => ∃ Z ρ c d, RW G Z ρ H c x ∧ RW G Z ρ H d y ∧ wpCmp op c d fun k => Q (.bl k) H) := by
  rintro pins s σ H x y v u Q I rx ry ⟨Z, ρ, c, d, hc, hd, q⟩
  unfold wpCmp at q
  split at q
  · obtain ⟨o1, o2, q⟩ := q
    exact op_eqD hu pins s σ H _ _ v u Q I rx ry ⟨toP c, toP d, RD.dp hK 64 c x o1 hc, RD.dp hK 64 d y o2 hd, shaped_ok o1, shaped_ok o2, by rw [eqD_P 64 c d o1 o2]; exact q⟩
  · obtain ⟨o1, o2, q⟩ := q
    exact op_neD hu pins s σ H _ _ v u Q I rx ry ⟨toP c, toP d, RD.dp hK 64 c x o1 hc, RD.dp hK 64 d y o2 hd, shaped_ok o1, shaped_ok o2, by rw [eqD_P 64 c d o1 o2]; exact q⟩
  · cases (show x = _ from hc); cases (show y = _ from hd)
    exact op_lt pins s σ H _ _ v u Q I rx ry ⟨_, _, rfl, rfl, q⟩
  · cases (show x = _ from hc); cases (show y = _ from hd)
    exact op_le pins s σ H _ _ v u Q I rx ry ⟨_, _, rfl, rfl, q⟩
  · cases (show x = _ from hc); cases (show y = _ from hd)
    exact op_gt pins s σ H _ _ v u Q I rx ry ⟨_, _, rfl, rfl, q⟩
  · cases (show x = _ from hc); cases (show y = _ from hd)
    exact op_ge pins s σ H _ _ v u Q I rx ry ⟨_, _, rfl, rfl, q⟩
  · cases (show y = _ from hd)
    refine op_isN pins s σ H _ _ v u Q I rx ry ⟨rfl, ?_⟩
    have e : decide (x = V.non) = isNon c := by
      cases c <;> first
        | (cases (show x = _ from hc); rfl)
        | (obtain ⟨a, vs, rfl, _⟩ := hc; rfl)
        | (obtain ⟨a, vs, vs', rfl, _⟩ := hc; rfl)
        | (obtain ⟨a, C, dx, ws, vs, rfl, _⟩ := hc; rfl)
        | (obtain ⟨a, _, rfl⟩ := hc; rfl)
        | (obtain ⟨a, rfl, _⟩ := hc; rfl)
    rw [e]; exact q
  · cases (show y = _ from hd)
    refine op_notN pins s σ H _ _ v u Q I rx ry ⟨rfl, ?_⟩
    have e : (!decide (x = V.non)) = (!isNon c) := by
      cases c <;> first
        | (cases (show x = _ from hc); rfl)
        | (obtain ⟨a, vs, rfl, _⟩ := hc; rfl)
        | (obtain ⟨a, vs, vs', rfl, _⟩ := hc; rfl)
        | (obtain ⟨a, C, dx, ws, vs, rfl, _⟩ := hc; rfl)
        | (obtain ⟨a, _, rfl⟩ := hc; rfl)
        | (obtain ⟨a, rfl, _⟩ := hc; rfl)
    rw [e]; exact q
  · cases (show x = _ from hc); cases (show y = _ from hd)
    exact op_isBl pins s σ H _ _ v u Q I rx ry ⟨_, _, rfl, rfl, q⟩
  · cases (show x = _ from hc); cases (show y = _ from hd)
    exact op_notBl pins s σ H _ _ v u Q I rx ry ⟨_, _, rfl, rfl, q⟩
  · exact q.elim

/-! ### items, slices -/
theorem RDs.at {H : Hp} {ds : List D} {vs : List V} {i : Int} {d : D} (h : RDs G Z ρ H ds vs) (e : atI ds i = some d) : ∃ v, atI vs i = some v ∧ RD G Z ρ H d v := by
  unfold atI at *
  rw [← h.length]
  cases q : ixN ds.length i with
  | none => rw [q] at e; cases e
  | some j =>
    rw [q] at e
    exact h.get e
theorem RDs.cut {H : Hp} {ds : List D} {vs : List V} (h : RDs G Z ρ H ds vs) (lo hi : Option Int) : RDs G Z ρ H (cutL ds lo hi) (cutV vs lo hi) := by
  unfold cutL cutV
  rw [← h.length]
  exact (h.drop _).take _
theorem atI_map {α β : Type} {f : α → β} {xs : List α} {i : Int} {x : α} (h : atI xs i = some x) : atI (xs.map f) i = some (f x) := by
  unfold atI at *
  rw [List.length_map]
  cases q : ixN xs.length i with
  | none => rw [q] at h; cases h
  | some j =>
    rw [q] at h
    have h' : xs[j]? = some x := h
    show (xs.map f)[j]? = _
    rw [List.getElem?_map, h']
    rfl
theorem ix_d (hK : X.K = G.K) : IxR X (fun x y H Q => ∃ Z ρ c d, RW G Z ρ H c x ∧ RW G Z ρ H d y ∧ wpIdx c d fun z => ∀ v, RD G Z ρ H z v → Q v H) := by
  rintro val slice pins s σ H x y v u Q I rx ry ⟨Z, ρ, c, d, hc, hd, q⟩ hs
  unfold wpIdx at q
  split at q
  · obtain ⟨a, vs, rfl, h1, h2⟩ := hc
    cases (show y = _ from hd)
    obtain ⟨z, e, q⟩ := q
    obtain ⟨w, e2, h3⟩ := h2.at e
    exact ix_tup val slice pins s σ H _ _ v u Q I rx ry ⟨a, vs, _, w, rfl, rfl, by rw [hK]; exact h1, e2, q w h3⟩ hs
  · obtain ⟨a, vs, rfl, h1, h2⟩ := hc
    cases (show y = _ from hd)
    obtain ⟨z, e, q⟩ := q
    obtain ⟨w, e2, h3⟩ := h2.at e
    exact ix_list val slice pins s σ H _ _ v u Q I rx ry ⟨a, vs, _, w, rfl, rfl, .of h1, e2, q w h3⟩ hs
  · obtain ⟨a, rfl, h1⟩ := hc
    cases (show y = _ from hd)
    obtain ⟨z, e, q⟩ := q
    exact ix_list val slice pins s σ H _ _ v u Q I rx ry ⟨a, _, _, _, rfl, rfl, by rw [hK]; exact h1.sq, atI_map e, q _ rfl⟩ hs
  · cases (show x = _ from hc); cases (show y = _ from hd)
    obtain ⟨hz, z, e, q⟩ := q
    exact ix_str val slice pins s σ H _ _ v u Q I rx ry ⟨_, _, z, rfl, rfl, by rw [sizeLine_eq]; exact hz, e, q _ rfl⟩ hs
  · exact q.elim
theorem cutL_whole {α : Type} {xs : List α} {lo hi : Option Int} (h : HT.sIx xs.length 0 lo = 0 ∧ HT.sIx xs.length xs.length hi = xs.length) : cutL xs lo hi = xs := by
  unfold cutL
  rw [h.1, h.2, List.drop_zero, Nat.sub_zero, List.take_length]
theorem cut_ints {ns : List Int} (lo hi : Option Int) : cutV (ns.map V.int) lo hi = (cutL ns lo hi).map V.int := by
  unfold cutV cutL
  rw [List.length_map, List.map_take, List.map_drop]
theorem sl_d (hK : X.K = G.K) : SlR X (fun x lo hi H Q => ∃ Z ρ c, RW G Z ρ H c x ∧ wpSli c lo hi fun z => ∀ v H', OutV G Z ρ H z v H' → Q v H') := by
  rintro pins s σ H x v vl vu lo hi sl Q I rx hs pl pu ⟨Z, ρ, c, hc, q⟩
  unfold wpSli at q
  split at q
  · obtain ⟨a, vs, rfl, h1, h2⟩ := hc
    refine sl_tupA pins s σ H _ v vl vu lo hi sl Q I rx hs pl pu ⟨a, vs, rfl, by rw [hK]; exact h1, fun e => ?_, fun _ p hp => q _ _ (out_tup hp (h2.cut lo hi))⟩
    rw [← h2.length] at e
    rw [cutL_whole e] at q
    exact out_flat q ⟨a, vs, rfl, h1, h2⟩
  · obtain ⟨a, vs, rfl, h1, h2⟩ := hc
    exact sl_list pins s σ H _ v vl vu lo hi sl Q I rx hs pl pu ⟨a, vs, rfl, .of h1, fun p hp => q _ _ (out_lst hp (h2.cut lo hi))⟩
  · obtain ⟨a, rfl, h1⟩ := hc
    refine sl_list pins s σ H _ v vl vu lo hi sl Q I rx hs pl pu ⟨a, _, rfl, by rw [hK]; exact h1.sq, fun p hp => q _ _ (out_lst hp ?_)⟩
    rw [cut_ints]
    exact RDs.ints _
  · exact q.elim
end
end R

namespace R
open PySem PySem.Spec PyProof.Rows L2
/-! ## R3: the parts of the small language are what the program's parts do -/
section
variable {X : Cx} {G : Wd} {Z : Addr → Prop} {ρ : List Addr}
/-! ### built-ins -/
def RWs (G : Wd) (Z : Addr → Prop) (ρ : List Addr) (H : Hp) : List D → List V → Prop
  | [], vs => vs = []
  | d :: ds, vs => ∃ v r, vs = v :: r ∧ RW G Z ρ H d v ∧ RWs G Z ρ H ds r
theorem RW.ty {H : Hp} (hK : X.K = G.K) : ∀ {d : D} {v : V} {n : String}, RW G Z ρ H d v → tyD d = some n → TyX X.K H v (.type n)
  | .non, v, n, h, e => by cases (show v = _ from h); cases e; exact .base .non
  | .bl b, v, n, h, e => by cases (show v = _ from h); cases e; exact .base (.bl b)
  | .int b, v, n, h, e => by cases (show v = _ from h); cases e; exact .base (.int b)
  | .str b, v, n, h, e => by cases (show v = _ from h); cases e; exact .base (.str b)
  | .tup xs, v, n, h, e => by
    cases e
    obtain ⟨a, vs, rfl, (h1 | ⟨o, h1⟩) | ⟨o, its, n, h1, h2, _⟩, _⟩ := h
    · exact .base (.tup h1)
    · exact .fTuple h1
    · exact .kTuple (by rw [hK]; exact h1) h2
  | .lst xs, v, n, h, e => by
    cases e
    obtain ⟨a, vs, rfl, h1, _⟩ := h
    exact .base (.lst h1)
  | .scr xs, v, n, h, e => by
    cases e
    obtain ⟨a, rfl, ⟨_, h1 | ⟨o, h1⟩⟩ | ⟨o, its, n, h1, h2, _⟩⟩ := h
    · exact .base (.lst h1)
    · exact .base (.frz h1)
    · exact .kList (by rw [hK]; exact h1) h2
  | .dct ks xs, v, n, h, e => by
    cases e
    obtain ⟨a, ws, vs, rfl, h1, _⟩ := h
    exact .base (.dK h1)
  | .ty _, v, n, h, e => by cases e
  | .obj _ _ _, v, n, h, e => by cases e
  | .ref _, v, n, h, e => by cases e
theorem kit_table : ((["NoneType", "bool", "int", "str", "tuple", "list", "dict"] : List String).all fun a => (["int", "bool", "str", "tuple", "list", "dict"] : List String).all fun b => kitB a b == some (isTy a b)) = true := by decide +kernel
theorem tyD_mem {d : D} {n : String} (e : tyD d = some n) : n ∈ (["NoneType", "bool", "int", "str", "tuple", "list", "dict"] : List String) := by
  cases d <;> cases e <;> simp
theorem okTy_mem {b : String} (h : okTy b = true) : b ∈ (["int", "bool", "str", "tuple", "list", "dict"] : List String) := by
  unfold okTy at h
  simp only [Bool.or_eq_true, beq_iff_eq] at h
  simp only [List.mem_cons]
  rcases h with ((((h | h) | h) | h) | h) | h <;> simp [h]
theorem kit_is {K : PySem.W.Frag} {d : D} {n b : String} (e : tyD d = some n) (h : okTy b = true) : PySem.W.kitOne K (.type n) (.type b) = some (isTy n b) := by
  have t := kit_table
  rw [List.all_eq_true] at t
  have t2 := t n (tyD_mem e)
  rw [List.all_eq_true] at t2
  exact kit_ty (eq_of_beq (t2 b (okTy_mem h)))
theorem kit_any {K : PySem.W.Frag} {d : D} {n : String} (e : tyD d = some n) : ∀ {bs : List String}, bs.all okTy = true → PySem.W.kitAny K (.type n) (bs.map Value.type) = some (bs.any (isTy n))
  | [], _ => rfl
  | b :: bs, h => by
    rw [List.all_cons, Bool.and_eq_true] at h
    rw [List.map_cons, List.any_cons]
    refine kitAny_cons (kit_is e h.1) (fun f => ?_) (fun f => ?_)
    · rw [f, Bool.false_or]; exact kit_any e h.2
    · rw [f, Bool.true_or]

def bltV : Bf → Value
  | .len => .builtin "len"
  | .int => .type "int"
  | .bool => .type "bool"
  | .str => .type "str"
  | .tuple => .type "tuple"
  | .list => .type "list"
  | .abs => .builtin "abs"
  | .min2 => .builtin "min"
  | .max2 => .builtin "max"
  | .sum => .builtin "sum"
  | .all => .builtin "all"
  | .any => .builtin "any"
  | .sorted => .builtin "sorted"
  | .min1 => .builtin "min"
  | .max1 => .builtin "max"
def bltN : Bf → Str
  | .len => "len"
  | .int => "int"
  | .bool => "bool"
  | .str => "str"
  | .tuple => "tuple"
  | .list => "list"
  | .abs => "abs"
  | .min2 => "min"
  | .max2 => "max"
  | .sum => "sum"
  | .all => "all"
  | .any => "any"
  | .sorted => "sorted"
  | .min1 => "min"
  | .max1 => "max"
theorem RWs.one {H : Hp} {d : D} {vs : List V} (h : RWs G Z ρ H [d] vs) : ∃ v, vs = [v] ∧ RW G Z ρ H d v := by
  obtain ⟨v, r, rfl, h1, h2⟩ := h
  cases (show r = [] from h2)
  exact ⟨v, rfl, h1⟩
theorem RWs.two {H : Hp} {d e : D} {vs : List V} (h : RWs G Z ρ H [d, e] vs) : ∃ v w, vs = [v, w] ∧ RW G Z ρ H d v ∧ RW G Z ρ H e w := by
  obtain ⟨v, r, rfl, h1, h2⟩ := h
  obtain ⟨w, rfl, h3⟩ := RWs.one h2
  exact ⟨v, w, rfl, h1, h3⟩
theorem call_d (hK : X.K = G.K) (hc : X.calm = true) (f : Bf) : CallR X (bltV f) (fun xs H Q => ∃ Z ρ ds, RWs G Z ρ H ds xs ∧ wpBlt f ds fun z => ∀ v H', OutV G Z ρ H z v H' → Q v H') := by
  rintro pins s σ H xs us Q I r ⟨Z, ρ, ds, hd, q⟩
  unfold wpBlt at q
  split at q
  · obtain ⟨v, rfl, a, vs, rfl, h1, h2⟩ := hd.one
    exact call_len pins s σ H _ us Q I r ⟨_, _, rfl, .inr ⟨vs, by rw [hK]; exact h1, h2.length⟩, out_flat q rfl⟩
  · obtain ⟨v, rfl, a, vs, rfl, h1, h2⟩ := hd.one
    exact call_len pins s σ H _ us Q I r ⟨_, _, rfl, .inl ⟨vs, .of h1, h2.length⟩, out_flat q rfl⟩
  · obtain ⟨v, rfl, a, rfl, h1⟩ := hd.one
    exact call_len pins s σ H _ us Q I r ⟨_, _, rfl, .inl ⟨_, by rw [hK]; exact h1.sq, (List.length_map _).symm⟩, out_flat q rfl⟩
  · obtain ⟨v, rfl, h⟩ := hd.one
    cases (show v = _ from h)
    exact call_len pins s σ H _ us Q I r ⟨_, _, rfl, ⟨by rw [sizeLine_eq]; exact q.1, rfl⟩, out_flat q.2 rfl⟩
  · obtain ⟨v, rfl, h⟩ := hd.one
    cases (show v = _ from h)
    exact call_int1 pins s σ H _ us Q I r (.inl ⟨_, rfl, out_flat q rfl⟩)
  · obtain ⟨v, rfl, h⟩ := hd.one
    cases (show v = _ from h)
    exact call_int1 pins s σ H _ us Q I r (.inr ⟨_, rfl, out_flat q rfl⟩)
  · obtain ⟨v, rfl, a, vs, rfl, h1, h2⟩ := hd.one
    exact call_tuple_of pins s σ H _ us Q I r ⟨a, vs, rfl, .inl ⟨.of h1, fun p hp => q _ _ (out_tup hp h2)⟩⟩
  · obtain ⟨v, rfl, a, vs, rfl, h1, h2⟩ := hd.one
    exact call_tuple_of pins s σ H _ us Q I r ⟨a, vs, rfl, .inr ⟨by rw [hK]; exact h1, out_flat q ⟨a, vs, rfl, h1, h2⟩⟩⟩
  · obtain ⟨v, rfl, a, vs, rfl, h1, h2⟩ := hd.one
    exact call_list_of pins s σ H _ us Q I r ⟨a, vs, rfl, .inl (.of h1), fun p hp => q _ _ (out_lst hp h2)⟩
  · obtain ⟨v, rfl, a, rfl, h1⟩ := hd.one
    exact call_list_of pins s σ H _ us Q I r ⟨a, _, rfl, .inl (by rw [hK]; exact h1.sq), fun p hp => q _ _ (out_lst hp (RDs.ints _))⟩
  · obtain ⟨v, rfl, a, vs, rfl, h1, h2⟩ := hd.one
    exact call_list_of pins s σ H _ us Q I r ⟨a, vs, rfl, .inr (by rw [hK]; exact h1), fun p hp => q _ _ (out_lst hp h2)⟩
  · obtain ⟨v, rfl, h⟩ := hd.one
    cases (show v = _ from h)
    exact call_abs pins s σ H _ us Q I r ⟨_, rfl, out_flat q rfl⟩
  · obtain ⟨v, w, rfl, h, h'⟩ := hd.two
    cases (show v = _ from h); cases (show w = _ from h')
    exact call_min2 hc pins s σ H _ us Q I r ⟨_, _, rfl, out_flat q rfl⟩
  · obtain ⟨v, w, rfl, h, h'⟩ := hd.two
    cases (show v = _ from h); cases (show w = _ from h')
    exact call_max2 hc pins s σ H _ us Q I r ⟨_, _, rfl, out_flat q rfl⟩
  · obtain ⟨v, rfl, a, vs, rfl, h1, h2⟩ := hd.one
    obtain ⟨bs, rfl, q⟩ := q
    cases RDs.bls_of h2
    exact cr_all hc pins s σ H _ us Q I r ⟨a, bs, rfl, .of h1, out_flat q rfl⟩
  · obtain ⟨v, rfl, a, vs, rfl, h1, h2⟩ := hd.one
    obtain ⟨bs, rfl, q⟩ := q
    cases RDs.bls_of h2
    exact cr_any hc pins s σ H _ us Q I r ⟨a, bs, rfl, .of h1, out_flat q rfl⟩
  · obtain ⟨v, rfl, a, vs, rfl, h1, h2⟩ := hd.one
    obtain ⟨ns, rfl, q⟩ := q
    cases RDs.ints_of h2
    exact cr_sortedI pins s σ H _ us Q I r ⟨a, ns, rfl, .of h1, fun ns' b p w hb => q ns' p w _ _ (out_lst hb (RDs.ints _))⟩
  · obtain ⟨v, rfl, a, vs, rfl, h1, h2⟩ := hd.one
    obtain ⟨ns, rfl, l, q⟩ := q
    cases RDs.ints_of h2
    exact cr_min hc pins s σ H _ us Q I r ⟨a, ns, rfl, .of h1, l, fun m h1 h2 => out_flat (q m h1 h2) rfl⟩
  · obtain ⟨v, rfl, a, vs, rfl, h1, h2⟩ := hd.one
    obtain ⟨ns, rfl, l, q⟩ := q
    cases RDs.ints_of h2
    exact cr_max hc pins s σ H _ us Q I r ⟨a, ns, rfl, .of h1, l, fun m h1 h2 => out_flat (q m h1 h2) rfl⟩
  · obtain ⟨v, rfl, a, rfl, h1⟩ := hd.one
    exact cr_sum hc pins s σ H _ us Q I r ⟨a, _, rfl, by rw [hK]; exact h1.sq, out_flat q rfl⟩
  · obtain ⟨v, rfl, a, vs, rfl, h1, h2⟩ := hd.one
    obtain ⟨ns, rfl, q⟩ := q
    cases RDs.ints_of h2
    exact cr_sum hc pins s σ H _ us Q I r ⟨a, ns, rfl, .of h1, out_flat q rfl⟩
  · exact q.elim
end

/-! ### how a part's reading is said -/
section
variable {G : Wd} {B : Base} {T ρ : List Addr} {env : VE} {vh : VH} {σ : L2.St} {H : Hp}
theorem Mv.trans {Z1 Z2 Z3 : Addr → Prop} {r1 r2 r3 : List Addr} {H1 H2 H3 : Hp} (a : Mv Z1 r1 H1 Z2 r2 H2) (b : Mv Z2 r2 H2 Z3 r3 H3) : Mv Z1 r1 H1 Z3 r3 H3 :=
  ⟨fun n x h => b.pre n x (a.pre n x h), fun x u nz h => (let ⟨n2, h2⟩ := a.keep x u nz h; b.keep x u n2 h2), fun x xs h => b.tup x xs (a.tup x xs h)⟩
theorem Mv.refl {Z1 : Addr → Prop} {r1 : List Addr} {H1 : Hp} : Mv Z1 r1 H1 Z1 r1 H1 := Mv.less fun _ h => h

/-- what comes of an expression, from (ρ, env, H) on -/
def Res (G : Wd) (B : Base) (T ρ : List Addr) (env : VE) (σ : L2.St) (H : Hp) (x : DV) (v : V) (ρ' : List Addr) (env' : VE) (vh' : VH) (H' : Hp) : Prop := match x with
  | .v d => Mv (ZZ B.F T ρ env σ) ρ H (ZZ B.F T ρ' env' σ) ρ' H' ∧ Rel G B T ρ' env' vh' σ H' ∧ RD G (ZZ B.F T ρ' env' σ) ρ' H' d v
  | .fr ds => ∃ a vs, v = .ref a ∧ H' a = some (.lst vs) ∧ Mv (ZZ B.F T ρ env σ) ρ H (ZZ B.F (a :: T) ρ' env' σ) ρ' H' ∧ Rel G B (a :: T) ρ' env' vh' σ H' ∧ RDs G (ZZ B.F (a :: T) ρ' env' σ) ρ' H' ds vs
theorem dropMv {a : Addr} {Z : Addr → Prop} {r : List Addr} {H0 : Hp} (m : Mv Z r H0 (ZZ B.F (a :: T) ρ env σ) ρ H) : Mv Z r H0 (ZZ B.F T ρ env σ) ρ H := m.trans (Mv.less fun b z => by
    rcases z with z | z | z
    · exact .inl z
    · exact .inr (.inl (List.mem_cons_of_mem _ z))
    · exact .inr (.inr z))
theorem Res.d {x : DV} {v : V} {ρ' : List Addr} {env' : VE} {vh' : VH} {H' : Hp} (r : Res G B T ρ env σ H x v ρ' env' vh' H') : Mv (ZZ B.F T ρ env σ) ρ H (ZZ B.F T ρ' env' σ) ρ' H' ∧ Rel G B T ρ' env' vh' σ H' ∧ RD G (ZZ B.F T ρ' env' σ) ρ' H' x.d v := by
  cases x with
  | v d => exact r
  | fr ds =>
    obtain ⟨a, vs, rfl, e, m, R, h⟩ := r
    exact ⟨dropMv m, R.dropT, R.let_go e h⟩
theorem Res.of_out {z : DV} {v : V} {ρ' : List Addr} {env' : VE} {vh' : VH} {H1 H' : Hp} (m : Mv (ZZ B.F T ρ env σ) ρ H (ZZ B.F T ρ' env' σ) ρ' H1) (R : Rel G B T ρ' env' vh' σ H1) (o : OutV G (ZZ B.F T ρ' env' σ) ρ' H1 z v H') :
    Res G B T ρ env σ H z v ρ' env' vh' H' := by
  cases z with
  | v d => exact ⟨m.trans (Mv.same o.1), R.grow o.1, o.2⟩
  | fr ds =>
    obtain ⟨p, vs, rfl, hp, rfl, h⟩ := o
    have m2 : Mv (ZZ B.F T ρ' env' σ) ρ' H1 (ZZ B.F (p :: T) ρ' env' σ) ρ' (upd H1 p (.lst vs)) := Mv.fresh (same_new hp) fun b z => by
      rcases z with z | z | z
      · exact .inl (.inl z)
      · rcases List.mem_cons.mp z with e | z
        · exact .inr (by rw [e]; exact hp)
        · exact .inl (.inr (.inl z))
      · exact .inl (.inr (.inr z))
    exact ⟨p, vs, rfl, upd_same, m.trans m2, R.tmp hp trivial, RDs.move m2 _ _ h⟩
/-- an operand at hand -/
def OpV (G : Wd) (Z : Addr → Prop) (ρ : List Addr) (H : Hp) (σ : L2.St) (o : Op) (v : V) : Prop := match o with
  | .dat d => RD G Z ρ H d v
  | .slt i => σ[i]? = some (some v)
theorem OpV.move {Z Z' : Addr → Prop} {ρ' : List Addr} {H' : Hp} {o : Op} {v : V} (h : OpV G Z ρ H σ o v) (m : Mv Z ρ H Z' ρ' H') : OpV G Z' ρ' H' σ o v := by
  cases o with
  | dat d => exact RD.move m _ _ h
  | slt i => exact h
theorem deref_rw (R : Rel G B T ρ env vh σ H) {d d' : D} {v : V} (h : RW G (ZZ B.F T ρ env σ) ρ H d v) (e : deref vh d = some d') : RW G (ZZ B.F T ρ env σ) ρ H d' v := by
  cases d with
  | ref n =>
    obtain ⟨a, ha, rfl⟩ := h
    unfold deref at e
    dsimp only at e
    split at e
    · rename_i xs q
      cases e
      obtain ⟨vs, h1, h2⟩ := R.ob n _ a q ha
      exact ⟨a, vs, rfl, h1, h2⟩
    · rename_i ks xs q
      cases e
      obtain ⟨ws, vs, h1, e1, e2, h2⟩ := R.ob n _ a q ha
      exact ⟨a, ws, vs, rfl, h1, e1, e2, h2⟩
    · cases e
  | _ => cases e; exact h
theorem OpV.rw (R : Rel G B T ρ env vh σ H) {o : Op} {d : D} {v : V} (h : OpV G (ZZ B.F T ρ env σ) ρ H σ o v) (e : o.ld env vh = some d) : RW G (ZZ B.F T ρ env σ) ρ H d v := by
  cases o with
  | dat c => exact deref_rw R (RD.w h) e
  | slt i =>
    unfold Op.ld at e
    dsimp only at e
    split at e
    · rename_i s hs
      split at e
      · rename_i c hc
        have q := R.st i s hs
        have h : σ[i]? = some (some v) := h
        cases s with
        | no => cases hc
        | val c' =>
          cases hc
          obtain ⟨w, e1, h1⟩ := q
          rw [h] at e1
          cases e1
          exact deref_rw R h1.w e
        | own ds =>
          cases hc
          obtain ⟨a, vs, e1, h1, h2⟩ := q
          rw [h] at e1
          cases e1
          cases e
          exact ⟨a, vs, rfl, h1, h2⟩
      · cases e
    · cases e

def tD (G : Wd) (B : Base) (w : VE → VH → QE → Prop) : TE := fun σ H Q => ∃ T ρ env vh, Rel G B T ρ env vh σ H ∧ w env vh fun x env' vh' => ∀ ρ' v H', Res G B T ρ env σ H x v ρ' env' vh' H' → Q v H'
def tO (G : Wd) (B : Base) (w : VE → VH → (Op → VE → VH → Prop) → Prop) : TE := fun σ H Q => ∃ T ρ env vh, Rel G B T ρ env vh σ H ∧ w env vh fun o env' vh' => ∀ ρ' v H', Mv (ZZ B.F T ρ env σ) ρ H (ZZ B.F T ρ' env' σ) ρ' H' → Rel G B T ρ' env' vh' σ H' → OpV G (ZZ B.F T ρ' env' σ) ρ' H' σ o v → Q v H'
def tB (G : Wd) (B : Base) (w : VE → VH → QE → Prop) : TT := fun σ H Q => ∃ T ρ env vh, Rel G B T ρ env vh σ H ∧ w env vh fun x env' vh' => ∃ k, x = .v (.bl k) ∧ ∀ ρ' H', Mv (ZZ B.F T ρ env σ) ρ H (ZZ B.F T ρ' env' σ) ρ' H' → Rel G B T ρ' env' vh' σ H' → Q k H'
def tL (G : Wd) (B : Base) (w : VE → VH → (List D → VE → VH → Prop) → Prop) : TA := fun σ H Q => ∃ T ρ env vh, Rel G B T ρ env vh σ H ∧ w env vh fun ds env' vh' => ∀ ρ' vs H', Mv (ZZ B.F T ρ env σ) ρ H (ZZ B.F T ρ' env' σ) ρ' H' → Rel G B T ρ' env' vh' σ H' → RDs G (ZZ B.F T ρ' env' σ) ρ' H' ds vs → Q vs H'
def OpVs (G : Wd) (Z : Addr → Prop) (ρ : List Addr) (H : Hp) (σ : L2.St) : List Op → List V → Prop
  | [], vs => vs = []
  | o :: os, vs => ∃ v r, vs = v :: r ∧ OpV G Z ρ H σ o v ∧ OpVs G Z ρ H σ os r
theorem OpVs.rw (R : Rel G B T ρ env vh σ H) : ∀ {os : List Op} {ds : List D} {vs : List V}, OpVs G (ZZ B.F T ρ env σ) ρ H σ os vs → ldAll env vh os = some ds → RWs G (ZZ B.F T ρ env σ) ρ H ds vs
  | [], ds, vs, h, e => by cases e; exact h
  | o :: os, ds, vs, h, e => by
    obtain ⟨v, r, rfl, h1, h2⟩ := h
    unfold ldAll at e
    split at e
    · rename_i d es e1 e2
      cases e
      exact ⟨v, r, rfl, h1.rw R e1, OpVs.rw R h2 e2⟩
    · cases e
def tOs (G : Wd) (B : Base) (w : VE → VH → (List Op → VE → VH → Prop) → Prop) : TA := fun σ H Q => ∃ T ρ env vh, Rel G B T ρ env vh σ H ∧ w env vh fun os env' vh' => ∀ ρ' vs H', Mv (ZZ B.F T ρ env σ) ρ H (ZZ B.F T ρ' env' σ) ρ' H' → Rel G B T ρ' env' vh' σ H' → OpVs G (ZZ B.F T ρ' env' σ) ρ' H' σ os vs → Q vs H'
end
theorem _root_.L2.PE.imp {X : Cx} {e : Expr} {t t' : TE} (h : PE X e t) (f : ∀ σ H Q, t' σ H Q → t σ H Q) : PE X e t' := ⟨fun pins s σ H Q I hw => h.run pins s σ H Q I (f σ H Q hw)⟩
theorem _root_.L2.PT.imp {X : Cx} {e : Expr} {t t' : TT} (h : PT X e t) (f : ∀ σ H Q, t' σ H Q → t σ H Q) : PT X e t' := ⟨fun pins s σ H Q I hw => h.run pins s σ H Q I (f σ H Q hw)⟩
theorem _root_.L2.PA.imp {X : Cx} {e : List Expr} {t t' : TA} (h : PA X e t) (f : ∀ σ H Q, t' σ H Q → t σ H Q) : PA X e t' := ⟨fun pos pins s σ H Q I hw => h.run pos pins s σ H Q I (f σ H Q hw)⟩
end R

namespace R
open PySem PySem.Spec PyProof.Rows L2
/-! ## R4: rules for expressions -/
/-- an exception's fields -/
def XF (G : Wd) (Z : Addr → Prop) (ρ : List Addr) (H : Hp) (d : Option Addr) (xs : List D) : Prop := match d with
  | none => xs = []
  | some a => ∃ ws vs, H a = some (.xd ws) ∧ ws.map (·.2) = vs ∧ RDs G Z ρ H xs vs
/-- the wish about exceptions -/
def WK (G : Wd) (B : Base) (K : XP) : WX := fun cls d σ H => ∃ c C xs T ρ env vh, G.cl c = some C ∧ cls = .ref C ∧ Rel G B T ρ env vh σ H ∧ XF G (ZZ B.F T ρ env σ) ρ H d xs ∧ K c xs env vh
/-- what comes of a call -/
def ResF (G : Wd) (B : Base) (x : DV) (v : V) (ρ' : List Addr) (vh' : VH) (H' : Hp) : Prop := match x with
  | .v d => Rel G B [] ρ' [] vh' [] H' ∧ RD G (ZZ B.F [] ρ' [] []) ρ' H' d v
  | .fr ds => ∃ a vs, v = .ref a ∧ H' a = some (.lst vs) ∧ Rel G B [a] ρ' [] vh' [] H' ∧ RDs G (ZZ B.F [a] ρ' [] []) ρ' H' ds vs
/-- a promise, as the layer has it -/
def spV (G : Wd) (sp : VSp) : Sp := fun vs H Q E => ∃ (F : Addr → Prop) (ρ : List Addr) (vh : VH) (ds : List D), Rel G ⟨F, fun a => a ∈ ρ, H, ρ⟩ [] ρ [] vh [] H ∧ RDs G (ZZ F [] ρ [] []) ρ H ds vs ∧ sp.run ds vh fun o vh' => match o with
  | .ok x => ∀ ρ' v H', ResF G ⟨F, fun a => a ∈ ρ, H, ρ⟩ x v ρ' vh' H' → Q v H'
  | .exc c xs => ∀ ρ' C d H', G.cl c = some C → Rel G ⟨F, fun a => a ∈ ρ, H, ρ⟩ [] ρ' [] vh' [] H' → XF G (ZZ F [] ρ' [] []) ρ' H' d xs → E (.ref C) d H'

/-- the names of built-ins that may be called -/
def bltNames : List Str := ["len", "int", "bool", "str", "tuple", "list", "abs", "min", "max", "sum", "all", "any", "range", "zip", "enumerate", "reversed", "isinstance", "dict", "sorted", "set", "repr"]
structure XOk (X : Cx) (G : Wd) (B : Base) (K : XP) (Φ : Fns) (Γ : Cns) (fs : List Str) : Prop where
  hK : X.K = G.K
  calm : X.calm = true
  nd : X.N.Nodup
  hu : X.A.units + 64 < cLine
  tk : Takes X (WK G B K)
  fn : ∀ f, f ∈ fs → ∃ (a : Addr) (fd : FuncData) (ps : List Str) (k : Nat), X.mg f = some (.ref a) ∧ PySem.W.keepIn X.K (.ref a) = true ∧ Binds X.K fd ps [] ∧ FnOk X.prog X.w X.K X.mg X.base (L2.CX X.prog X.w) k a fd ps (spV G (Φ f)) ∧ Room k X.A ∧ (f == ("__debug__" : Str)) = false
  cn : ∀ x d, Γ x = some d → ∃ u v, X.mg x = some u ∧ RelV v u ∧ (∀ Z ρ H, RD G Z ρ H d v) ∧ (x == ("__debug__" : Str)) = false
  bl : ∀ x, x ∈ bltNames → X.mg x = none

section
variable {X : Cx} {G : Wd} {B : Base} {K : XP} {Φ : Fns} {Γ : Cns} {fs : List Str}
theorem XOk.blk (o : XOk X G B K Φ Γ fs) (B' : Base) (s : Shared) (H : Hp) (scope : Scope) (ce : Env) (fp : List Addr) : XOk (X.blk s H scope ce fp) G B' (fun _ _ _ _ => False) Φ Γ fs :=
  ⟨o.hK, o.calm, o.nd, o.hu, fun u s' x => takes0 u s' (by
    obtain ⟨a, B1, sI, pins, σ, H, cls, d, e, I, nb, up, sky, na, os, ag, w⟩ := x
    obtain ⟨_, _, _, _, _, _, _, _, _, _, _, k⟩ := w
    exact k.elim), o.fn, o.cn, o.bl⟩

variable {T ρ : List Addr} {env : VE} {vh : VH} {σ : L2.St} {H : Hp}
theorem Rel.res {d : D} {v : V} (R : Rel G B T ρ env vh σ H) (h : RD G (ZZ B.F T ρ env σ) ρ H d v) : Res G B T ρ env σ H (.v d) v ρ env vh H := ⟨Mv.refl, R, h⟩
theorem freezeMv {i : Nat} {d : D} : Mv (ZZ B.F T ρ env σ) ρ H (ZZ B.F T ρ (env.set i (.val d)) σ) ρ H := Mv.less fun b z => by
  rcases z with z | z | z | ⟨j, z⟩
  · exact .inl z
  · exact .inr (.inl z)
  · exact .inr (.inr (.inl z))
  · rcases Own.of_setE z with ⟨_, _, e, _⟩ | q
    · cases e
    · exact .inr (.inr (.inr ⟨j, q.2⟩))

/-! ### constants, names -/
theorem re_flat {e : Expr} {d : D} {v : V} (h : PE X e (tC v)) (hd : ∀ Z ρ H, RD G Z ρ H d v) : PE X e (tD G B fun env vh Q => fin false (.v d) env vh Q) :=
  h.imp fun σ H Q ⟨T, ρ, env, vh, R, w⟩ => w ρ v H (R.res (hd _ _ _))
theorem re_var {i : Nat} {e : Expr} (h : PE X e (tVar i)) : PE X e (tD G B fun env vh Q => wpE Φ Γ (.var i) K false env vh Q) :=
  h.imp fun σ H Q ⟨T, ρ, env, vh, R, w⟩ => by
    obtain ⟨s, hs, w⟩ := w
    have q := R.st i s hs
    cases s with
    | no => exact w.elim
    | val d =>
      obtain ⟨v, e, r⟩ := q
      exact ⟨v, e, w ρ v H (R.res r)⟩
    | own ds =>
      have R2 := R.freeze hs
      have li : i < env.length := (List.getElem?_eq_some_iff.mp hs).1
      obtain ⟨v, e, r⟩ := R2.st i (.val (.lst ds)) (by rw [List.getElem?_set_self li])
      exact ⟨v, e, w ρ v H ⟨freezeMv, R2, r⟩⟩
theorem re_glo (o : XOk X G B K Φ Γ fs) {x : Str} {pos : Pos} (hg : Gl X x) : PE X (.Name x pos) (tD G B fun env vh Q => wpE Φ Γ (.glo x) K false env vh Q) := by
  refine ⟨fun pins s σ H Q I ⟨T, ρ, env, vh, R, d, hd, w⟩ => ?_⟩
  obtain ⟨u, v, h1, h2, h3, h4⟩ := o.cn x d hd
  exact (pe_glob hg h1 h2 h4).run pins s σ H Q I (w ρ v H (R.res (h3 _ _ _)))

/-! ### operands -/
theorem ro_val {e : Expr} {w : VE → VH → QE → Prop} (h : PE X e (tD G B w)) (mono : ∀ env vh (Q Q' : QE), (∀ x e h, Q x e h → Q' x e h) → w env vh Q → w env vh Q') : PE X e (tO G B fun env vh Q => w env vh fun x e1 h1 => Q (.dat x.d) e1 h1) :=
  h.imp fun σ H Q ⟨T, ρ, env, vh, R, q⟩ => ⟨T, ρ, env, vh, R, mono _ _ _ _ (fun x e1 h1 k ρ' v H' r => k ρ' v H' r.d.1 r.d.2.1 r.d.2.2) q⟩
theorem ro_bor {i : Nat} {e : Expr} (h : PE X e (tVar i)) : PE X e (tO G B fun env vh Q => (∃ s, env[i]? = some s ∧ s.ok) ∧ Q (.slt i) env vh) :=
  h.imp fun σ H Q ⟨T, ρ, env, vh, R, ⟨s, hs, ns⟩, w⟩ => by
    have q := R.st i s hs
    cases s with
    | no => exact ns.elim
    | val d =>
      obtain ⟨v, e, r⟩ := q
      exact ⟨v, e, w ρ v H Mv.refl R e⟩
    | own ds =>
      obtain ⟨a, vs, e, _⟩ := q
      exact ⟨.ref a, e, w ρ (.ref a) H Mv.refl R e⟩

/-! ### operators -/
theorem tO2 {wa wb : VE → VH → (Op → VE → VH → Prop) → Prop} (ma : ∀ env vh (Q Q' : Op → VE → VH → Prop), (∀ x e h, Q x e h → Q' x e h) → wa env vh Q → wa env vh Q') (mb : ∀ env vh (Q Q' : Op → VE → VH → Prop), (∀ x e h, Q x e h → Q' x e h) → wb env vh Q → wb env vh Q')
    {R2 : V → V → Hp → Prop} {P : Op → Op → VE → VH → Prop} (R : Rel G B T ρ env vh σ H) (w : wa env vh fun x e1 h1 => wb e1 h1 fun y e2 h2 => P x y e2 h2)
    (f : ∀ x y ρ' env' vh' v u H', Mv (ZZ B.F T ρ env σ) ρ H (ZZ B.F T ρ' env' σ) ρ' H' → Rel G B T ρ' env' vh' σ H' → OpV G (ZZ B.F T ρ' env' σ) ρ' H' σ x v → OpV G (ZZ B.F T ρ' env' σ) ρ' H' σ y u → P x y env' vh' → R2 v u H') :
    tO G B wa σ H fun v H1 => tO G B wb σ H1 fun u H2 => R2 v u H2 :=
  ⟨T, ρ, env, vh, R, ma _ _ _ _ (fun x e1 h1 k ρ1 v H1 m1 R1 o1 => ⟨T, ρ1, e1, h1, R1, mb _ _ _ _ (fun y e2 h2 p ρ2 u H2 m2 Rr o2 => f x y ρ2 e2 h2 v u H2 (m1.trans m2) Rr (o1.move m2) o2 p) k⟩) w⟩
theorem re_bin (o : XOk X G B K Φ Γ fs) {op : Operator} {a b : Expr} {pos : Pos} {wa wb : VE → VH → (Op → VE → VH → Prop) → Prop} (ma : ∀ env vh (Q Q' : Op → VE → VH → Prop), (∀ x e h, Q x e h → Q' x e h) → wa env vh Q → wa env vh Q') (mb : ∀ env vh (Q Q' : Op → VE → VH → Prop), (∀ x e h, Q x e h → Q' x e h) → wb env vh Q → wb env vh Q')
    (ha : PE X a (tO G B wa)) (hb : PE X b (tO G B wb)) :
    PE X (.BinOp a op b pos) (tD G B fun env vh Q => wa env vh fun x e1 h1 => wb e1 h1 fun y e2 h2 => ∃ c d, x.ld e2 h2 = some c ∧ y.ld e2 h2 = some d ∧ wpBin op c d fun z => fin false z e2 h2 Q) :=
  (pe_op (op_bin o.hK) ha hb).imp fun σ H Q ⟨T, ρ, env, vh, R, w⟩ => tO2 ma mb R w fun x y ρ' env' vh' v u H' m R' ox oy ⟨c, d, e1, e2, q⟩ =>
    ⟨_, ρ', c, d, ox.rw R' e1, oy.rw R' e2, wpBin_mono (fun z k v H1 out => k ρ' v H1 (Res.of_out m R' out)) q⟩
theorem re_neg {a : Expr} {pos : Pos} {wa : VE → VH → QE → Prop} (ma : ∀ env vh (Q Q' : QE), (∀ x e h, Q x e h → Q' x e h) → wa env vh Q → wa env vh Q') (ha : PE X a (tD G B wa)) :
    PE X (.UnaryOp .USub a pos) (tD G B fun env vh Q => wa env vh fun x e1 h1 => ∃ i, x = .v (.int i) ∧ fin false (.v (.int (-i))) e1 h1 Q) :=
  (pe_un un_neg ha).imp fun σ H Q ⟨T, ρ, env, vh, R, w⟩ => ⟨T, ρ, env, vh, R, ma _ _ _ _ (fun x e1 h1 ⟨i, ex, k⟩ ρ' v H' r => by
    subst ex
    obtain ⟨m, R', hv⟩ := r
    exact ⟨i, hv, k ρ' _ H' ⟨m, R', rfl⟩⟩) w⟩
/-- a value that is True or False -/
theorem pt_bool {e : Expr} {w : VE → VH → (Bool → VE → VH → Prop) → Prop} (h : PT X e (fun σ H Q => ∃ T ρ env vh, Rel G B T ρ env vh σ H ∧ w env vh fun k env' vh' => ∀ ρ' H', Mv (ZZ B.F T ρ env σ) ρ H (ZZ B.F T ρ' env' σ) ρ' H' → Rel G B T ρ' env' vh' σ H' → Q k H'))
    (mono : ∀ env vh (Q Q' : Bool → VE → VH → Prop), (∀ x e h, Q x e h → Q' x e h) → w env vh Q → w env vh Q') : PT X e (tB G B fun env vh Q => w env vh fun k e h => Q (.v (.bl k)) e h) :=
  h.imp fun σ H Q ⟨T, ρ, env, vh, R, q⟩ => ⟨T, ρ, env, vh, R, mono _ _ _ _ (fun k e h ⟨k', ek, z⟩ ρ' H' m R' => by cases ek; exact z ρ' H' m R') q⟩
theorem re_cmp (o : XOk X G B K Φ Γ fs) {op : CmpOp} {a b : Expr} {pos : Pos} {wa wb : VE → VH → (Op → VE → VH → Prop) → Prop} (ma : ∀ env vh (Q Q' : Op → VE → VH → Prop), (∀ x e h, Q x e h → Q' x e h) → wa env vh Q → wa env vh Q') (mb : ∀ env vh (Q Q' : Op → VE → VH → Prop), (∀ x e h, Q x e h → Q' x e h) → wb env vh Q → wb env vh Q')
    (ha : PE X a (tO G B wa)) (hb : PE X b (tO G B wb)) (hm : behindInMarks op b = false) :
    PE X (.Compare a [op] [b] pos) (tD G B fun env vh Q => wa env vh fun x e1 h1 => wb e1 h1 fun y e2 h2 => ∃ c d, x.ld e2 h2 = some c ∧ y.ld e2 h2 = some d ∧ wpCmp op c d fun k => Q (.v (.bl k)) e2 h2) :=
  (pe_cmpR (op_cmp o.hK o.hu) ha hb hm).imp fun σ H Q ⟨T, ρ, env, vh, R, w⟩ => tO2 ma mb R w fun x y ρ' env' vh' v u H' m R' ox oy ⟨c, d, e1, e2, q⟩ =>
    ⟨_, ρ', c, d, ox.rw R' e1, oy.rw R' e2, wpCmp_mono (fun k z => z ρ' _ H' ⟨m, R', rfl⟩) q⟩
theorem rt_cmp (o : XOk X G B K Φ Γ fs) {op : CmpOp} {a b : Expr} {pos : Pos} {wa wb : VE → VH → (Op → VE → VH → Prop) → Prop} (ma : ∀ env vh (Q Q' : Op → VE → VH → Prop), (∀ x e h, Q x e h → Q' x e h) → wa env vh Q → wa env vh Q') (mb : ∀ env vh (Q Q' : Op → VE → VH → Prop), (∀ x e h, Q x e h → Q' x e h) → wb env vh Q → wb env vh Q')
    (ha : PE X a (tO G B wa)) (hb : PE X b (tO G B wb)) (hm : behindInMarks op b = false) :
    PT X (.Compare a [op] [b] pos) (tB G B fun env vh Q => wa env vh fun x e1 h1 => wb e1 h1 fun y e2 h2 => ∃ c d, x.ld e2 h2 = some c ∧ y.ld e2 h2 = some d ∧ wpCmp op c d fun k => Q (.v (.bl k)) e2 h2) :=
  (pt_cmpR (op_cmp o.hK o.hu) ha hb hm).imp fun σ H Q ⟨T, ρ, env, vh, R, w⟩ => tO2 ma mb R w fun x y ρ' env' vh' v u H' m R' ox oy ⟨c, d, e1, e2, q⟩ =>
    ⟨_, ρ', c, d, ox.rw R' e1, oy.rw R' e2, wpCmp_mono (fun k ⟨k', ek, z⟩ => ⟨k, rfl, by cases ek; exact z ρ' H' m R'⟩) q⟩

theorem ma_chain (o : XOk X G B K Φ Γ fs) {op op' : CmpOp} {a b c : Expr} {wa wb wc : VE → VH → (Op → VE → VH → Prop) → Prop} (ma : ∀ env vh (Q Q' : Op → VE → VH → Prop), (∀ x e h, Q x e h → Q' x e h) → wa env vh Q → wa env vh Q') (mb : ∀ env vh (Q Q' : Op → VE → VH → Prop), (∀ x e h, Q x e h → Q' x e h) → wb env vh Q → wb env vh Q')
    (mc : ∀ env vh (Q Q' : Op → VE → VH → Prop), (∀ x e h, Q x e h → Q' x e h) → wc env vh Q → wc env vh Q') {σ : L2.St} {H : Hp} {Q : VK} {T ρ : List Addr} {env : VE} {vh : VH} (R : Rel G B T ρ env vh σ H)
    (w : wa env vh fun x e1 h1 => wb e1 h1 fun y e2 h2 => ∃ d e, x.ld e2 h2 = some d ∧ y.ld e2 h2 = some e ∧ wpCmp op d e fun k =>
      ifP k (wc e2 h2 fun z e3 h3 => ∃ e f, y.ld e3 h3 = some e ∧ z.ld e3 h3 = some f ∧ wpCmp op' e f fun k => ∀ ρ' H', Mv (ZZ B.F T ρ env σ) ρ H (ZZ B.F T ρ' e3 σ) ρ' H' → Rel G B T ρ' e3 h3 σ H' → Q (.bl k) H')
        (∀ ρ' H', Mv (ZZ B.F T ρ env σ) ρ H (ZZ B.F T ρ' e2 σ) ρ' H' → Rel G B T ρ' e2 h2 σ H' → Q (.bl false) H')) :
    tChain (fun x y H Q => ∃ Z ρ c d, RW G Z ρ H c x ∧ RW G Z ρ H d y ∧ wpCmp op c d fun k => Q (.bl k) H) (fun x y H Q => ∃ Z ρ c d, RW G Z ρ H c x ∧ RW G Z ρ H d y ∧ wpCmp op' c d fun k => Q (.bl k) H) (tO G B wa) (tO G B wb) (tO G B wc) σ H Q :=
  tO2 ma mb R w fun x y ρ' env' vh' v u H' m R' ox oy ⟨d, e, e1, e2, q⟩ => ⟨_, ρ', d, e, ox.rw R' e1, oy.rw R' e2, wpCmp_mono (fun k z => ⟨k, rfl, by
    cases k with
    | false => exact L2.iteF (z ρ' H' m R')
    | true =>
      refine L2.iteT ⟨T, ρ', env', vh', R', mc _ _ _ _ (fun zz e3 h3 ⟨e, f, p1, p2, q3⟩ ρ3 w3 H3 m3 R3 oz => ?_) z⟩
      exact ⟨_, ρ3, e, f, (oy.move m3).rw R3 p1, oz.rw R3 p2, wpCmp_mono (fun k z => z ρ3 H3 (m.trans m3) R3) q3⟩⟩) q⟩
theorem chain_mono {wa wb wc : VE → VH → (Op → VE → VH → Prop) → Prop} (ma : ∀ env vh (Q Q' : Op → VE → VH → Prop), (∀ x e h, Q x e h → Q' x e h) → wa env vh Q → wa env vh Q') (mb : ∀ env vh (Q Q' : Op → VE → VH → Prop), (∀ x e h, Q x e h → Q' x e h) → wb env vh Q → wb env vh Q')
    (mc : ∀ env vh (Q Q' : Op → VE → VH → Prop), (∀ x e h, Q x e h → Q' x e h) → wc env vh Q → wc env vh Q') {op op' : CmpOp} {env : VE} {vh : VH} {P P' : Bool → VE → VH → Prop} (f : ∀ k e h, P k e h → P' k e h)
    (w : wa env vh fun x e1 h1 => wb e1 h1 fun y e2 h2 => ∃ d e, x.ld e2 h2 = some d ∧ y.ld e2 h2 = some e ∧ wpCmp op d e fun k =>
      ifP k (wc e2 h2 fun z e3 h3 => ∃ e f, y.ld e3 h3 = some e ∧ z.ld e3 h3 = some f ∧ wpCmp op' e f fun k => P k e3 h3) (P false e2 h2)) :
    wa env vh fun x e1 h1 => wb e1 h1 fun y e2 h2 => ∃ d e, x.ld e2 h2 = some d ∧ y.ld e2 h2 = some e ∧ wpCmp op d e fun k =>
      ifP k (wc e2 h2 fun z e3 h3 => ∃ e f, y.ld e3 h3 = some e ∧ z.ld e3 h3 = some f ∧ wpCmp op' e f fun k => P' k e3 h3) (P' false e2 h2) :=
  ma _ _ _ _ (fun x e1 h1 => mb _ _ _ _ fun y e2 h2 ⟨d, e, p, q, r⟩ => ⟨d, e, p, q, wpCmp_mono (fun k => ifP_mono (mc _ _ _ _ fun z e3 h3 ⟨e, g, p, q, r⟩ => ⟨e, g, p, q, wpCmp_mono (fun _ => f _ _ _) r⟩) (f _ _ _)) r⟩) w
theorem re_chain (o : XOk X G B K Φ Γ fs) {op op' : CmpOp} {a b c : Expr} {pos : Pos} {wa wb wc : VE → VH → (Op → VE → VH → Prop) → Prop} (ma : ∀ env vh (Q Q' : Op → VE → VH → Prop), (∀ x e h, Q x e h → Q' x e h) → wa env vh Q → wa env vh Q') (mb : ∀ env vh (Q Q' : Op → VE → VH → Prop), (∀ x e h, Q x e h → Q' x e h) → wb env vh Q → wb env vh Q')
    (mc : ∀ env vh (Q Q' : Op → VE → VH → Prop), (∀ x e h, Q x e h → Q' x e h) → wc env vh Q → wc env vh Q') (ha : PE X a (tO G B wa)) (hb : PE X b (tO G B wb)) (hc : PE X c (tO G B wc)) (hm : lastMarks [op, op'] [b, c] = false) :
    PE X (.Compare a [op, op'] [b, c] pos) (tD G B fun env vh Q => wa env vh fun x e1 h1 => wb e1 h1 fun y e2 h2 => ∃ d e, x.ld e2 h2 = some d ∧ y.ld e2 h2 = some e ∧ wpCmp op d e fun k =>
      ifP k (wc e2 h2 fun z e3 h3 => ∃ e f, y.ld e3 h3 = some e ∧ z.ld e3 h3 = some f ∧ wpCmp op' e f fun k => Q (.v (.bl k)) e3 h3) (Q (.v (.bl false)) e2 h2)) :=
  (pe_chain (op_cmp o.hK o.hu) (op_cmp o.hK o.hu) ha hb hc hm).imp fun σ H Q ⟨T, ρ, env, vh, R, w⟩ => ma_chain o (a := a) (b := b) (c := c) ma mb mc R (chain_mono ma mb mc (P := fun k e h => ∀ ρ' v H', Res G B T ρ env σ H (.v (.bl k)) v ρ' e h H' → Q v H') (P' := fun k e h => ∀ ρ' H', Mv (ZZ B.F T ρ env σ) ρ H (ZZ B.F T ρ' e σ) ρ' H' → Rel G B T ρ' e h σ H' → Q (.bl k) H') (fun k e h z ρ' H' m R' => z ρ' _ H' ⟨m, R', rfl⟩) w)
theorem rt_chain (o : XOk X G B K Φ Γ fs) {op op' : CmpOp} {a b c : Expr} {pos : Pos} {wa wb wc : VE → VH → (Op → VE → VH → Prop) → Prop} (ma : ∀ env vh (Q Q' : Op → VE → VH → Prop), (∀ x e h, Q x e h → Q' x e h) → wa env vh Q → wa env vh Q') (mb : ∀ env vh (Q Q' : Op → VE → VH → Prop), (∀ x e h, Q x e h → Q' x e h) → wb env vh Q → wb env vh Q')
    (mc : ∀ env vh (Q Q' : Op → VE → VH → Prop), (∀ x e h, Q x e h → Q' x e h) → wc env vh Q → wc env vh Q') (ha : PE X a (tO G B wa)) (hb : PE X b (tO G B wb)) (hc : PE X c (tO G B wc)) (hm : lastMarks [op, op'] [b, c] = false) :
    PT X (.Compare a [op, op'] [b, c] pos) (tB G B fun env vh Q => wa env vh fun x e1 h1 => wb e1 h1 fun y e2 h2 => ∃ d e, x.ld e2 h2 = some d ∧ y.ld e2 h2 = some e ∧ wpCmp op d e fun k =>
      ifP k (wc e2 h2 fun z e3 h3 => ∃ e f, y.ld e3 h3 = some e ∧ z.ld e3 h3 = some f ∧ wpCmp op' e f fun k => Q (.v (.bl k)) e3 h3) (Q (.v (.bl false)) e2 h2)) :=
  (pt_chain (op_cmp o.hK o.hu) (op_cmp o.hK o.hu) ha hb hc hm).imp fun σ H Q ⟨T, ρ, env, vh, R, w⟩ => ma_chain o (a := a) (b := b) (c := c) (Q := fun x H' => ∃ k, x = .bl k ∧ Q k H') ma mb mc R (chain_mono ma mb mc (P := fun k e h => ∃ k', DV.v (.bl k) = .v (.bl k') ∧ ∀ ρ' H', Mv (ZZ B.F T ρ env σ) ρ H (ZZ B.F T ρ' e σ) ρ' H' → Rel G B T ρ' e h σ H' → Q k' H') (P' := fun k e h => ∀ ρ' H', Mv (ZZ B.F T ρ env σ) ρ H (ZZ B.F T ρ' e σ) ρ' H' → Rel G B T ρ' e h σ H' → ∃ k', V.bl k = .bl k' ∧ Q k' H') (fun k e h ⟨k', ek, z⟩ ρ' H' m R' => ⟨k, rfl, by cases ek; exact z ρ' H' m R'⟩) w)

/-! ### truth -/
theorem RW.tru {K' : PySem.W.Frag} (hK : K' = G.K) {Z : Addr → Prop} {ρ : List Addr} {H : Hp} : ∀ {d : D} {v : V} {k : Bool}, RW G Z ρ H d v → truD d = some k → TruV K' v H k
  | .non, v, k, h, e => by cases (show v = _ from h); cases e; rfl
  | .bl b, v, k, h, e => by cases (show v = _ from h); cases e; rfl
  | .int i, v, k, h, e => by cases (show v = _ from h); cases e; rfl
  | .str x, v, k, h, e => by
    cases (show v = _ from h)
    have e : (if x.length ≤ 16777216 then some ((x.length : Int) != 0) else none) = some k := e
    by_cases q : x.length ≤ 16777216
    · rw [if_pos q] at e
      cases e
      exact ⟨by rw [sizeLine_eq]; exact q, rfl⟩
    · rw [if_neg q] at e
      cases e
  | .tup xs, v, k, h, e => by
    obtain ⟨a, vs, rfl, h1, h2⟩ := h
    cases e
    exact .inr (.inl ⟨vs, by rw [hK]; exact h1, by
      have := h2.length
      cases xs <;> cases vs <;> first | rfl | (simp at this; done)⟩)
  | .lst xs, v, k, h, e => by
    obtain ⟨a, vs, rfl, h1, h2⟩ := h
    cases e
    exact .inl ⟨vs, .of h1, by
      have := h2.length
      cases xs <;> cases vs <;> first | rfl | (simp at this; done)⟩
  | .dct ks xs, v, k, h, e => by
    obtain ⟨a, ws, vs, rfl, h1, e1, e2, h2⟩ := h
    cases e
    refine .inr (.inr ⟨ws, h1, ?_⟩)
    have hl := h2.length
    subst e2
    rw [List.length_map] at hl
    cases ws <;> cases xs <;> first | rfl | (simp at hl; done)
  | .ty _, v, k, h, e => by cases e
  | .obj _ _ _, v, k, h, e => by cases e
  | .ref _, v, k, h, e => by cases e
  | .scr _, v, k, h, e => by cases e
/-- any value as a test -/
theorem rt_truth (o : XOk X G B K Φ Γ fs) {e : Expr} {w : VE → VH → QE → Prop} (h : PE X e (tD G B w)) (mono : ∀ env vh (Q Q' : QE), (∀ x e h, Q x e h → Q' x e h) → w env vh Q → w env vh Q') (he : ∀ whole, isTrue e X.env whole = (do let v ← whole; standAt e.pos; holding [v] (truthy v))) :
    PT X e (tB G B fun env vh Q => w env vh fun x e h => fin true x e h Q) :=
  (pt_truth h he).imp fun σ H Q ⟨T, ρ, env, vh, R, q⟩ => ⟨T, ρ, env, vh, R, mono _ _ _ _ (fun x e1 h1 ⟨k, e, k', ek, z⟩ ρ' v H' r => by
    cases ek
    obtain ⟨m, R', hv⟩ := r.d
    cases q : deref h1 x.d with
    | none => rw [q] at e; cases e
    | some d =>
      rw [q] at e
      exact ⟨k, RW.tru o.hK (deref_rw R' hv.w q) e, z ρ' H' m R'⟩) q⟩
theorem rt_bor (o : XOk X G B K Φ Γ fs) {e : Expr} {i : Nat} (h : PE X e (tVar i)) (he : ∀ whole, isTrue e X.env whole = (do let v ← whole; standAt e.pos; holding [v] (truthy v))) :
    PT X e (tB G B fun env vh Q => wpE Φ Γ (.bor i) K true env vh Q) :=
  (pt_truth h he).imp fun σ H Q ⟨T, ρ, env, vh, R, d, k, e1, e2, k', ek, z⟩ => by
    cases ek
    have hs : ∃ s, env[i]? = some s := by
      cases q : env[i]? with
      | none => simp [Op.ld, q] at e1
      | some s => exact ⟨s, rfl⟩
    obtain ⟨s, hs⟩ := hs
    have q := R.st i s hs
    have hv : ∃ v, σ[i]? = some (some v) := by
      cases s with
      | no => simp [Op.ld, hs, Slot.ld] at e1
      | val d => obtain ⟨v, e, _⟩ := q; exact ⟨v, e⟩
      | own ds => obtain ⟨a, vs, e, _⟩ := q; exact ⟨_, e⟩
    obtain ⟨v, hv⟩ := hv
    exact ⟨v, hv, k, RW.tru o.hK (OpV.rw (o := .slt i) R hv e1) e2, z ρ H Mv.refl R⟩

/-! ### and, or, not, if else -/
theorem tB_of {e : Expr} {w w' : VE → VH → QE → Prop} (h : PT X e (tB G B w)) (f : ∀ env vh Q, w' env vh Q → w env vh Q) : PT X e (tB G B w') := h.imp fun σ H Q ⟨T, ρ, env, vh, R, q⟩ => ⟨T, ρ, env, vh, R, f _ _ _ q⟩
theorem tD_of {e : Expr} {w w' : VE → VH → QE → Prop} (h : PE X e (tD G B w)) (f : ∀ env vh Q, w' env vh Q → w env vh Q) : PE X e (tD G B w') := h.imp fun σ H Q ⟨T, ρ, env, vh, R, q⟩ => ⟨T, ρ, env, vh, R, f _ _ _ q⟩
theorem Res.moved {T ρ1 : List Addr} {env1 : VE} {σ : L2.St} {H0 H1 H' : Hp} {ρ0 : List Addr} {env0 : VE} {x : DV} {v : V} {ρ' : List Addr} {env' : VE} {vh' : VH} (m : Mv (ZZ B.F T ρ0 env0 σ) ρ0 H0 (ZZ B.F T ρ1 env1 σ) ρ1 H1) (r : Res G B T ρ1 env1 σ H1 x v ρ' env' vh' H') : Res G B T ρ0 env0 σ H0 x v ρ' env' vh' H' := by
  cases x with
  | v d => exact ⟨m.trans r.1, r.2.1, r.2.2⟩
  | fr ds =>
    obtain ⟨a, vs, e, h1, m2, R, h⟩ := r
    exact ⟨a, vs, e, h1, m.trans m2, R, h⟩
theorem rt_and {a b : Expr} {rest : List Expr} {pos : Pos} {wa wb : VE → VH → QE → Prop} (ma : ∀ env vh (Q Q' : QE), (∀ x e h, Q x e h → Q' x e h) → wa env vh Q → wa env vh Q') (mb : ∀ env vh (Q Q' : QE), (∀ x e h, Q x e h → Q' x e h) → wb env vh Q → wb env vh Q')
    (ha : PT X a (tB G B wa)) (hb : PW X (.BoolOp .And (b :: rest) pos) (tB G B wb)) : PW X (.BoolOp .And (a :: b :: rest) pos) (tB G B fun env vh Q => wa env vh fun x e1 h1 => ∃ k, x = .v (.bl k) ∧ ifP k (wb e1 h1 Q) (Q (.v (.bl false)) e1 h1)) := by
  refine ⟨fun wh pins s σ H Q I ⟨T, ρ, env, vh, R, w⟩ => (pw_and ha hb).run wh pins s σ H Q I ⟨T, ρ, env, vh, R, ma _ _ _ _ (fun x e1 h1 ⟨k, ex, z⟩ => ⟨k, ex, fun ρ' H' m R' => ?_⟩) w⟩⟩
  cases k with
  | false =>
    obtain ⟨k', ek, z⟩ := z
    cases ek
    exact L2.iteF (z ρ' H' m R')
  | true => exact L2.iteT ⟨T, ρ', e1, h1, R', mb _ _ _ _ (fun y e2 h2 ⟨k, ey, z⟩ => ⟨k, ey, fun ρ2 H2 m2 R2 => z ρ2 H2 (m.trans m2) R2⟩) z⟩
theorem rt_or {a b : Expr} {rest : List Expr} {pos : Pos} {wa wb : VE → VH → QE → Prop} (ma : ∀ env vh (Q Q' : QE), (∀ x e h, Q x e h → Q' x e h) → wa env vh Q → wa env vh Q') (mb : ∀ env vh (Q Q' : QE), (∀ x e h, Q x e h → Q' x e h) → wb env vh Q → wb env vh Q')
    (ha : PT X a (tB G B wa)) (hb : PW X (.BoolOp .Or (b :: rest) pos) (tB G B wb)) : PW X (.BoolOp .Or (a :: b :: rest) pos) (tB G B fun env vh Q => wa env vh fun x e1 h1 => ∃ k, x = .v (.bl k) ∧ ifP k (Q (.v (.bl true)) e1 h1) (wb e1 h1 Q)) := by
  refine ⟨fun wh pins s σ H Q I ⟨T, ρ, env, vh, R, w⟩ => (pw_or ha hb).run wh pins s σ H Q I ⟨T, ρ, env, vh, R, ma _ _ _ _ (fun x e1 h1 ⟨k, ex, z⟩ => ⟨k, ex, fun ρ' H' m R' => ?_⟩) w⟩⟩
  cases k with
  | true =>
    obtain ⟨k', ek, z⟩ := z
    cases ek
    exact L2.iteT (z ρ' H' m R')
  | false => exact L2.iteF ⟨T, ρ', e1, h1, R', mb _ _ _ _ (fun y e2 h2 ⟨k, ey, z⟩ => ⟨k, ey, fun ρ2 H2 m2 R2 => z ρ2 H2 (m.trans m2) R2⟩) z⟩
theorem re_and (o : XOk X G B K Φ Γ fs) {a b : Expr} {rest : List Expr} {pos : Pos} {wa wb : VE → VH → QE → Prop} (ma : ∀ env vh (Q Q' : QE), (∀ x e h, Q x e h → Q' x e h) → wa env vh Q → wa env vh Q') (mb : ∀ env vh (Q Q' : QE), (∀ x e h, Q x e h → Q' x e h) → wb env vh Q → wb env vh Q')
    (ha : PE X a (tD G B wa)) (hb : PE X (.BoolOp .And (b :: rest) pos) (tD G B wb)) : PE X (.BoolOp .And (a :: b :: rest) pos) (tD G B fun env vh Q => wa env vh fun x e1 h1 => ∃ d k, x = .v d ∧ (deref h1 d).bind truD = some k ∧ ifP k (wb e1 h1 Q) (Q x e1 h1)) :=
  (pe_andT ha hb).imp fun σ H Q ⟨T, ρ, env, vh, R, w⟩ => ⟨T, ρ, env, vh, R, ma _ _ _ _ (fun x e1 h1 ⟨d, k, ex, e, z⟩ ρ' v H' r => by
    subst ex
    obtain ⟨m, R', hv⟩ := id r
    cases q : deref h1 d with
    | none => rw [q] at e; cases e
    | some d' =>
      rw [q] at e
      refine ⟨k, RW.tru o.hK (deref_rw R' hv.w q) e, ?_⟩
      cases k with
      | false => exact L2.iteF (z ρ' v H' r)
      | true => exact L2.iteT ⟨T, ρ', e1, h1, R', mb _ _ _ _ (fun y e2 h2 z ρ2 v2 H2 r2 => z ρ2 v2 H2 (Res.moved m r2)) z⟩) w⟩
theorem re_or (o : XOk X G B K Φ Γ fs) {a b : Expr} {rest : List Expr} {pos : Pos} {wa wb : VE → VH → QE → Prop} (ma : ∀ env vh (Q Q' : QE), (∀ x e h, Q x e h → Q' x e h) → wa env vh Q → wa env vh Q') (mb : ∀ env vh (Q Q' : QE), (∀ x e h, Q x e h → Q' x e h) → wb env vh Q → wb env vh Q')
    (ha : PE X a (tD G B wa)) (hb : PE X (.BoolOp .Or (b :: rest) pos) (tD G B wb)) : PE X (.BoolOp .Or (a :: b :: rest) pos) (tD G B fun env vh Q => wa env vh fun x e1 h1 => ∃ d k, x = .v d ∧ (deref h1 d).bind truD = some k ∧ ifP k (Q x e1 h1) (wb e1 h1 Q)) :=
  (pe_orT ha hb).imp fun σ H Q ⟨T, ρ, env, vh, R, w⟩ => ⟨T, ρ, env, vh, R, ma _ _ _ _ (fun x e1 h1 ⟨d, k, ex, e, z⟩ ρ' v H' r => by
    subst ex
    obtain ⟨m, R', hv⟩ := id r
    cases q : deref h1 d with
    | none => rw [q] at e; cases e
    | some d' =>
      rw [q] at e
      refine ⟨k, RW.tru o.hK (deref_rw R' hv.w q) e, ?_⟩
      cases k with
      | true => exact L2.iteT (z ρ' v H' r)
      | false => exact L2.iteF ⟨T, ρ', e1, h1, R', mb _ _ _ _ (fun y e2 h2 z ρ2 v2 H2 r2 => z ρ2 v2 H2 (Res.moved m r2)) z⟩) w⟩
theorem rt_not {a : Expr} {pos : Pos} {wa : VE → VH → QE → Prop} (ma : ∀ env vh (Q Q' : QE), (∀ x e h, Q x e h → Q' x e h) → wa env vh Q → wa env vh Q') (ha : PT X a (tB G B wa)) :
    PT X (.UnaryOp .Not a pos) (tB G B fun env vh Q => wa env vh fun x e1 h1 => ∃ k, x = .v (.bl k) ∧ Q (.v (.bl (!k))) e1 h1) :=
  (pt_not ha).imp fun σ H Q ⟨T, ρ, env, vh, R, w⟩ => ⟨T, ρ, env, vh, R, ma _ _ _ _ (fun x e1 h1 ⟨k, ex, k', ek, z⟩ => ⟨k, ex, fun ρ' H' m R' => by cases ek; exact z ρ' H' m R'⟩) w⟩
theorem re_not (o : XOk X G B K Φ Γ fs) {a : Expr} {pos : Pos} {wa : VE → VH → (Op → VE → VH → Prop) → Prop} (ma : ∀ env vh (Q Q' : Op → VE → VH → Prop), (∀ x e h, Q x e h → Q' x e h) → wa env vh Q → wa env vh Q') (ha : PE X a (tO G B wa)) :
    PE X (.UnaryOp .Not a pos) (tD G B fun env vh Q => wa env vh fun x e1 h1 => ∃ d k, x.ld e1 h1 = some d ∧ truD d = some k ∧ Q (.v (.bl (!k))) e1 h1) :=
  (pe_notT ha).imp fun σ H Q ⟨T, ρ, env, vh, R, w⟩ => ⟨T, ρ, env, vh, R, ma _ _ _ _ (fun x e1 h1 ⟨d, k, e1, e2, z⟩ ρ' v H' m R' ov => ⟨k, RW.tru o.hK (ov.rw R' e1) e2, z ρ' _ H' ⟨m, R', rfl⟩⟩) w⟩
theorem re_ite {c a b : Expr} {pos : Pos} {wc wa wb : VE → VH → QE → Prop} (mc : ∀ env vh (Q Q' : QE), (∀ x e h, Q x e h → Q' x e h) → wc env vh Q → wc env vh Q') (ma : ∀ env vh (Q Q' : QE), (∀ x e h, Q x e h → Q' x e h) → wa env vh Q → wa env vh Q') (mb : ∀ env vh (Q Q' : QE), (∀ x e h, Q x e h → Q' x e h) → wb env vh Q → wb env vh Q')
    (hc : PT X c (tB G B wc)) (ha : PE X a (tD G B wa)) (hb : PE X b (tD G B wb)) : PE X (.IfExp c a b pos) (tD G B fun env vh Q => wc env vh fun x e1 h1 => ∃ k, x = .v (.bl k) ∧ ifP k (wa e1 h1 Q) (wb e1 h1 Q)) :=
  (pe_ifExp hc ha hb).imp fun σ H Q ⟨T, ρ, env, vh, R, w⟩ => ⟨T, ρ, env, vh, R, mc _ _ _ _ (fun x e1 h1 ⟨k, ex, z⟩ => ⟨k, ex, fun ρ' H' m R' => by
    cases k with
    | true => exact L2.iteT ⟨T, ρ', e1, h1, R', ma _ _ _ _ (fun y e2 h2 z ρ2 v2 H2 r2 => z ρ2 v2 H2 (Res.moved m r2)) z⟩
    | false => exact L2.iteF ⟨T, ρ', e1, h1, R', mb _ _ _ _ (fun y e2 h2 z ρ2 v2 H2 r2 => z ρ2 v2 H2 (Res.moved m r2)) z⟩⟩) w⟩
theorem pt_ifExp {c a b : Expr} {pos : Pos} {tc ta tb : TT} (hc : PT X c tc) (ha : PT X a ta) (hb : PT X b tb) : PT X (.IfExp c a b pos) (fun σ H Q => tc σ H fun k H1 => if k = true then ta σ H1 Q else tb σ H1 Q) := by
  refine ⟨fun pins s σ H Q I h => ?_⟩
  refine isTrue_IfExp (thn (hc.run pins s σ H _ I h) fun d s1 ⟨H1, I1, q1⟩ => ?_)
  cases d with
  | true => exact ha.run pins s1 σ H1 Q I1 q1
  | false => exact hb.run pins s1 σ H1 Q I1 q1
theorem rt_ite {c a b : Expr} {pos : Pos} {wc wa wb : VE → VH → QE → Prop} (mc : ∀ env vh (Q Q' : QE), (∀ x e h, Q x e h → Q' x e h) → wc env vh Q → wc env vh Q') (ma : ∀ env vh (Q Q' : QE), (∀ x e h, Q x e h → Q' x e h) → wa env vh Q → wa env vh Q') (mb : ∀ env vh (Q Q' : QE), (∀ x e h, Q x e h → Q' x e h) → wb env vh Q → wb env vh Q')
    (hc : PT X c (tB G B wc)) (ha : PT X a (tB G B wa)) (hb : PT X b (tB G B wb)) : PT X (.IfExp c a b pos) (tB G B fun env vh Q => wc env vh fun x e1 h1 => ∃ k, x = .v (.bl k) ∧ ifP k (wa e1 h1 Q) (wb e1 h1 Q)) :=
  (pt_ifExp hc ha hb).imp fun σ H Q ⟨T, ρ, env, vh, R, w⟩ => ⟨T, ρ, env, vh, R, mc _ _ _ _ (fun x e1 h1 ⟨k, ex, z⟩ => ⟨k, ex, fun ρ' H' m R' => by
    cases k with
    | true => exact L2.iteT ⟨T, ρ', e1, h1, R', ma _ _ _ _ (fun y e2 h2 ⟨k, ek, z⟩ => ⟨k, ek, fun ρ2 H2 m2 R2 => z ρ2 H2 (m.trans m2) R2⟩) z⟩
    | false => exact L2.iteF ⟨T, ρ', e1, h1, R', mb _ _ _ _ (fun y e2 h2 ⟨k, ek, z⟩ => ⟨k, ek, fun ρ2 H2 m2 R2 => z ρ2 H2 (m.trans m2) R2⟩) z⟩⟩) w⟩

/-! ### items, slices -/
theorem re_idx (o : XOk X G B K Φ Γ fs) {a b : Expr} {pos : Pos} {wa wb : VE → VH → (Op → VE → VH → Prop) → Prop} (ma : ∀ env vh (Q Q' : Op → VE → VH → Prop), (∀ x e h, Q x e h → Q' x e h) → wa env vh Q → wa env vh Q') (mb : ∀ env vh (Q Q' : Op → VE → VH → Prop), (∀ x e h, Q x e h → Q' x e h) → wb env vh Q → wb env vh Q')
    (ha : PE X a (tO G B wa)) (hb : PE X b (tO G B wb)) (hs : PlainIx b) :
    PE X (.Subscript a b pos) (tD G B fun env vh Q => wa env vh fun x e1 h1 => wb e1 h1 fun y e2 h2 => ∃ c d, x.ld e2 h2 = some c ∧ y.ld e2 h2 = some d ∧ wpIdx c d fun z => fin false (.v z) e2 h2 Q) :=
  (pe_ix (ix_d o.hK) ha hb hs).imp fun σ H Q ⟨T, ρ, env, vh, R, w⟩ => tO2 ma mb R w fun x y ρ' env' vh' v u H' m R' ox oy ⟨c, d, e1, e2, q⟩ =>
    ⟨_, ρ', c, d, ox.rw R' e1, oy.rw R' e2, wpIdx_mono (fun z k v hv => k ρ' v H' ⟨m, R', hv⟩) q⟩
/-- a slice's part -/
theorem ro_part {e : Expr} {w : VE → VH → QE → Prop} (h : PE X e (tD G B w)) : PO X (some e) (tPart (tD G B w)) := po_some h
theorem re_sli (o : XOk X G B K Φ Γ fs) {a : Expr} {lo hi : Option Expr} {pos p2 : Pos} {wa : VE → VH → (Op → VE → VH → Prop) → Prop} {wl wh : VE → VH → QE → Prop} (ma : ∀ env vh (Q Q' : Op → VE → VH → Prop), (∀ x e h, Q x e h → Q' x e h) → wa env vh Q → wa env vh Q')
    (ml : ∀ env vh (Q Q' : QE), (∀ x e h, Q x e h → Q' x e h) → wl env vh Q → wl env vh Q') (mh : ∀ env vh (Q Q' : QE), (∀ x e h, Q x e h → Q' x e h) → wh env vh Q → wh env vh Q') (ha : PE X a (tO G B wa))
    (hl : (lo = none ∧ ∀ env vh Q, wl env vh Q → Q (.v .non) env vh) ∨ ∃ e, lo = some e ∧ PE X e (tD G B wl)) (hh : (hi = none ∧ ∀ env vh Q, wh env vh Q → Q (.v .non) env vh) ∨ ∃ e, hi = some e ∧ PE X e (tD G B wh)) :
    PE X (.Subscript a (.Slice lo hi none p2) pos) (tD G B fun env vh Q => wa env vh fun x e1 h1 => wl e1 h1 fun l e2 h2 => ∃ i, partD l = some i ∧ wh e2 h2 fun u e3 h3 => ∃ c j, x.ld e3 h3 = some c ∧ partD u = some j ∧ wpSli c i j fun z => fin false z e3 h3 Q) := by
  have part : ∀ {q : Option Expr} {w : VE → VH → QE → Prop}, (∀ env vh (Q Q' : QE), (∀ x e h, Q x e h → Q' x e h) → w env vh Q → w env vh Q') → ((q = none ∧ ∀ env vh Q, w env vh Q → Q (.v .non) env vh) ∨ ∃ e, q = some e ∧ PE X e (tD G B w)) →
      PO X q (fun σ H Q => ∃ T ρ env vh, Rel G B T ρ env vh σ H ∧ w env vh fun x e1 h1 => ∃ i, partD x = some i ∧ ∀ ρ' H', Mv (ZZ B.F T ρ env σ) ρ H (ZZ B.F T ρ' e1 σ) ρ' H' → Rel G B T ρ' e1 h1 σ H' → Q i H') := by
    rintro q w mono (⟨rfl, h⟩ | ⟨e, rfl, h⟩)
    · refine ⟨fun pins s σ H Q I ⟨T, ρ, env, vh, R, z⟩ => po_none.run pins s σ H Q I ?_⟩
      obtain ⟨i, ei, z⟩ := h _ _ _ z
      cases ei
      exact z ρ H Mv.refl R
    · refine ⟨fun pins s σ H Q I hw => ?_⟩
      obtain ⟨T, ρ, env, vh, R, z⟩ := hw
      rw [evalPart_some]
      have hz : tD G B w σ H (fun v H1 => ∃ o, ((o = none ∧ v = .non) ∨ ∃ i, v = .int i ∧ o = some i) ∧ Q o H1) := by
        refine ⟨T, ρ, env, vh, R, mono _ _ _ _ (fun x e1 h1 y ρ' v H' r => ?_) z⟩
        obtain ⟨i, ei, z⟩ := y
        obtain ⟨m, R', hv⟩ := r.d
        cases x with
        | fr ds => cases ei
        | v d =>
          cases d with
          | int k =>
            cases ei
            exact ⟨_, .inr ⟨k, hv, rfl⟩, z ρ' H' m R'⟩
          | non =>
            cases ei
            exact ⟨_, .inl ⟨rfl, hv⟩, z ρ' H' m R'⟩
          | _ => cases ei
      refine thn (h.run pins s σ H _ I hz) fun u s1 y => ?_
      obtain ⟨v, H1, I1, r1, oo, q1, q2⟩ := y
      rcases q1 with ⟨rfl, rfl⟩ | ⟨i, rfl, rfl⟩
      · cases r1
        exact ⟨none, H1, I1, .none, q2⟩
      · obtain ⟨t, rfl⟩ := r1
        exact ⟨some i, H1, I1, .int i t, q2⟩
  refine (pe_slice (sl_d o.hK) ha (part ml hl) (part mh hh)).imp fun σ H Q ⟨T, ρ, env, vh, R, w⟩ => ?_
  refine ⟨T, ρ, env, vh, R, ma _ _ _ _ (fun x e1 h1 k ρ1 v1 H1 m1 R1 o1 => ?_) w⟩
  refine ⟨T, ρ1, e1, h1, R1, ml _ _ _ _ (fun l e2 h2 ⟨i, ql, k⟩ => ⟨i, ql, fun ρ2 H2 m2 R2 => ?_⟩) k⟩
  refine ⟨T, ρ2, e2, h2, R2, mh _ _ _ _ (fun u e3 h3 ⟨c, j, p1, p3, z⟩ => ⟨j, p3, fun ρ3 H3 m3 R3 => ?_⟩) k⟩
  exact ⟨_, ρ3, c, ((o1.move m2).move m3).rw R3 p1, wpSli_mono (fun z k v H4 out => k ρ3 v H4 (Res.of_out ((m1.trans m2).trans m3) R3 out)) z⟩

/-! ### lists of parts -/
theorem ra_nil : PA X [] (tL G B fun env vh Q => Q [] env vh) := pa_nil.imp fun σ H Q ⟨T, ρ, env, vh, R, w⟩ => w ρ [] H Mv.refl R rfl
theorem ra_cons {e : Expr} {es : List Expr} {w : VE → VH → QE → Prop} {ws : VE → VH → (List D → VE → VH → Prop) → Prop} (m1 : ∀ env vh (Q Q' : QE), (∀ x e h, Q x e h → Q' x e h) → w env vh Q → w env vh Q') (m2 : ∀ env vh (Q Q' : List D → VE → VH → Prop), (∀ x e h, Q x e h → Q' x e h) → ws env vh Q → ws env vh Q')
    (h1 : PE X e (tD G B w)) (h2 : PA X es (tL G B ws)) (hs : starEach (e :: es) X.env = (false, eval e X.env) :: starEach es X.env) :
    PA X (e :: es) (tL G B fun env vh Q => w env vh fun x e1 h1 => ws e1 h1 fun xs e2 h2 => Q (x.d :: xs) e2 h2) :=
  (pa_cons h1 h2 hs).imp fun σ H Q ⟨T, ρ, env, vh, R, q⟩ => ⟨T, ρ, env, vh, R, m1 _ _ _ _ (fun x e1 h1 k ρ1 v H1 r => by
    obtain ⟨mv, R1, hv⟩ := r.d
    exact ⟨T, ρ1, e1, h1, R1, m2 _ _ _ _ (fun xs e2 h2 k ρ2 vs H2 mv2 R2 hvs => k ρ2 (v :: vs) H2 (mv.trans mv2) R2 ⟨v, vs, rfl, RD.move mv2 _ _ hv, hvs⟩) k⟩) q⟩
theorem ros_nil : PA X [] (tOs G B fun env vh Q => Q [] env vh) := pa_nil.imp fun σ H Q ⟨T, ρ, env, vh, R, w⟩ => w ρ [] H Mv.refl R rfl
theorem OpVs.move {Z Z' : Addr → Prop} {ρ ρ' : List Addr} {H H' : Hp} {σ : L2.St} (m : Mv Z ρ H Z' ρ' H') : ∀ {os : List Op} {vs : List V}, OpVs G Z ρ H σ os vs → OpVs G Z' ρ' H' σ os vs
  | [], vs, h => h
  | o :: os, vs, h => by
    obtain ⟨v, r, e, h1, h2⟩ := h
    exact ⟨v, r, e, h1.move m, OpVs.move m h2⟩
theorem ros_cons {e : Expr} {es : List Expr} {w : VE → VH → (Op → VE → VH → Prop) → Prop} {ws : VE → VH → (List Op → VE → VH → Prop) → Prop} (m1 : ∀ env vh (Q Q' : Op → VE → VH → Prop), (∀ x e h, Q x e h → Q' x e h) → w env vh Q → w env vh Q') (m2 : ∀ env vh (Q Q' : List Op → VE → VH → Prop), (∀ x e h, Q x e h → Q' x e h) → ws env vh Q → ws env vh Q')
    (h1 : PE X e (tO G B w)) (h2 : PA X es (tOs G B ws)) (hs : starEach (e :: es) X.env = (false, eval e X.env) :: starEach es X.env) :
    PA X (e :: es) (tOs G B fun env vh Q => w env vh fun x e1 h1 => ws e1 h1 fun xs e2 h2 => Q (x :: xs) e2 h2) :=
  (pa_cons h1 h2 hs).imp fun σ H Q ⟨T, ρ, env, vh, R, q⟩ => ⟨T, ρ, env, vh, R, m1 _ _ _ _ (fun x e1 h1 k ρ1 v H1 mv R1 ov =>
    ⟨T, ρ1, e1, h1, R1, m2 _ _ _ _ (fun xs e2 h2 k ρ2 vs H2 mv2 R2 ovs => k ρ2 (v :: vs) H2 (mv.trans mv2) R2 ⟨v, vs, rfl, ov.move mv2, ovs⟩) k⟩) q⟩
theorem re_tup {es : List Expr} {x1 : Nat} {pos : Pos} {ws : VE → VH → (List D → VE → VH → Prop) → Prop} (m : ∀ env vh (Q Q' : List D → VE → VH → Prop), (∀ x e h, Q x e h → Q' x e h) → ws env vh Q → ws env vh Q') (h : PA X es (tL G B ws)) :
    PE X (.Tuple es x1 pos) (tD G B fun env vh Q => ws env vh fun ds e1 h1 => ds.length ≤ 16777216 ∧ fin false (.v (.tup ds)) e1 h1 Q) :=
  (pe_tup h).imp fun σ H Q ⟨T, ρ, env, vh, R, w⟩ => ⟨T, ρ, env, vh, R, m _ _ _ _ (fun ds e1 h1 ⟨hz, k⟩ ρ' vs H' mv R' hv => ⟨by rw [sizeLine_eq, ← hv.length]; exact hz, fun p hp => k ρ' _ _ (Res.of_out mv R' (out_tup hp hv))⟩) w⟩
theorem re_lst {es : List Expr} {pos : Pos} {ws : VE → VH → (List D → VE → VH → Prop) → Prop} (m : ∀ env vh (Q Q' : List D → VE → VH → Prop), (∀ x e h, Q x e h → Q' x e h) → ws env vh Q → ws env vh Q') (h : PA X es (tL G B ws)) :
    PE X (.List es pos) (tD G B fun env vh Q => ws env vh fun ds e1 h1 => ds.length ≤ 16777216 ∧ fin false (.fr ds) e1 h1 Q) :=
  (pe_lst h).imp fun σ H Q ⟨T, ρ, env, vh, R, w⟩ => ⟨T, ρ, env, vh, R, m _ _ _ _ (fun ds e1 h1 ⟨hz, k⟩ ρ' vs H' mv R' hv => ⟨by rw [sizeLine_eq, ← hv.length]; exact hz, fun p hp => k ρ' _ _ (Res.of_out mv R' (out_lst hp hv))⟩) w⟩

/-! ### calls -/
theorem re_blt (o : XOk X G B K Φ Γ fs) {f : Bf} {x : Str} {e : Expr} {es : List Expr} {p pos : Pos} {ws : VE → VH → (List Op → VE → VH → Prop) → Prop} (m : ∀ env vh (Q Q' : List Op → VE → VH → Prop), (∀ x e h, Q x e h → Q' x e h) → ws env vh Q → ws env vh Q')
    (h : PA X (e :: es) (tOs G B ws)) (hx : x = bltN f) (hg : Gl X x) (he : starEach (e :: es) X.env = (false, eval e X.env) :: starEach es X.env) (hpl : (backTo pos (starEach es X.env)).any (·.1) = false) :
    PE X (.Call (.Name x p) (e :: es) [] pos) (tD G B fun env vh Q => ws env vh fun xs e1 h1 => ∃ ds, ldAll e1 h1 xs = some ds ∧ wpBlt f ds fun z => fin false z e1 h1 Q) := by
  have fin_ : ∀ {t0 : TE}, t0 = tCB (fun xs H Q => ∃ Z ρ ds, RWs G Z ρ H ds xs ∧ wpBlt f ds fun z => ∀ v H', OutV G Z ρ H z v H' → Q v H') (tOs G B ws) → ∀ σ H Q, tD G B (fun env vh Q => ws env vh fun xs e1 h1 => ∃ ds, ldAll e1 h1 xs = some ds ∧ wpBlt f ds fun z => fin false z e1 h1 Q) σ H Q → t0 σ H Q := by
    rintro t0 rfl σ H Q ⟨T, ρ, env, vh, R, w⟩
    exact ⟨T, ρ, env, vh, R, m _ _ _ _ (fun xs e1 h1 ⟨ds, ed, k⟩ ρ' vs H' mv R' hv => ⟨_, ρ', ds, OpVs.rw R' hv ed, wpBlt_mono (fun z k v H1 out => k ρ' v H1 (Res.of_out mv R' out)) k⟩) w⟩
  have hm : X.mg x = none := o.bl x (by rw [hx]; cases f <;> decide +kernel)
  subst hx
  cases f with
  | len => exact (pe_callB (call_d o.hK o.calm .len) hg hm (by decide +kernel) h (by decide +kernel) (by decide +kernel) he hpl).imp (fin_ rfl)
  | int => exact (pe_callTy (call_d o.hK o.calm .int) hg hm (by decide +kernel) h (by decide +kernel) (by decide +kernel) he hpl).imp (fin_ rfl)
  | bool => exact (pe_callTy (call_d o.hK o.calm .bool) hg hm (by decide +kernel) h (by decide +kernel) (by decide +kernel) he hpl).imp (fin_ rfl)
  | str => exact (pe_callTy (call_d o.hK o.calm .str) hg hm (by decide +kernel) h (by decide +kernel) (by decide +kernel) he hpl).imp (fin_ rfl)
  | tuple => exact (pe_callTy (call_d o.hK o.calm .tuple) hg hm (by decide +kernel) h (by decide +kernel) (by decide +kernel) he hpl).imp (fin_ rfl)
  | list => exact (pe_callTy (call_d o.hK o.calm .list) hg hm (by decide +kernel) h (by decide +kernel) (by decide +kernel) he hpl).imp (fin_ rfl)
  | abs => exact (pe_callB (call_d o.hK o.calm .abs) hg hm (by decide +kernel) h (by decide +kernel) (by decide +kernel) he hpl).imp (fin_ rfl)
  | min2 => exact (pe_callB (call_d o.hK o.calm .min2) hg hm (by decide +kernel) h (by decide +kernel) (by decide +kernel) he hpl).imp (fin_ rfl)
  | max2 => exact (pe_callB (call_d o.hK o.calm .max2) hg hm (by decide +kernel) h (by decide +kernel) (by decide +kernel) he hpl).imp (fin_ rfl)
  | sum => exact (pe_callB (call_d o.hK o.calm .sum) hg hm (by decide +kernel) h (by decide +kernel) (by decide +kernel) he hpl).imp (fin_ rfl)
  | all => exact (pe_callB (call_d o.hK o.calm .all) hg hm (by decide +kernel) h (by decide +kernel) (by decide +kernel) he hpl).imp (fin_ rfl)
  | any => exact (pe_callB (call_d o.hK o.calm .any) hg hm (by decide +kernel) h (by decide +kernel) (by decide +kernel) he hpl).imp (fin_ rfl)
  | sorted => exact (pe_callB (call_d o.hK o.calm .sorted) hg hm (by decide +kernel) h (by decide +kernel) (by decide +kernel) he hpl).imp (fin_ rfl)
  | min1 => exact (pe_callB (call_d o.hK o.calm .min1) hg hm (by decide +kernel) h (by decide +kernel) (by decide +kernel) he hpl).imp (fin_ rfl)
  | max1 => exact (pe_callB (call_d o.hK o.calm .max1) hg hm (by decide +kernel) h (by decide +kernel) (by decide +kernel) he hpl).imp (fin_ rfl)

theorem res_of_f {x : DV} {v : V} {ρ' : List Addr} {vh' : VH} {H' : Hp} (R : Rel G B T ρ env vh σ H) (r : ResF G (B.callee T ρ env σ H) x v ρ' vh' H') : Res G B T ρ env σ H x v ρ' env vh' H' := by
  cases x with
  | v d =>
    obtain ⟨S, h⟩ := r
    have m := R.backMv S
    have S2 := R.back S
    rw [Rel.backZ (B := B) (H := H) (H' := H')] at h
    exact ⟨m, S2, h⟩
  | fr ds =>
    obtain ⟨a, vs, e, h1, S, h⟩ := r
    have m := R.backMv S
    have S2 := R.back S
    rw [Rel.backZ (B := B) (H := H) (H' := H')] at h
    exact ⟨a, vs, e, h1, m, S2, h⟩
/-- the heart of a call -/
theorem call_hw {sp : VSp} {ds : List D} {vs : List V} {Q : VK} {Kx : XP} {QQ : DV → VH → Prop} (R : Rel G B T ρ env vh σ H) (h : RDs G (ZZ B.F T ρ env σ) ρ H ds vs)
    (w : sp.run ds vh fun o h2 => match o with
      | .ok x => QQ x h2
      | .exc c xs => Kx c xs env h2) (f : ∀ x h2, QQ x h2 → ∀ ρ' v H', Res G B T ρ env σ H x v ρ' env h2 H' → Q v H') : spV G sp vs H Q (WE (WK G B Kx) σ) := by
  have hh : RDs G (ZZ (B.callee T ρ env σ H).F [] ρ [] []) ρ H ds vs := by rw [calleeZ]; exact h
  refine ⟨(B.callee T ρ env σ H).F, ρ, vh, ds, R.enter, hh, sp.mono _ _ _ _ (fun o h2 k => ?_) w⟩
  cases o with
  | ok x => exact fun ρ' v H' r => f x h2 k ρ' v H' (res_of_f R r)
  | exc c xs =>
    intro ρ' C d H' hc S hx
    have S2 := R.back S
    have hx2 : XF G (ZZ B.F ([] ++ T) ρ' env σ) ρ' H' d xs := by rw [← Rel.backZ (B := B) (T := T) (ρ := ρ) (env := env) (σ := σ) (H := H) (H' := H')]; exact hx
    exact ⟨c, C, xs, [] ++ T, ρ', env, h2, hc, rfl, S2, hx2, k⟩
theorem pe_callS0 {k : Nat} {f : Addr} {fd : FuncData} {ps : List Str} {sp : Sp} {E : L2.St → XK} {x : Str} {p pos : Pos} (F : FnOk X.prog X.w X.K X.mg X.base (L2.CX X.prog X.w) k f fd ps sp) (hr : Room k X.A) (hg : Gl X x) (hm : X.mg x = some (.ref f)) (hk : PySem.W.keepIn X.K (.ref f) = true) (hb : Binds X.K fd ps []) (hx : ∀ σ, PassesAt (L2.CX X.prog X.w) X σ (E σ))
    (hdb : (x == ("__debug__" : Str)) = false) : PE X (.Call (.Name x p) [] [] pos) (tCallS sp E tNil) := by
  refine ⟨fun pins s σ H Q I h => ?_⟩
  refine wpAny_Call_Name_kw (ld_glob I hg hm ?_ hdb)
  exact PySem.W.callWith_K0 I.kIn hk (run_fnS (us := []) F hr hb (hx σ) I .nil h)
theorem re_call (o : XOk X G B K Φ Γ fs) {f : Str} {e : Expr} {es : List Expr} {p pos : Pos} {ws : VE → VH → (List D → VE → VH → Prop) → Prop} (m : ∀ env vh (Q Q' : List D → VE → VH → Prop), (∀ x e h, Q x e h → Q' x e h) → ws env vh Q → ws env vh Q')
    (h : PA X (e :: es) (tL G B ws)) (hf : f ∈ fs) (hg : Gl X f) (he : starEach (e :: es) X.env = (false, eval e X.env) :: starEach es X.env) (hpl : (backTo pos (starEach es X.env)).any (·.1) = false) :
    PE X (.Call (.Name f p) (e :: es) [] pos) (tD G B fun env vh Q => ws env vh fun ds e1 h1 => (Φ f).run ds h1 fun o h2 => match o with
      | .ok x => fin false x e1 h2 Q
      | .exc c xs => K c xs e1 h2) := by
  obtain ⟨a, fd, ps, k, hm, hk, hb, F, hr, hdb⟩ := o.fn f hf
  refine (pe_callS F hr hg hm hk hb (fun σ => passAt o.tk σ) h hdb he hpl).imp ?_
  rintro σ H Q ⟨T, ρ, env, vh, R, w⟩
  exact ⟨T, ρ, env, vh, R, m _ _ _ _ (fun ds e1 h1 z ρ1 vs H1 mv R1 hv => call_hw R1 hv z fun x h2 y ρ' v H' r => y ρ' v H' (Res.moved mv r)) w⟩
theorem re_call0 (o : XOk X G B K Φ Γ fs) {f : Str} {p pos : Pos} (hf : f ∈ fs) (hg : Gl X f) :
    PE X (.Call (.Name f p) [] [] pos) (tD G B fun env vh Q => (Φ f).run [] vh fun o h2 => match o with
      | .ok x => fin false x env h2 Q
      | .exc c xs => K c xs env h2) := by
  obtain ⟨a, fd, ps, k, hm, hk, hb, F, hr, hdb⟩ := o.fn f hf
  refine (pe_callS0 F hr hg hm hk hb (fun σ => passAt o.tk σ) hdb).imp ?_
  rintro σ H Q ⟨T, ρ, env, vh, R, w⟩
  exact call_hw R (ds := []) rfl w fun x h2 y ρ' v H' r => y ρ' v H' r

/-! ### isinstance -/
theorem pa_tys (o : XOk X G B K Φ Γ fs) : ∀ (ns : List String) (es : List Expr), Paired (fun n e => ∃ p, e = Expr.Name (Str.ofString n) p ∧ okTy n = true ∧ Gl X (Str.ofString n)) ns es → PA X es (fun _ H Q => Q (ns.map V.ty) H)
  | [], _, .nil => pa_nil
  | n :: ns, _, .cons (b := e) h t => by
    obtain ⟨p, rfl, h2, h3⟩ := h
    have hm : X.mg (Str.ofString n) = none ∧ bootBuiltins (Str.ofString n) = some (.type n) ∧ (Str.ofString n) ≠ "__name__" ∧ ((Str.ofString n) == ("__debug__" : Str)) = false := by
      have hmem := okTy_mem h2
      have tb : ∀ x ∈ (["int", "bool", "str", "tuple", "list", "dict"] : List String), (Str.ofString x) ∈ bltNames ∧ bootBuiltins (Str.ofString x) = some (.type x) ∧ (Str.ofString x) ≠ "__name__" ∧ ((Str.ofString x) == ("__debug__" : Str)) = false := by decide +kernel
      obtain ⟨q1, q2, q3, q4⟩ := tb n hmem
      exact ⟨o.bl _ q1, q2, q3, q4⟩
    exact (pa_cons (pe_bltn (v := .ty n) (u := .type n) h3 hm.1 hm.2.1 rfl hm.2.2.1 hm.2.2.2) (pa_tys o ns _ t) rfl).imp fun σ H Q w => w
/-- the classes that isinstance is asked for -/
def tysOf : Expr → Option (List String)
  | .Name x _ => (["int", "bool", "str", "tuple", "list", "dict"] : List String).find? (fun n => Str.ofString n == x) |>.map fun n => [n]
  | _ => none
theorem OpV.ty (hK : X.K = G.K) (R : Rel G B T ρ env vh σ H) {x : Op} {v : V} {d : D} {n : String} (h : OpV G (ZZ B.F T ρ env σ) ρ H σ x v) (e : x.ld env vh = some d) (t : tyD d = some n) : TyX X.K H v (.type n) := RW.ty hK (h.rw R e) t
theorem paired_cls : ∀ ns : List String, Paired ClsV (ns.map V.ty) (ns.map Value.type)
  | [] => .nil
  | n :: ns => .cons (.ty n) (paired_cls ns)
theorem re_isi1 (o : XOk X G B K Φ Γ fs) {a : Expr} {n : String} {p p2 pos : Pos} {wa : VE → VH → (Op → VE → VH → Prop) → Prop} (ma : ∀ env vh (Q Q' : Op → VE → VH → Prop), (∀ x e h, Q x e h → Q' x e h) → wa env vh Q → wa env vh Q')
    (ha : PE X a (tO G B wa)) (hg : Gl X "isinstance") (hgn : Gl X (Str.ofString n)) (hn : okTy n = true) (he : starEach [a, .Name (Str.ofString n) p2] X.env = (false, eval a X.env) :: starEach [.Name (Str.ofString n) p2] X.env) :
    PE X (.Call (.Name "isinstance" p) [a, .Name (Str.ofString n) p2] [] pos) (tD G B fun env vh Q => wa env vh fun x e1 h1 => ∃ d m, x.ld e1 h1 = some d ∧ tyD d = some m ∧ [n].all okTy = true ∧ fin false (.v (.bl ([n].any (isTy m)))) e1 h1 Q) := by
  have pa : PA X [a, .Name (Str.ofString n) p2] (tCons (tO G B wa) (fun _ H Q => Q ([n].map V.ty) H)) := pa_cons ha (pa_tys o [n] [_] (.cons ⟨p2, rfl, hn, hgn⟩ .nil)) he
  refine (pe_callB call_isi hg (o.bl _ (by decide +kernel)) (by decide +kernel) pa (by decide +kernel) (by decide +kernel) he rfl).imp ?_
  rintro σ H Q ⟨T, ρ, env, vh, R, w⟩
  refine ⟨T, ρ, env, vh, R, ma _ _ _ _ (fun x e1 h1 ⟨d, m, q1, q2, q3, q4⟩ ρ' v H' mv R' ov => ?_) w⟩
  refine ⟨v, .ty n, .type m, .type n, _, rfl, .ty n, ov.ty o.hK R' q1 q2, kit_is q2 hn, ?_⟩
  have e : [n].any (isTy m) = isTy m n := by simp
  rw [e] at q4
  exact q4 ρ' _ H' ⟨mv, R', rfl⟩
theorem re_isiT (o : XOk X G B K Φ Γ fs) {a : Expr} {ns : List String} {es : List Expr} {k : Nat} {p p2 pos : Pos} {wa : VE → VH → (Op → VE → VH → Prop) → Prop} (ma : ∀ env vh (Q Q' : Op → VE → VH → Prop), (∀ x e h, Q x e h → Q' x e h) → wa env vh Q → wa env vh Q')
    (ha : PE X a (tO G B wa)) (hg : Gl X "isinstance") (hes : Paired (fun n e => ∃ p, e = Expr.Name (Str.ofString n) p ∧ okTy n = true ∧ Gl X (Str.ofString n)) ns es) (hl : ns.length ≤ 1000)
    (he : starEach [a, .Tuple es k p2] X.env = (false, eval a X.env) :: starEach [.Tuple es k p2] X.env) :
    PE X (.Call (.Name "isinstance" p) [a, .Tuple es k p2] [] pos) (tD G B fun env vh Q => wa env vh fun x e1 h1 => ∃ d m, x.ld e1 h1 = some d ∧ tyD d = some m ∧ ns.all okTy = true ∧ fin false (.v (.bl (ns.any (isTy m)))) e1 h1 Q) := by
  have pa : PA X [a, .Tuple es k p2] (tCons (tO G B wa) (tCons (tTup fun _ H Q => Q (ns.map V.ty) H) tNil)) := pa_cons ha (pa_cons (pe_tup (pa_tys o ns es hes)) pa_nil rfl) he
  refine (pe_callB call_isiT hg (o.bl _ (by decide +kernel)) (by decide +kernel) pa (by decide +kernel) (by decide +kernel) he rfl).imp ?_
  rintro σ H Q ⟨T, ρ, env, vh, R, w⟩
  refine ⟨T, ρ, env, vh, R, ma _ _ _ _ (fun x e1 h1 ⟨d, m, q1, q2, q3, q4⟩ ρ' v H' mv R' ov => ?_) w⟩
  refine ⟨by rw [List.length_map, sizeLine_eq]; omega, fun p hp => ?_⟩
  have R2 := R'.grow (same_new (o := .tup (ns.map V.ty)) hp)
  have ov2 := ov.move (Mv.same (same_new (o := .tup (ns.map V.ty)) hp))
  refine ⟨v, p, ns.map V.ty, .type m, ns.map Value.type, _, rfl, upd_same, paired_cls ns, ov2.ty o.hK R2 q1 q2, kit_any q2 q3, ?_⟩
  exact q4 ρ' _ _ ⟨mv.trans (Mv.same (same_new hp)), R2, rfl⟩
end
end R

namespace R
open PySem PySem.Spec PyProof.Rows L2
/-! ## R5: targets, what is gone through, comprehensions -/
section
variable {X : Cx} {G : Wd} {B : Base} {T ρ : List Addr} {env : VE} {vh : VH} {σ : L2.St} {H : Hp}
/-! ### targets -/
def gNames : List Nat → TGs
  | [] => gNil
  | i :: is => gCons (gName i) (gNames is)
def gOf (K : PySem.W.Frag) : Tg → TG
  | .one i => gName i
  | .many is => gTup K is.length (gNames is)
/-- the slots that a target writes, one after another -/
def setAllS (σ : L2.St) : List Nat → List V → L2.St
  | i :: is, v :: vs => setAllS (σ.set i (some v)) is vs
  | _, _ => σ
def tgIx : Tg → List Nat
  | .one i => [i]
  | .many is => is
/-- how a bound state came to be -/
inductive Set1 : List Nat → VE → L2.St → VE → L2.St → Prop where
  | nil {env : VE} {σ : L2.St} {is : List Nat} : Set1 is env σ env σ
  | cons {env env2 : VE} {σ σ2 : L2.St} {i : Nat} {is : List Nat} {d : D} {v : V} (hi : i ∈ is) (t : Set1 is (env.set i (.val d)) (σ.set i (some v)) env2 σ2) : Set1 is env σ env2 σ2
theorem Set1.weak {is js : List Nat} {env env2 : VE} {σ σ2 : L2.St} (h : Set1 is env σ env2 σ2) (s : ∀ i, i ∈ is → i ∈ js) : Set1 js env σ env2 σ2 := by
  induction h with
  | nil => exact .nil
  | cons hi _ ih => exact .cons (s _ hi) (ih s)
theorem setValMv {i : Nat} {d : D} {v : V} (R : Rel G B T ρ env vh σ H) : Mv (ZZ B.F T ρ env σ) ρ H (ZZ B.F T ρ (env.set i (.val d)) (σ.set i (some v))) ρ H := Mv.less fun a z => by
  rcases z with z | z | z | ⟨j, z⟩
  · exact .inl z
  · exact .inr (.inl z)
  · exact .inr (.inr (.inl z))
  · rcases Own.of_set z with ⟨_, ds, e, _⟩ | ⟨_, q⟩
    · cases e
    · exact .inr (.inr (.inr ⟨j, q⟩))
theorem names_bind : ∀ {is : List Nat} {ds : List D} {vs : List V} {env env2 : VE} {σ : L2.St} {Q : L2.St → Hp → Prop}, Rel G B T ρ env vh σ H → RDs G (ZZ B.F T ρ env σ) ρ H ds vs → setAllE env is ds = some env2 →
    (∀ σ2, Rel G B T ρ env2 vh σ2 H → Set1 is env σ env2 σ2 → Mv (ZZ B.F T ρ env σ) ρ H (ZZ B.F T ρ env2 σ2) ρ H → Q σ2 H) → gNames is vs σ H Q
  | [], [], vs, env, env2, σ, Q, R, h, e, k => by
    cases e
    cases (show vs = [] from h)
    exact ⟨rfl, k σ R .nil Mv.refl⟩
  | i :: is, d :: ds, vs, env, env2, σ, Q, R, h, e, k => by
    obtain ⟨v, r, rfl, h1, h2⟩ := h
    have m := setValMv (i := i) (d := d) (v := v) R
    exact ⟨v, r, rfl, names_bind (R.setVal h1) (RDs.move m _ _ h2) e fun σ2 R2 s2 m2 => k σ2 R2 (.cons (by simp) (s2.weak fun j hj => List.mem_cons_of_mem _ hj)) (m.trans m2)⟩
  | [], _ :: _, _, _, _, _, _, _, _, e, _ => by cases e
  | _ :: _, [], _, _, _, _, _, _, _, e, _ => by cases e
theorem setAllE_length : ∀ {is : List Nat} {ds : List D} {env env2 : VE}, setAllE env is ds = some env2 → ds.length = is.length
  | [], [], _, _, _ => rfl
  | i :: is, d :: ds, env, env2, e => by rw [List.length_cons, List.length_cons, setAllE_length (is := is) e]
  | [], _ :: _, _, _, e => by cases e
  | _ :: _, [], _, _, e => by cases e
theorem bind_ok {tg : Tg} {d : D} {v : V} {env2 : VE} {Q : L2.St → Hp → Prop} (R : Rel G B T ρ env vh σ H) (h : RD G (ZZ B.F T ρ env σ) ρ H d v) (e : bindT tg d env = some env2)
    (k : ∀ σ2, Rel G B T ρ env2 vh σ2 H → Set1 (tgIx tg) env σ env2 σ2 → Mv (ZZ B.F T ρ env σ) ρ H (ZZ B.F T ρ env2 σ2) ρ H → Q σ2 H) : gOf G.K tg v σ H Q := by
  cases tg with
  | one i =>
    cases e
    exact k _ (R.setVal h) (.cons (by simp [tgIx]) .nil) (setValMv R)
  | many is =>
    cases d with
    | tup ds =>
      obtain ⟨a, vs, rfl, h1, h2⟩ := h
      refine ⟨a, vs, rfl, h1, ?_, names_bind R h2 e k⟩
      rw [← h2.length]
      exact setAllE_length e
    | _ => cases e

/-! ### iterators -/
/-- what an iterator yields, as data -/
structure Wk (G : Wd) (J : It) (Z0 : Addr → Prop) (ρ0 : List Addr) (H0 : Hp) (items : List D) : Prop where
  go : ∀ i Z ρ H, Mv Z0 ρ0 H0 Z ρ H → i < items.length → J.go i H
  stop : ∀ Z ρ H, Mv Z0 ρ0 H0 Z ρ H → J.stop items.length H
  yld : ∀ i Z ρ H x H', Mv Z0 ρ0 H0 Z ρ H → i < items.length → J.yld i H x H' → ∃ d, items[i]? = some d ∧ Same H H' ∧ RD G Z ρ H' d x
def iD (G : Wd) (B : Base) (w : VE → VH → (List D → VE → VH → Prop) → Prop) : TI := fun σ H R => ∃ T ρ env vh, Rel G B T ρ env vh σ H ∧ w env vh fun items e1 h1 =>
  ∀ ρ' H' J, Mv (ZZ B.F T ρ env σ) ρ H (ZZ B.F T ρ' e1 σ) ρ' H' → Rel G B T ρ' e1 h1 σ H' → Wk G J (ZZ B.F T ρ' e1 σ) ρ' H' items → R J H'
theorem wk_list {a : Addr} {vs : List V} {items : List D} {Z0 : Addr → Prop} {ρ0 : List Addr} {H0 : Hp} (hq : ∀ Z ρ H, Mv Z0 ρ0 H0 Z ρ H → SqL G.K H a vs) (h : RDs G Z0 ρ0 H0 items vs) : Wk G (Itl G.K a) Z0 ρ0 H0 items where
  go := fun i Z ρ H m hi => by
    rw [h.length] at hi
    exact ⟨vs, vs[i], hq Z ρ H m, by simp [hi]⟩
  stop := fun Z ρ H m => ⟨vs, hq Z ρ H m, by rw [h.length]; exact Nat.le_refl _⟩
  yld := fun i Z ρ H x H' m hi y => by
    obtain ⟨e, y⟩ := y
    subst e
    obtain ⟨d, h1, h2⟩ := (RDs.move m _ _ h).getV (y vs (hq Z ρ H' m))
    exact ⟨d, h1, Same.refl _, h2⟩
theorem wk_tup {a : Addr} {vs : List V} {items : List D} {Z0 : Addr → Prop} {ρ0 : List Addr} {H0 : Hp} (hq : SqT G.K H0 a vs) (h : RDs G Z0 ρ0 H0 items vs) : Wk G (Itt G.K a) Z0 ρ0 H0 items where
  go := fun i Z ρ H m hi => by
    rw [h.length] at hi
    exact ⟨vs, vs[i], m.sqt hq, by simp [hi]⟩
  stop := fun Z ρ H m => ⟨vs, m.sqt hq, by rw [h.length]; exact Nat.le_refl _⟩
  yld := fun i Z ρ H x H' m hi y => by
    obtain ⟨e, y⟩ := y
    subst e
    obtain ⟨d, h1, h2⟩ := (RDs.move m _ _ h).getV (y vs (m.sqt hq))
    exact ⟨d, h1, Same.refl _, h2⟩
theorem wk_range {lo : Int} {n : Nat} {Z0 : Addr → Prop} {ρ0 : List Addr} {H0 : Hp} {f : Nat → D} (hf : ∀ i : Nat, f i = .int (lo + i)) : Wk G (Itr lo n) Z0 ρ0 H0 ((List.range n).map f) where
  go := fun i Z ρ H m hi => by
    rw [List.length_map, List.length_range] at hi
    exact hi
  stop := fun Z ρ H m => by simp [Itr]
  yld := fun i Z ρ H x H' m hi y => by
    obtain ⟨e, y⟩ := y
    subst e y
    simp at hi
    exact ⟨f i, by simp [hi], Same.refl _, by rw [hf]; rfl⟩
theorem ri_seq {tg e : Expr} {w : VE → VH → QE → Prop} (hK : X.K = G.K) (mono : ∀ env vh (Q Q' : QE), (∀ x e h, Q x e h → Q' x e h) → w env vh Q → w env vh Q') (he : PE X e (tD G B w)) :
    PI X tg e (iD G B fun env vh Q => w env vh fun x e1 h1 => ∃ items, itemsD .seq [x.d] = some items ∧ Q items e1 h1) := by
  refine ⟨fun pins s σ H R I ⟨T, ρ, env, vh, Rl, q⟩ => ?_⟩
  have hz : tD G B w σ H (fun v H1 => ∃ a, v = .ref a ∧ ((∃ xs, SqL X.K H1 a xs ∧ R (Itl X.K a) H1) ∨ (∃ xs, SqT X.K H1 a xs ∧ R (Itt X.K a) H1))) := by
    refine ⟨T, ρ, env, vh, Rl, mono _ _ _ _ (fun x e1 h1 ⟨items, ei, k⟩ ρ' v H' r => ?_) q⟩
    obtain ⟨m, R', hv⟩ := r.d
    cases hd : x.d with
    | tup xs =>
      rw [hd] at ei hv
      cases ei
      obtain ⟨a, vs, rfl, h1, h2⟩ := hv
      exact ⟨a, rfl, .inr ⟨vs, by rw [hK]; exact h1, by rw [hK]; exact k ρ' H' _ m R' (wk_tup h1 h2)⟩⟩
    | lst xs =>
      rw [hd] at ei hv
      cases ei
      obtain ⟨a, vs, rfl, nz, h1, h2⟩ := hv
      exact ⟨a, rfl, .inl ⟨vs, .of h1, by rw [hK]; exact k ρ' H' _ m R' (wk_list (fun Z ρ H m => .of (m.keep a _ nz h1).2) h2)⟩⟩
    | scr xs =>
      rw [hd] at ei hv
      cases ei
      obtain ⟨a, rfl, h1⟩ := hv
      exact ⟨a, rfl, .inl ⟨_, by rw [hK]; exact h1.sq, by rw [hK]; exact k ρ' H' _ m R' (wk_list (fun Z ρ H m => (m.sqv h1).sq) (RDs.ints _))⟩⟩
    | _ => rw [hd] at ei; cases ei
  refine thn (he.run pins s σ H _ I hz) fun v s1 ⟨x, H1, I1, r1, a, e, q1⟩ => ?_
  subst e
  cases r1
  rcases q1 with ⟨xs, hq, q⟩ | ⟨xs, hq, q⟩
  · obtain ⟨its, rv, p, hz⟩ := I1.list hq
    refine wpAny_pyIter_list p.isList ?_
    refine ⟨s1.heap.objs.size, [s1.heap.objs.size], _, _, H1, rfl, I1.kept (t' := s1.toks) fun b o e => Heap.get?_push_of_some _ e, turn_list a _, ⟨_, Heap.get?_push_size _ rfl, rfl, rfl⟩, fun b hb => ?_, q⟩
    have e : b = s1.heap.objs.size := by simpa using hb
    subst e
    exact I1.fpOk (Nat.le_refl _) (I1.hok.fresh (Nat.le_refl _))
  · obtain ⟨its, rv, p, hz⟩ := I1.tuple hq
    refine wpAny_pyIter_tuple (show s1.heap.IsTuple a its.toArray from p) ?_
    refine ⟨s1.heap.objs.size, [s1.heap.objs.size], _, _, H1, rfl, I1.kept (t' := s1.toks) fun b o e => Heap.get?_push_of_some _ e, turn_tuple a _, ⟨_, Heap.get?_push_size _ rfl, rfl, rfl⟩, fun b hb => ?_, q⟩
    have e : b = s1.heap.objs.size := by simpa using hb
    subst e
    exact I1.fpOk (Nat.le_refl _) (I1.hok.fresh (Nat.le_refl _))
theorem pi_imp {tg e : Expr} {t t' : TI} (h : PI X tg e t) (f : ∀ σ H R, t' σ H R → t σ H R) : PI X tg e t' := ⟨fun pins s σ H R I hw => h.run pins s σ H R I (f σ H R hw)⟩
theorem items_rng1 {ds items : List D} (h : itemsD .rng1 ds = some items) : ∃ n : Int, ds = [.int n] ∧ -(2 ^ 62) ≤ n ∧ n < 2 ^ 62 ∧ items = (List.range n.toNat).map fun (i : Nat) => D.int (i : Int) := by
  match ds, h with
  | [.int n], h =>
    have h : (if -(2 ^ 62) ≤ n ∧ n < 2 ^ 62 then some ((List.range n.toNat).map fun (i : Nat) => D.int (i : Int)) else none) = some items := h
    split at h
    · rename_i hc
      cases h
      exact ⟨n, rfl, hc.1, hc.2, rfl⟩
    · cases h
theorem items_rng2 {ds items : List D} (h : itemsD .rng2 ds = some items) : ∃ a b : Int, ds = [.int a, .int b] ∧ (-(2 ^ 62) ≤ a ∧ a < 2 ^ 62 ∧ -(2 ^ 62) ≤ b ∧ b < 2 ^ 62) ∧ items = (List.range (b - a).toNat).map fun (i : Nat) => D.int (a + (i : Int)) := by
  match ds, h with
  | [.int a, .int b], h =>
    have h : (if -(2 ^ 62) ≤ a ∧ a < 2 ^ 62 ∧ -(2 ^ 62) ≤ b ∧ b < 2 ^ 62 then some ((List.range (b - a).toNat).map fun (i : Nat) => D.int (a + (i : Int))) else none) = some items := h
    split at h
    · rename_i hc
      cases h
      exact ⟨a, b, rfl, hc, rfl⟩
    · cases h
theorem ri_rng1 {tg a : Expr} {p pos : Pos} {ws : VE → VH → (List D → VE → VH → Prop) → Prop} (m : ∀ env vh (Q Q' : List D → VE → VH → Prop), (∀ x e h, Q x e h → Q' x e h) → ws env vh Q → ws env vh Q') (ha : PA X [a] (tL G B ws))
    (hg : Gl X "range") (hm : X.mg "range" = none) (hs : starEach [a] X.env = [(false, eval a X.env)]) : PI X tg (.Call (.Name "range" p) [a] [] pos) (iD G B fun env vh Q => ws env vh fun ds e1 h1 => ∃ items, itemsD .rng1 ds = some items ∧ Q items e1 h1) := by
  refine pi_imp (pi_range1 hg hm ha hs) ?_
  rintro σ H R ⟨T, ρ, env, vh, Rl, q⟩
  refine ⟨T, ρ, env, vh, Rl, m _ _ _ _ (fun ds e1 h1 ⟨items, ei, k⟩ ρ' vs H' mv R' hv => ?_) q⟩
  obtain ⟨n, rfl, b1, b2, rfl⟩ := items_rng1 ei
  obtain ⟨v, r, rfl, h1, h2⟩ := hv
  cases (show r = [] from h2)
  cases (show v = .int n from h1)
  exact ⟨n, rfl, b1, b2, k ρ' H' _ mv R' (wk_range fun i => by rw [Int.zero_add])⟩
theorem ri_rng2 {tg a b : Expr} {p pos : Pos} {ws : VE → VH → (List D → VE → VH → Prop) → Prop} (m : ∀ env vh (Q Q' : List D → VE → VH → Prop), (∀ x e h, Q x e h → Q' x e h) → ws env vh Q → ws env vh Q') (ha : PA X [a, b] (tL G B ws))
    (hg : Gl X "range") (hm : X.mg "range" = none) (hs : starEach [a, b] X.env = [(false, eval a X.env), (false, eval b X.env)]) (hs2 : starEach [b] X.env = [(false, eval b X.env)]) : PI X tg (.Call (.Name "range" p) [a, b] [] pos) (iD G B fun env vh Q => ws env vh fun ds e1 h1 => ∃ items, itemsD .rng2 ds = some items ∧ Q items e1 h1) := by
  refine pi_imp (pi_range2 hg hm ha hs hs2) ?_
  rintro σ H R ⟨T, ρ, env, vh, Rl, q⟩
  refine ⟨T, ρ, env, vh, Rl, m _ _ _ _ (fun ds e1 h1 ⟨items, ei, k⟩ ρ' vs H' mv R' hv => ?_) q⟩
  obtain ⟨i, j, rfl, hc, rfl⟩ := items_rng2 ei
  obtain ⟨v, r, rfl, h1, h2⟩ := hv
  obtain ⟨w, r, rfl, h3, h4⟩ := h2
  cases (show r = [] from h4)
  cases (show v = .int i from h1)
  cases (show w = .int j from h3)
  exact ⟨i, j, rfl, hc, k ρ' H' _ mv R' (wk_range fun i => rfl)⟩
theorem items_rng3 {ds items : List D} (h : itemsD .rng3 ds = some items) : ∃ a b : Int, ds = [.int a, .int b, .int (-1)] ∧ (-(2 ^ 62) ≤ a ∧ a < 2 ^ 62 ∧ -(2 ^ 62) ≤ b ∧ b < 2 ^ 62) ∧ items = (List.range (a - b).toNat).map fun (i : Nat) => D.int (a - (i : Int)) := by
  match ds, h with
  | [.int a, .int b, .int c], h =>
    have h : (if c = -1 ∧ -(2 ^ 62) ≤ a ∧ a < 2 ^ 62 ∧ -(2 ^ 62) ≤ b ∧ b < 2 ^ 62 then some ((List.range (a - b).toNat).map fun (i : Nat) => D.int (a - (i : Int))) else none) = some items := h
    split at h
    · rename_i hc
      cases h
      obtain ⟨rfl, hc⟩ := hc
      exact ⟨a, b, rfl, hc, rfl⟩
    · cases h
theorem wk_rangeC {lo c : Int} {n : Nat} {Z0 : Addr → Prop} {ρ0 : List Addr} {H0 : Hp} {f : Nat → D} (hf : ∀ i : Nat, f i = .int (lo + (i : Nat) * c)) : Wk G (Itc lo c n) Z0 ρ0 H0 ((List.range n).map f) where
  go := fun i Z ρ H m hi => by
    rw [List.length_map, List.length_range] at hi
    exact hi
  stop := fun Z ρ H m => by simp [Itc]
  yld := fun i Z ρ H x H' m hi y => by
    obtain ⟨e, y⟩ := y
    subst e y
    simp at hi
    exact ⟨f i, by simp [hi], Same.refl _, by rw [hf]; rfl⟩
theorem ri_rng3 {tg a b c : Expr} {p pos : Pos} {ws : VE → VH → (List D → VE → VH → Prop) → Prop} (m : ∀ env vh (Q Q' : List D → VE → VH → Prop), (∀ x e h, Q x e h → Q' x e h) → ws env vh Q → ws env vh Q') (ha : PA X [a, b, c] (tL G B ws))
    (hg : Gl X "range") (hm : X.mg "range" = none) (hs : starEach [a, b, c] X.env = (false, eval a X.env) :: starEach [b, c] X.env) (hpl : (backTo pos (starEach [b, c] X.env)).any (·.1) = false) :
    PI X tg (.Call (.Name "range" p) [a, b, c] [] pos) (iD G B fun env vh Q => ws env vh fun ds e1 h1 => ∃ items, itemsD .rng3 ds = some items ∧ Q items e1 h1) := by
  refine pi_imp (pi_range3 hg hm ha hs hpl) ?_
  rintro σ H R ⟨T, ρ, env, vh, Rl, q⟩
  refine ⟨T, ρ, env, vh, Rl, m _ _ _ _ (fun ds e1 h1 ⟨items, ei, k⟩ ρ' vs H' mv R' hv => ?_) q⟩
  obtain ⟨i, j, rfl, hc, rfl⟩ := items_rng3 ei
  obtain ⟨v, r, rfl, h1, h2⟩ := hv
  obtain ⟨w, r, rfl, h3, h4⟩ := h2
  obtain ⟨u, r, rfl, h5, h6⟩ := h4
  cases (show r = [] from h6)
  cases (show v = .int i from h1)
  cases (show w = .int j from h3)
  cases (show u = .int (-1) from h5)
  exact ⟨i, j, -1, _, rfl, RgC.neg hc.1 hc.2.1 hc.2.2.1 hc.2.2.2, k ρ' H' _ mv R' (wk_rangeC fun i => by rw [Int.mul_neg, Int.mul_one]; rfl)⟩
/-! zip, enumerate -/
theorem rd_pair {Z : Addr → Prop} {ρ : List Addr} {H : Hp} {t : Addr} {x y : V} {dx dy : D} (ht : H t = none) (hx : RD G Z ρ H dx x) (hy : RD G Z ρ H dy y) : Same H (upd H t (.tup [x, y])) ∧ RD G Z ρ (upd H t (.tup [x, y])) (.tup [dx, dy]) (.ref t) := by
  have s := same_new (o := .tup [x, y]) ht
  exact ⟨s, t, [x, y], rfl, .inl (.inl upd_same), x, [y], rfl, RD.move (Mv.same s) _ _ hx, y, [], rfl, RD.move (Mv.same s) _ _ hy, rfl⟩
theorem RDs.zip {Z : Addr → Prop} {ρ : List Addr} {H : Hp} {i : Nat} {xs ys : List D} {vs ws : List V} {x y : V} (h1 : RDs G Z ρ H xs vs) (h2 : RDs G Z ρ H ys ws) (e1 : vs[i]? = some x) (e2 : ws[i]? = some y) :
    ∃ dx dy, (List.zipWith (fun x y => D.tup [x, y]) xs ys)[i]? = some (.tup [dx, dy]) ∧ RD G Z ρ H dx x ∧ RD G Z ρ H dy y := by
  obtain ⟨dx, q1, r1⟩ := h1.getV e1
  obtain ⟨dy, q2, r2⟩ := h2.getV e2
  exact ⟨dx, dy, by rw [List.getElem?_zipWith, q1, q2], r1, r2⟩
theorem wk_zipL {a b : Addr} {vs ws : List V} {xs ys : List D} {Z0 : Addr → Prop} {ρ0 : List Addr} {H0 : Hp} (hq : ∀ Z ρ H, Mv Z0 ρ0 H0 Z ρ H → SqL G.K H a vs) (hq2 : ∀ Z ρ H, Mv Z0 ρ0 H0 Z ρ H → SqL G.K H b ws) (h : RDs G Z0 ρ0 H0 xs vs) (h2 : RDs G Z0 ρ0 H0 ys ws) :
    Wk G (Itz G.K a b) Z0 ρ0 H0 (List.zipWith (fun x y => D.tup [x, y]) xs ys) where
  go := fun i Z ρ H m hi => by
    rw [List.length_zipWith, h.length, h2.length] at hi
    exact ⟨vs, ws, vs[i]'(by omega), ws[i]'(by omega), hq Z ρ H m, hq2 Z ρ H m, by simp, by simp⟩
  stop := fun Z ρ H m => ⟨vs, ws, hq Z ρ H m, hq2 Z ρ H m, by rw [List.length_zipWith, h.length, h2.length]; omega⟩
  yld := fun i Z ρ H v H' m hi y => by
    obtain ⟨t, x, y, rfl, ht, rfl, hx, hy⟩ := y
    obtain ⟨dx, dy, e, r1, r2⟩ := (RDs.move m _ _ h).zip (RDs.move m _ _ h2) (hx vs (hq Z ρ H m)) (hy ws (hq2 Z ρ H m))
    obtain ⟨s, r⟩ := rd_pair ht r1 r2
    exact ⟨_, e, s, r⟩
theorem wk_zipT {a b : Addr} {vs ws : List V} {xs ys : List D} {Z0 : Addr → Prop} {ρ0 : List Addr} {H0 : Hp} (hq : SqT G.K H0 a vs) (hq2 : SqT G.K H0 b ws) (h : RDs G Z0 ρ0 H0 xs vs) (h2 : RDs G Z0 ρ0 H0 ys ws) :
    Wk G (RZ.ItzT G.K a b) Z0 ρ0 H0 (List.zipWith (fun x y => D.tup [x, y]) xs ys) where
  go := fun i Z ρ H m hi => by
    rw [List.length_zipWith, h.length, h2.length] at hi
    exact ⟨vs, ws, vs[i]'(by omega), ws[i]'(by omega), m.sqt hq, m.sqt hq2, by simp, by simp⟩
  stop := fun Z ρ H m => ⟨vs, ws, m.sqt hq, m.sqt hq2, by rw [List.length_zipWith, h.length, h2.length]; omega⟩
  yld := fun i Z ρ H v H' m hi y => by
    obtain ⟨t, x, y, rfl, ht, rfl, hx, hy⟩ := y
    obtain ⟨dx, dy, e, r1, r2⟩ := (RDs.move m _ _ h).zip (RDs.move m _ _ h2) (hx vs (m.sqt hq)) (hy ws (m.sqt hq2))
    obtain ⟨s, r⟩ := rd_pair ht r1 r2
    exact ⟨_, e, s, r⟩
theorem ri_zip (hK : X.K = G.K) {a b : Expr} {p pos tpos : Pos} {elts : List Expr} {kk : Nat} {ws : VE → VH → (List D → VE → VH → Prop) → Prop} (m : ∀ env vh (Q Q' : List D → VE → VH → Prop), (∀ x e h, Q x e h → Q' x e h) → ws env vh Q → ws env vh Q') (ha : PA X [a, b] (tL G B ws))
    (hg : Gl X "zip") (hm : X.mg "zip" = none) (hs : starEach [a, b] X.env = (false, eval a X.env) :: starEach [b] X.env) (hpl : (backTo pos (starEach [b] X.env)).any (·.1) = false) :
    PI X (.Tuple elts kk tpos) (.Call (.Name "zip" p) [a, b] [] pos) (iD G B fun env vh Q => ws env vh fun ds e1 h1 => ∃ items, itemsD .zip ds = some items ∧ Q items e1 h1) := by
  refine pi_imp (RZ.pi_zipA hg hm ha hs hpl) ?_
  rintro σ H R ⟨T, ρ, env, vh, Rl, q⟩
  refine ⟨T, ρ, env, vh, Rl, m _ _ _ _ (fun ds e1 h1 ⟨items, ei, k⟩ ρ' vs H' mv R' hv => ?_) q⟩
  match ds, ei, hv with
  | [.lst xs, .lst ys], ei, ⟨v, r, e1, ⟨a, us, e2, nz1, u1, u2⟩, w, r2, e3, ⟨b, ws, e4, nz2, u3, u4⟩, e5⟩ =>
    cases ei
    cases (show r2 = [] from e5)
    subst e4 e3 e2 e1
    refine ⟨a, b, us, ws, rfl, .inl ⟨.of u1, .of u3, ?_⟩⟩
    rw [hK]
    exact k ρ' H' _ mv R' (wk_zipL (fun Z ρ H m => .of (m.keep a _ nz1 u1).2) (fun Z ρ H m => .of (m.keep b _ nz2 u3).2) u2 u4)
  | [.tup xs, .tup ys], ei, ⟨v, r, e1, ⟨a, us, e2, u1, u2⟩, w, r2, e3, ⟨b, ws, e4, u3, u4⟩, e5⟩ =>
    cases ei
    cases (show r2 = [] from e5)
    subst e4 e3 e2 e1
    refine ⟨a, b, us, ws, rfl, .inr ⟨by rw [hK]; exact u1, by rw [hK]; exact u3, ?_⟩⟩
    rw [hK]
    exact k ρ' H' _ mv R' (wk_zipT u1 u3 u2 u4)
end
end R

namespace R
open PySem PySem.Spec PyProof.Rows L2
/-! ## R5c: list comprehensions -/
section
variable {X : Cx} {G : Wd} {B : Base} {T ρ : List Addr} {env : VE} {vh : VH} {σ : L2.St} {H : Hp} {D : Addr}
/-- the base of a turn: D the list that is made -/
def Base.wth (B : Base) (D : Addr) (T ρ : List Addr) (env : VE) (σ : L2.St) (H : Hp) : Base := ⟨fun a => B.F a ∨ a = D, MZ T ρ env σ, H, ρ⟩
theorem wthZ {T0 ρ0 : List Addr} {env0 : VE} {σ0 : L2.St} {H0 : Hp} : ZZ (B.wth D T0 ρ0 env0 σ0 H0).F T ρ env σ = ZZ B.F (D :: T) ρ env σ := funext fun a => propext ⟨fun z => (by
    rcases z with (z | z) | z | z
    · exact .inl z
    · exact .inr (.inl (by rw [show a = D from z]; exact List.mem_cons_self))
    · exact .inr (.inl (List.mem_cons_of_mem _ z))
    · exact .inr (.inr z)), fun z => (by
    rcases z with z | z | z
    · exact .inl (.inl z)
    · rcases List.mem_cons.mp z with e | z
      · exact .inl (.inr e)
      · exact .inr (.inl z)
    · exact .inr (.inr z))⟩
theorem mzCons {a : Addr} (z : MZ T ρ env σ a) : MZ (D :: T) ρ env σ a := z.imp (List.mem_cons_of_mem _) id
theorem Rel.notD (R : Rel G B (D :: T) ρ env vh σ H) : ¬ MZ T ρ env σ D := by
  rintro (z | z | ⟨i, z⟩)
  · exact (List.nodup_cons.mp R.tn).1 z
  · exact R.tr D List.mem_cons_self z
  · exact (R.ot i D z).1 List.mem_cons_self
theorem Rel.inD (R : Rel G B (D :: T) ρ env vh σ H) : Rel G (B.wth D T ρ env σ H) T ρ env vh σ H := by
  refine ⟨R.vl, R.rn, (List.nodup_cons.mp R.tn).2, fun a h => R.tr a (List.mem_cons_of_mem _ h), fun i a h => ⟨fun z => (R.ot i a h).1 (List.mem_cons_of_mem _ z), (R.ot i a h).2⟩, R.oi, fun a f z => ?_, fun a z => ?_, fun n o a h1 h2 => ?_, R.sl, fun i s h => ?_, fun _ _ h _ => h, fun _ _ h => h, fun _ z => .inl z, fun _ _ h => h⟩
  · rcases f with f | f
    · exact R.fm a f (mzCons z)
    · cases f
      exact R.notD z
  · rw [wthZ] at z
    exact R.tk a z
  · rw [wthZ]
    exact R.ob n o a h1 h2
  · rw [wthZ]
    exact R.st i s h
theorem Rel.outD {ρ' : List Addr} {env' : VE} {vh' : VH} {σ' : L2.St} {H' : Hp} (R : Rel G B (D :: T) ρ env vh σ H) (S : Rel G (B.wth D T ρ env σ H) T ρ' env' vh' σ' H') :
    Rel G B (D :: T) ρ' env' vh' σ' H' ∧ Mv (ZZ B.F (D :: T) ρ env σ) ρ H (ZZ B.F (D :: T) ρ' env' σ') ρ' H' ∧ H' D = H D := by
  have sD : ¬ MZ T ρ' env' σ' D := S.fm D (.inr rfl)
  have back : ∀ a, H a = none → B.mu a ∨ B.H0 a = none := fun a q => by
    by_cases hm : B.mu a
    · exact .inl hm
    · cases e : B.H0 a with
      | none => exact .inr rfl
      | some u =>
        have := R.kp a u e hm
        rw [q] at this
        cases this
  refine ⟨⟨S.vl, S.rn, List.nodup_cons.mpr ⟨(List.nodup_cons.mp R.tn).1, S.tn⟩, fun a h => ?_, fun i a h => ⟨fun z => ?_, (S.ot i a h).2⟩, S.oi, fun a f z => ?_, fun a z => ?_, fun n o a h1 h2 => ?_, S.sl, fun i s h => ?_, fun a u h nm => ?_, fun a xs h => S.tp a xs (R.tp a xs h), fun a z => ?_, fun n a h => S.pr n a (R.pr n a h)⟩, ⟨S.pr, fun a u nz h => ⟨fun z => ?_, ?_⟩, S.tp⟩, ?_⟩
  · rcases List.mem_cons.mp h with e | h
    · cases e
      exact fun z => sD (.inr (.inl z))
    · exact S.tr a h
  · rcases List.mem_cons.mp z with e | z
    · cases e
      exact sD (.inr (.inr ⟨i, h⟩))
    · exact (S.ot i a h).1 z
  · rcases z with z | z
    · rcases List.mem_cons.mp z with e | z
      · cases e
        exact R.fm D f (.inl List.mem_cons_self)
      · exact S.fm a (.inl f) (.inl z)
    · exact S.fm a (.inl f) (.inr z)
  · rw [← wthZ (T0 := T) (ρ0 := ρ) (env0 := env) (σ0 := σ) (H0 := H)] at z
    exact S.tk a z
  · rw [← wthZ (T0 := T) (ρ0 := ρ) (env0 := env) (σ0 := σ) (H0 := H)]
    exact S.ob n o a h1 h2
  · rw [← wthZ (T0 := T) (ρ0 := ρ) (env0 := env) (σ0 := σ) (H0 := H)]
    exact S.st i s h
  · exact S.kp a u (R.kp a u h nm) fun z => (R.zn a (mzCons z)).elim nm fun q => (by rw [h] at q; cases q)
  · rcases z with z | z
    · rcases List.mem_cons.mp z with e | z
      · cases e
        exact R.zn D (.inl List.mem_cons_self)
      · rcases S.zn a (.inl z) with q | q
        · exact R.zn a (mzCons q)
        · exact back a q
    · rcases S.zn a (.inr z) with q | q
      · exact R.zn a (mzCons q)
      · exact back a q
  · rw [← wthZ (T0 := T) (ρ0 := ρ) (env0 := env) (σ0 := σ) (H0 := H)] at z
    rcases z with (z | z) | z
    · exact nz (.inl z)
    · exact nz (.inr (.inl (by rw [show a = D from z]; exact List.mem_cons_self)))
    · rcases S.zn a z with q | q
      · exact nz (.inr (mzCons q))
      · have q : H a = none := q
        rw [h] at q
        cases q
  · exact S.kp a u h fun z => nz (.inr (mzCons z))
  · obtain ⟨u, hu, _⟩ := R.tk D (.inr (.inl List.mem_cons_self))
    exact (S.kp D u hu R.notD).trans hu.symm

/-! ### names forgotten and bound -/
theorem wipeE_length (env : VE) : ∀ is : List Nat, (wipeE env is).length = env.length
  | [] => rfl
  | i :: is => by unfold wipeE; rw [List.length_set, wipeE_length env is]
theorem wipeE_out {env : VE} {i : Nat} : ∀ {is : List Nat}, i ∉ is → (wipeE env is)[i]? = env[i]?
  | [], _ => rfl
  | j :: is, h => by
    unfold wipeE
    rw [List.getElem?_set_ne (fun e => h (by rw [← e]; exact List.mem_cons_self)), wipeE_out fun z => h (List.mem_cons_of_mem _ z)]
theorem wipeE_in {env : VE} {i : Nat} {s : Slot} : ∀ {is : List Nat}, i ∈ is → (wipeE env is)[i]? = some s → s = .no
  | j :: is, h, e => by
    unfold wipeE at e
    rcases set_getE e with ⟨_, e⟩ | ⟨ne, e⟩
    · exact e
    · exact wipeE_in ((List.mem_cons.mp h).resolve_left ne) e
theorem wipe_out {σ : L2.St} {i : Nat} : ∀ {is : List Nat}, i ∉ is → (wipe σ is)[i]? = σ[i]?
  | [], _ => rfl
  | j :: is, h => by
    unfold wipe
    rw [List.getElem?_set_ne (fun e => h (by rw [← e]; exact List.mem_cons_self)), wipe_out fun z => h (List.mem_cons_of_mem _ z)]
theorem wipe_in {σ : L2.St} {i : Nat} : ∀ {is : List Nat}, i ∈ is → i < σ.length → (wipe σ is)[i]? = some none
  | j :: is, h, hi => by
    unfold wipe
    by_cases e : j = i
    · subst e
      exact List.getElem?_set_self (by rw [wipe_length]; exact hi)
    · rw [List.getElem?_set_ne e]
      exact wipe_in ((List.mem_cons.mp h).resolve_left (Ne.symm e)) hi
theorem noOwn_in {env : VE} {i : Nat} {ds : List R.D} : ∀ {is : List Nat}, noOwn env is → i ∈ is → env[i]? ≠ some (.own ds)
  | j :: is, h, hi, e => by
    rcases List.mem_cons.mp hi with q | q
    · subst q
      have h1 := h.1
      rw [e] at h1
      exact h1
    · exact noOwn_in h.2 q e
/-- outside is, all is as it was; within, nothing is held alone -/
structure Cl (is : List Nat) (env : VE) (σ : L2.St) (env2 : VE) (σ2 : L2.St) : Prop where
  le : env2.length = env.length
  ls : σ2.length = σ.length
  out : ∀ i, i ∉ is → env2[i]? = env[i]? ∧ σ2[i]? = σ[i]?
  inn : ∀ i, i ∈ is → ∀ ds, env2[i]? ≠ some (.own ds)
theorem Set1.cl {is js : List Nat} {env0 env env2 : VE} {σ0 σ σ2 : L2.St} (h : Set1 is env σ env2 σ2) (s : ∀ i, i ∈ is → i ∈ js) : Cl js env0 σ0 env σ → Cl js env0 σ0 env2 σ2 := by
  induction h with
  | nil => exact id
  | @cons env env2 σ σ2 i is d v hi _ ih =>
    refine fun c => ih s ⟨by rw [List.length_set]; exact c.le, by rw [List.length_set]; exact c.ls, fun j hj => ?_, fun j hj ds e => ?_⟩
    · have ne : i ≠ j := fun e => hj (by rw [← e]; exact s i hi)
      rw [List.getElem?_set_ne ne, List.getElem?_set_ne ne]
      exact c.out j hj
    · rcases set_getE e with ⟨_, e⟩ | ⟨_, e⟩
      · cases e
      · exact c.inn j hj ds e
theorem wipe_cl {is : List Nat} : Cl is env σ (wipeE env is) (wipe σ is) :=
  ⟨wipeE_length _ _, wipe_length _ _, fun i hi => ⟨wipeE_out hi, wipe_out hi⟩, fun i hi ds e => by have := wipeE_in hi e; cases this⟩
theorem Cl.own {is : List Nat} {env2 : VE} {σ2 : L2.St} (c : Cl is env σ env2 σ2) (no : noOwn env is) {a : Addr} {i : Nat} : Own env2 σ2 a i ↔ Own env σ a i := by
  constructor
  · rintro ⟨ds, h1, h2⟩
    by_cases hi : i ∈ is
    · exact absurd h1 (c.inn i hi ds)
    · obtain ⟨q1, q2⟩ := c.out i hi
      exact ⟨ds, q1 ▸ h1, q2 ▸ h2⟩
  · rintro ⟨ds, h1, h2⟩
    by_cases hi : i ∈ is
    · exact absurd h1 (noOwn_in no hi)
    · obtain ⟨q1, q2⟩ := c.out i hi
      exact ⟨ds, q1.trans h1, q2.trans h2⟩
theorem Cl.zz {is : List Nat} {env2 : VE} {σ2 : L2.St} (c : Cl is env σ env2 σ2) (no : noOwn env is) {F : Addr → Prop} : ZZ F T ρ env2 σ2 = ZZ F T ρ env σ := funext fun a => propext
  ⟨fun z => z.imp id (Or.imp id (Or.imp id fun ⟨i, h⟩ => ⟨i, (c.own no).mp h⟩)), fun z => z.imp id (Or.imp id (Or.imp id fun ⟨i, h⟩ => ⟨i, (c.own no).mpr h⟩))⟩
theorem Cl.wipe {is : List Nat} {env2 : VE} {σ2 : L2.St} (c : Cl is env σ env2 σ2) : wipe σ2 is = wipe σ is := by
  apply List.ext_getElem?
  intro i
  by_cases hi : i ∈ is
  · by_cases hl : i < σ.length
    · rw [wipe_in hi hl, wipe_in hi (by rw [c.ls]; exact hl)]
    · rw [List.getElem?_eq_none (by rw [wipe_length, c.ls]; omega), List.getElem?_eq_none (by rw [wipe_length]; omega)]
  · rw [wipe_out hi, wipe_out hi, (c.out i hi).2]
theorem Rel.wipeR {is : List Nat} (R : Rel G B T ρ env vh σ H) : Rel G B T ρ (wipeE env is) vh (wipe σ is) H := by
  have hO : ∀ i a, Own (wipeE env is) (wipe σ is) a i → Own env σ a i := fun i a ⟨ds, h1, h2⟩ => by
    by_cases hi : i ∈ is
    · have := wipeE_in hi h1
      cases this
    · exact ⟨ds, (wipeE_out hi) ▸ h1, (wipe_out hi) ▸ h2⟩
  refine R.weak (fun _ h => h) R.tn (fun i a h => hO i a h) (by rw [wipeE_length, wipe_length]; exact R.sl) fun i s h => ?_
  by_cases hi : i ∈ is
  · cases wipeE_in hi h
    trivial
  · rw [wipe_out hi]
    rw [wipeE_out hi] at h
    exact (R.st i s h).move (Mv.less fun b z => z.imp id (Or.imp id (Or.imp id fun ⟨j, z⟩ => ⟨j, hO j b z⟩))) fun _ _ _ _ => rfl
/-- behind a turn -/
theorem Rel.unset {is : List Nat} {ρ' : List Addr} {env2 : VE} {vh' : VH} {σ2 : L2.St} {H' : Hp} (R : Rel G B T ρ env vh σ H) (c : Cl is env σ env2 σ2) (no : noOwn env is) (S : Rel G B T ρ' env2 vh' σ2 H')
    (m : Mv (ZZ B.F T ρ env σ) ρ H (ZZ B.F T ρ' env2 σ2) ρ' H') : Rel G B T ρ' env vh' σ H' := by
  refine S.weak (fun _ h => h) S.tn (fun i a h => (c.own no).mpr h) R.sl fun i s h => ?_
  rw [← c.zz no (T := T) (ρ := ρ') (F := B.F)]
  have q := R.st i s h
  cases s with
  | no => trivial
  | val d =>
    obtain ⟨v, h1, h2⟩ := q
    exact ⟨v, h1, RD.move m _ _ h2⟩
  | own ds =>
    have hi : i ∉ is := fun z => noOwn_in no z h
    obtain ⟨q1, q2⟩ := c.out i hi
    have z := S.st i _ (q1.trans h)
    rw [q2] at z
    exact z
theorem Rel.tmpUpd {u : HO} (R : Rel G B (D :: T) ρ env vh σ H) (mu : Mt u) : Rel G B (D :: T) ρ env vh σ (upd H D u) := by
  obtain ⟨o, e, mo⟩ := R.tk D (.inr (.inl List.mem_cons_self))
  refine R.write (.inl List.mem_cons_self) e mo mu rfl rfl (fun _ _ => Iff.rfl) (fun n o a h1 h2 => ⟨fun _ => h1, fun z => ?_⟩) (fun i s h => .inl ⟨h, fun ds es z => ?_⟩)
  · cases z
    exact absurd (List.mem_of_getElem? h2) (R.tr D List.mem_cons_self)
  · subst es
    exact (R.ot i D ⟨ds, h, z⟩).1 List.mem_cons_self

/-! ### the comprehension -/
def tW (G : Wd) (w : VE → VH → (Bool → VH → Prop) → Prop) : TT := fun σ H Q => ∃ B T ρ env vh, Rel G B T ρ env vh σ H ∧ w env vh fun b h1 => ∀ ρ' H', Mv (ZZ B.F T ρ env σ) ρ H (ZZ B.F T ρ' env σ) ρ' H' → Rel G B T ρ' env h1 σ H' → Q b H'
def tDx (G : Wd) (w : VE → VH → QE → Prop) : TE := fun σ H Q => ∃ B, tD G B w σ H Q
theorem pe_all {e : Expr} {w : VE → VH → QE → Prop} (h : ∀ B, PE X e (tD G B w)) : PE X e (tDx G w) := ⟨fun pins s σ H Q I ⟨B, z⟩ => (h B).run pins s σ H Q I z⟩
theorem pts_w0 : PTs X [] (tW G fun env vh Q => Q true vh) := ⟨fun pins s σ H Q I ⟨B, T, ρ, env, vh, R, z⟩ => pts_nil.run pins s σ H Q I (z ρ H Mv.refl R)⟩
theorem pts_w1 {c : Expr} {w : VE → VH → QE → Prop} (mono : ∀ env vh (Q Q' : QE), (∀ x e h, Q x e h → Q' x e h) → w env vh Q → w env vh Q') (h : ∀ B, PT X c (tB G B w)) :
    PTs X [c] (tW G fun env vh Q => w env vh fun x e1 h1 => e1 = env ∧ ∃ k, x = .v (.bl k) ∧ Q k h1) := ⟨fun pins s σ H Q I ⟨B, T, ρ, env, vh, R, z⟩ => (pts_one (h B)).run pins s σ H Q I ⟨T, ρ, env, vh, R, mono _ _ _ _ (fun x e1 h1 ⟨ee, k, ex, y⟩ => ⟨k, ex, fun ρ' H' m R' => by
  subst ee
  exact y ρ' H' m R'⟩) z⟩⟩

theorem lc_sound {own : List (Str × Nat)} {tgI : Tg} {wi : VE → VH → (List R.D → VE → VH → Prop) → Prop} {wt : VE → VH → (Bool → VH → Prop) → Prop} {we : VE → VH → QE → Prop}
    (mi : ∀ env vh (Q Q' : List R.D → VE → VH → Prop), (∀ x e h, Q x e h → Q' x e h) → wi env vh Q → wi env vh Q') (mt : ∀ env vh (Q Q' : Bool → VH → Prop), (∀ x h, Q x h → Q' x h) → wt env vh Q → wt env vh Q') (me : ∀ env vh (Q Q' : QE), (∀ x e h, Q x e h → Q' x e h) → we env vh Q → we env vh Q')
    (hsub : ∀ i, i ∈ tgIx tgI → i ∈ own.map (·.2)) :
    ∀ σ H Q, tD G B (fun env vh Q => wi env vh fun items e1 h1 => noOwn e1 (own.map (·.2)) ∧ lcGo (fun d h R => ∃ e2, bindT tgI d (wipeE e1 (own.map (·.2))) = some e2 ∧ wt e2 h fun b h3 => ifP b (we e2 h3 fun x e4 h4 => e4 = e2 ∧ R (some x.d) h4) (R none h3)) items h1 [] fun acc h2 => Q (.fr acc) e1 h2) σ H Q →
      tLc (iD G B wi) (gOf G.K tgI) (tW G wt) (tDx G we) (own.map (·.2)) σ H Q := by
  generalize own.map (·.2) = is at hsub ⊢
  rintro σ H Q ⟨T, ρ, env, vh, R0, w⟩
  refine ⟨T, ρ, env, vh, R0, mi _ _ _ _ (fun items e1 h1 ⟨no, go⟩ ρ1 H1 J m1 R1 wk => ?_) w⟩
  intro D hD
  generalize hQQ : (fun (acc : List R.D) (h2 : VH) => ∀ (ρ' : List Addr) (v : V) (H' : Hp), Res G B T ρ env σ H (.fr acc) v ρ' e1 h2 H' → Q v H') = QQ at go
  generalize hturn : (fun (d : R.D) (h : VH) (R : Option R.D → VH → Prop) => ∃ e2, bindT tgI d (wipeE e1 is) = some e2 ∧ wt e2 h fun b h3 => ifP b (we e2 h3 fun x e4 h4 => e4 = e2 ∧ R (some x.d) h4) (R none h3)) = turn at go
  have hm0 : Mv (ZZ B.F T ρ1 e1 σ) ρ1 H1 (ZZ B.F (D :: T) ρ1 e1 σ) ρ1 (upd H1 D (.lst [])) := Mv.fresh (same_new hD) fun b z => by
      rcases z with z | z | z
      · exact .inl (.inl z)
      · rcases List.mem_cons.mp z with e | z
        · exact .inr (by rw [e]; exact hD)
        · exact .inl (.inr (.inl z))
      · exact .inl (.inr (.inr z))
  let Pv : Nat → Hp → Prop := fun i H => ∃ ρ' h vs acc, H D = some (.lst vs) ∧ RDs G (ZZ B.F (D :: T) ρ' e1 σ) ρ' H acc vs ∧ Rel G B (D :: T) ρ' e1 h σ H ∧ Mv (ZZ B.F T ρ1 e1 σ) ρ1 H1 (ZZ B.F (D :: T) ρ' e1 σ) ρ' H ∧ lcGo turn (items.drop i) h acc QQ
  refine ⟨fun i m H => m = items.length - i ∧ i ≤ items.length ∧ Pv i H, ⟨items.length, by simp, Nat.zero_le _, ρ1, h1, [], [], upd_same, rfl, R1.tmp hD trivial, hm0, go⟩, ?_⟩
  rintro i m H2 ⟨rfl, hil, ρ', h, vs, acc, hD', hacc, R', m', go'⟩
  by_cases hlt : i < items.length
  · refine .inr ⟨wk.go i _ ρ' H2 m' hlt, Pv (i + 1), fun H' p' => ⟨items.length - (i + 1), by omega, rfl, hlt, p'⟩, fun x H3 y => ?_⟩
    obtain ⟨d, hd, sm, hx⟩ := wk.yld i _ ρ' H2 x H3 m' hlt y
    have hdrop : items.drop i = d :: items.drop (i + 1) := by
      rw [List.drop_eq_getElem_cons hlt]
      rw [List.getElem?_eq_getElem hlt] at hd
      rw [Option.some.inj hd]
    rw [hdrop] at go'
    subst hturn
    obtain ⟨e2, hb, tw⟩ := go'
    have Rg := R'.grow sm
    have mg : Mv (ZZ B.F (D :: T) ρ' e1 σ) ρ' H2 (ZZ B.F (D :: T) ρ' e1 σ) ρ' H3 := Mv.same sm
    have Ri := Rg.inD
    have Rw := Ri.wipeR (is := is)
    have hx2 : RD G (ZZ (B.wth D T ρ' e1 σ H3).F T ρ' (wipeE e1 is) (L2.wipe σ is)) ρ' H3 d x := by
      rw [wipe_cl.zz no, wthZ]
      exact hx
    refine bind_ok Rw hx2 hb fun σ2 R4 s2 m4 => ?_
    have c : Cl is e1 σ e2 σ2 := s2.cl hsub wipe_cl
    have m4' : Mv (ZZ (B.wth D T ρ' e1 σ H3).F T ρ' e1 σ) ρ' H3 (ZZ (B.wth D T ρ' e1 σ H3).F T ρ' e2 σ2) ρ' H3 := by
      rw [wipe_cl.zz no] at m4
      exact m4
    refine ⟨c.wipe, ⟨_, T, ρ', e2, h, R4, mt _ _ _ _ (fun b h3 z ρ3 H4 m5 R5 => ?_) tw⟩⟩
    cases b with
    | false =>
      refine L2.iteF ?_
      obtain ⟨S, mm, eD⟩ := Rg.outD (Ri.unset c no R5 (m4'.trans m5))
      have mm2 := mg.trans mm
      exact ⟨ρ3, h3, vs, acc, eD.trans (sm _ _ hD'), RDs.move mm2 _ _ hacc, S, m'.trans mm2, z⟩
    | true =>
      refine L2.iteT ⟨_, T, ρ3, e2, h3, R5, me _ _ _ _ (fun y e4 h4 ⟨ee, zq⟩ ρ6 v H6 r => ?_) z⟩
      subst ee
      obtain ⟨m6, R6, hv⟩ := r.d
      obtain ⟨S, mm, eD⟩ := Rg.outD (Ri.unset c no R6 ((m4'.trans m5).trans m6))
      have mm2 := mg.trans mm
      have hv2 : RD G (ZZ B.F (D :: T) ρ6 e1 σ) ρ6 H6 y.d v := by
        rw [c.zz no, wthZ] at hv
        exact hv
      have eD2 : H6 D = some (.lst vs) := eD.trans (sm _ _ hD')
      have hz : D ∈ D :: T := List.mem_cons_self
      have mu : Mv (ZZ B.F (D :: T) ρ6 e1 σ) ρ6 H6 (ZZ B.F (D :: T) ρ6 e1 σ) ρ6 (upd H6 D (.lst (vs ++ [v]))) := Mv.upd (.inr (.inl hz)) eD2 trivial
      refine ⟨vs, eD2, ?_, ρ6, h4, vs ++ [v], acc ++ [y.d], upd_same, ?_, S.tmpUpd trivial, (m'.trans mm2).trans mu, zq.2⟩
      · rw [sizeLine_eq, ← hacc.length]
        exact zq.1
      · exact RDs.append (RDs.move (mm2.trans mu) _ _ hacc) (.one (RD.move mu _ _ hv2))
  · have e : i = items.length := by omega
    subst e
    refine .inl ⟨wk.stop _ ρ' H2 m', ?_⟩
    subst hQQ
    rw [List.drop_length] at go'
    exact go' ρ' (.ref D) H2 ⟨D, vs, rfl, hD', m1.trans m', R', hacc⟩
theorem re_lc {K : XP} {Φ : Fns} {Γ : Cns} {fs : List Str} (o : XOk X G B K Φ Γ fs) {elt tg iter : Expr} {ifs : List Expr} {scope : Scope} {own : List (Str × Nat)} {pos : Pos} {tgI : Tg} {wi : VE → VH → (List R.D → VE → VH → Prop) → Prop} {wt : VE → VH → (Bool → VH → Prop) → Prop} {we : VE → VH → QE → Prop}
    (mi : ∀ env vh (Q Q' : List R.D → VE → VH → Prop), (∀ x e h, Q x e h → Q' x e h) → wi env vh Q → wi env vh Q') (mt : ∀ env vh (Q Q' : Bool → VH → Prop), (∀ x h, Q x h → Q' x h) → wt env vh Q → wt env vh Q') (me : ∀ env vh (Q Q' : QE), (∀ x e h, Q x e h → Q' x e h) → we env vh Q → we env vh Q')
    (hi : PI X tg iter (iD G B wi)) (ok : BlkOk X.N X.env.scope scope own)
    (hg : ∀ (s : Shared) (H : Hp) (C : Addr) (cl : List (Str × Addr)) (fp : List Addr), PG (X.blk s H scope (compEnvC scope cl C X.env) fp) tg (gOf G.K tgI)) (ht : ∀ (s : Shared) (H : Hp) (C : Addr) (cl : List (Str × Addr)) (fp : List Addr), PTs (X.blk s H scope (compEnvC scope cl C X.env) fp) ifs (tW G wt))
    (he : ∀ (s : Shared) (H : Hp) (C : Addr) (cl : List (Str × Addr)) (fp : List Addr), PE (X.blk s H scope (compEnvC scope cl C X.env) fp) elt (tDx G we)) (hs : ∀ x, foldedSetIterable iter X.env x = pure x) (hsub : ∀ i, i ∈ tgIx tgI → i ∈ own.map (·.2)) :
    PE X (.ListComp elt [⟨tg, iter, ifs, 0⟩] scope pos) (tD G B (fun env vh Q => wi env vh fun items e1 h1 => noOwn e1 (own.map (·.2)) ∧ lcGo (fun d h R => ∃ e2, bindT tgI d (wipeE e1 (own.map (·.2))) = some e2 ∧ wt e2 h fun b h3 => ifP b (we e2 h3 fun x e4 h4 => e4 = e2 ∧ R (some x.d) h4) (R none h3)) items h1 [] fun acc h2 => Q (.fr acc) e1 h2)) :=
  (pe_lc o.calm o.nd hi ok hg ht he hs).imp (lc_sound mi mt me hsub)
end
end R

namespace R
open PySem PySem.Spec PyProof.Rows L2
/-! ## RS: statements and what they come to -/
inductive S where
  | pass | brk | cont | retN
  | set (i : Nat) (e : E) | setO (i : Nat) (e : E) | setS (i : Nat) (e : E)
  | par (i j : Nat) (a b : E)
  | unp (is : List Nat) (e : E)
  | aug (i : Nat) (op : Operator) (e : E)
  | sidx (o i e : E)
  | app (o e : E)
  | ret (e : E) | retO (i : Nat) | expr (e : E)
  | cond (c : E) (a b : List S)
  | forS (tg : Tg) (k : Ik) (es : List E) (body : List S)
  | whl (c : E) (body : List S)
  | never

structure VEnds where
  nx : VE → VH → Prop
  rt : DV → VH → Prop
  bk : VE → VH → Prop
  ct : VE → VH → Prop

def wpAug (op : Operator) (c d : D) (Q : D → Prop) : Prop := match op, c, d with
  | .Add, .int i, .int j => Q (.int (i + j))
  | .Sub, .int i, .int j => Q (.int (i - j))
  | _, _, _ => False
/-- o[k] = x -/
def setSh (n : Nat) (k x : D) (vh : VH) (Q : VH → Prop) : Prop := match vh[n]?, k with
  | some (.lst xs), .int j => ∃ m, ixN xs.length j = some m ∧ Q (vh.set n (.lst (xs.set m x)))
  | _, _ => False
def wpSet (o : Op) (k x : D) (env : VE) (vh : VH) (Q : VE → VH → Prop) : Prop := match o with
  | .dat (.ref n) => setSh n k x vh (Q env)
  | .dat _ => False
  | .slt i => match env[i]?, k with
    | some (.val (.ref n)), _ => setSh n k x vh (Q env)
    | some (.own xs), .int j => ∃ m, ixN xs.length j = some m ∧ Q (env.set i (.own (xs.set m x))) vh
    | _, _ => False
/-- o is a list that may be written -/
def isLs (o : Op) (env : VE) (vh : VH) : Prop := match o with
  | .dat (.ref n) => ∃ xs, vh[n]? = some (.lst xs)
  | .dat _ => False
  | .slt i => match env[i]? with
    | some (.val (.ref n)) => ∃ xs, vh[n]? = some (.lst xs)
    | some (.own xs) => True
    | _ => False
/-- o.append(x) -/
def appSh (n : Nat) (x : D) (vh : VH) (Q : VH → Prop) : Prop := match vh[n]? with
  | some (.lst xs) => xs.length < 16777216 ∧ Q (vh.set n (.lst (xs ++ [x])))
  | _ => False
def wpApp (o : Op) (x : D) (env : VE) (vh : VH) (Q : VE → VH → Prop) : Prop := match o with
  | .dat (.ref n) => appSh n x vh (Q env)
  | .dat _ => False
  | .slt i => match env[i]? with
    | some (.val (.ref n)) => appSh n x vh (Q env)
    | some (.own xs) => xs.length < 16777216 ∧ Q (env.set i (.own (xs ++ [x]))) vh
    | _ => False
def forGo (turn : D → (VE → VH → Prop) → VE → VH → Prop) : List D → VE → VH → (VE → VH → Prop) → Prop
  | [], env, vh, Q => Q env vh
  | d :: ds, env, vh, Q => turn d (fun e h => forGo turn ds e h Q) env vh

mutual
def wpS (Φ : Fns) (Γ : Cns) : S → XP → VEnds → VE → VH → Prop
  | .pass, K, V, env, vh => V.nx env vh
  | .brk, K, V, env, vh => V.bk env vh
  | .cont, K, V, env, vh => V.ct env vh
  | .retN, K, V, env, vh => V.rt (.v .non) vh
  | .set i e, K, V, env, vh => wpE Φ Γ e K false env vh fun x e1 h1 => V.nx (e1.set i (.val x.d)) h1
  | .setO i e, K, V, env, vh => wpE Φ Γ e K false env vh fun x e1 h1 => match x with
    | .fr ds => V.nx (e1.set i (.own ds)) h1
    | .v _ => False
  | .setS i e, K, V, env, vh => wpE Φ Γ e K false env vh fun x e1 h1 => match x with
    | .fr ds => V.nx (e1.set i (.val (.ref h1.length))) (h1 ++ [.lst ds])
    | .v _ => False
  | .par i j a b, K, V, env, vh => wpEs Φ Γ [a, b] K env vh fun ds e1 h1 => match ds with
    | [x, y] => V.nx ((e1.set i (.val x)).set j (.val y)) h1
    | _ => False
  | .unp is e, K, V, env, vh => wpE Φ Γ e K false env vh fun x e1 h1 => ∃ e2, bindT (.many is) x.d e1 = some e2 ∧ V.nx e2 h1
  | .aug i op e, K, V, env, vh => match env[i]? with
    | some (.val c) => wpE Φ Γ e K false env vh fun y e1 h1 => wpAug op c y.d fun z => V.nx (e1.set i (.val z)) h1
    | _ => False
  | .sidx o i e, K, V, env, vh => wpE Φ Γ e K false env vh fun x e1 h1 => asO o (wpE Φ Γ o) K e1 h1 fun oo e2 h2 => wpE Φ Γ i K false e2 h2 fun ix e3 h3 => wpSet oo ix.d x.d e3 h3 V.nx
  | .app o e, K, V, env, vh => asO o (wpE Φ Γ o) K env vh fun oo e1 h1 => isLs oo e1 h1 ∧ wpE Φ Γ e K false e1 h1 fun x e2 h2 => wpApp oo x.d e2 h2 V.nx
  | .ret e, K, V, env, vh => wpE Φ Γ e K false env vh fun x e1 h1 => V.rt x h1
  | .retO i, K, V, env, vh => match env[i]? with
    | some (.own ds) => V.rt (.fr ds) vh
    | _ => False
  | .expr e, K, V, env, vh => wpE Φ Γ e K false env vh fun x e1 h1 => V.nx e1 h1
  | .cond c a b, K, V, env, vh => wpE Φ Γ c K true env vh fun x e1 h1 => match x with
    | .v (.bl k) => ifP k (wpB Φ Γ a K V e1 h1) (wpB Φ Γ b K V e1 h1)
    | _ => False
  | .forS tg k es body, K, V, env, vh => wpEs Φ Γ es K env vh fun ds e1 h1 => ∃ items, itemsD k ds = some items ∧
      forGo (fun d N e h => ∃ e2, bindT tg d e = some e2 ∧ wpB Φ Γ body K { V with nx := N, ct := N, bk := V.nx } e2 h) items e1 h1 V.nx
  | .whl c body, K, V, env, vh => ∃ I : Nat → VE → VH → Prop, (∃ n, I n env vh) ∧ ∀ n env vh, I n env vh → wpE Φ Γ c K true env vh fun x e1 h1 => match x with
    | .v (.bl k) => ifP k (wpB Φ Γ body K { V with nx := fun e h => ∃ m, m < n ∧ I m e h, ct := fun e h => ∃ m, m < n ∧ I m e h, bk := V.nx } e1 h1) (V.nx e1 h1)
    | _ => False
  | .never, K, V, env, vh => False
def wpB (Φ : Fns) (Γ : Cns) : List S → XP → VEnds → VE → VH → Prop
  | [], K, V, env, vh => V.nx env vh
  | s :: ss, K, V, env, vh => wpS Φ Γ s K { V with nx := fun e h => wpB Φ Γ ss K V e h } env vh
end
end R

namespace R
open PySem PySem.Spec PyProof.Rows L2
/-! ## REq: one text of the small language, or another -/
mutual
def eqE : E → E → Bool
  | .non, .non => true
  | .bl a0, .bl b0 => decide (a0 = b0)
  | .int a0, .int b0 => decide (a0 = b0)
  | .str a0, .str b0 => decide (a0 = b0)
  | .var a0, .var b0 => decide (a0 = b0)
  | .bor a0, .bor b0 => decide (a0 = b0)
  | .glo a0, .glo b0 => decide (a0 = b0)
  | .skip, .skip => true
  | .tup a0, .tup b0 => eqEs a0 b0
  | .lst a0, .lst b0 => eqEs a0 b0
  | .bin a0 a1 a2, .bin b0 b1 b2 => decide (a0 = b0) && eqE a1 b1 && eqE a2 b2
  | .neg a0, .neg b0 => eqE a0 b0
  | .cmp a0 a1 a2, .cmp b0 b1 b2 => decide (a0 = b0) && eqE a1 b1 && eqE a2 b2
  | .chain a0 a1 a2 a3 a4, .chain b0 b1 b2 b3 b4 => decide (a0 = b0) && decide (a1 = b1) && eqE a2 b2 && eqE a3 b3 && eqE a4 b4
  | .and a0 a1, .and b0 b1 => eqE a0 b0 && eqE a1 b1
  | .or a0 a1, .or b0 b1 => eqE a0 b0 && eqE a1 b1
  | .not a0, .not b0 => eqE a0 b0
  | .ite a0 a1 a2, .ite b0 b1 b2 => eqE a0 b0 && eqE a1 b1 && eqE a2 b2
  | .idx a0 a1, .idx b0 b1 => eqE a0 b0 && eqE a1 b1
  | .sli a0 a1 a2, .sli b0 b1 b2 => eqE a0 b0 && eqE a1 b1 && eqE a2 b2
  | .call a0 a1, .call b0 b1 => decide (a0 = b0) && eqEs a1 b1
  | .blt a0 a1, .blt b0 b1 => decide (a0 = b0) && eqEs a1 b1
  | .isi a0 a1, .isi b0 b1 => eqE a0 b0 && decide (a1 = b1)
  | .lc a0 a1 a2 a3 a4 a5, .lc b0 b1 b2 b3 b4 b5 => eqE a0 b0 && decide (a1 = b1) && decide (a2 = b2) && decide (a3 = b3) && eqEs a4 b4 && eqEs a5 b5
  | _, _ => false
def eqEs : List E → List E → Bool
  | [], [] => true
  | x :: xs, y :: ys => eqE x y && eqEs xs ys
  | _, _ => false
end
mutual
def eqS : S → S → Bool
  | .pass, .pass => true
  | .brk, .brk => true
  | .cont, .cont => true
  | .retN, .retN => true
  | .set a0 a1, .set b0 b1 => decide (a0 = b0) && eqE a1 b1
  | .setO a0 a1, .setO b0 b1 => decide (a0 = b0) && eqE a1 b1
  | .setS a0 a1, .setS b0 b1 => decide (a0 = b0) && eqE a1 b1
  | .par a0 a1 a2 a3, .par b0 b1 b2 b3 => decide (a0 = b0) && decide (a1 = b1) && eqE a2 b2 && eqE a3 b3
  | .unp a0 a1, .unp b0 b1 => decide (a0 = b0) && eqE a1 b1
  | .aug a0 a1 a2, .aug b0 b1 b2 => decide (a0 = b0) && decide (a1 = b1) && eqE a2 b2
  | .sidx a0 a1 a2, .sidx b0 b1 b2 => eqE a0 b0 && eqE a1 b1 && eqE a2 b2
  | .app a0 a1, .app b0 b1 => eqE a0 b0 && eqE a1 b1
  | .ret a0, .ret b0 => eqE a0 b0
  | .retO a0, .retO b0 => decide (a0 = b0)
  | .expr a0, .expr b0 => eqE a0 b0
  | .cond a0 a1 a2, .cond b0 b1 b2 => eqE a0 b0 && eqSs a1 b1 && eqSs a2 b2
  | .forS a0 a1 a2 a3, .forS b0 b1 b2 b3 => decide (a0 = b0) && decide (a1 = b1) && eqEs a2 b2 && eqSs a3 b3
  | .whl a0 a1, .whl b0 b1 => eqE a0 b0 && eqSs a1 b1
  | .never, .never => true
  | _, _ => false
def eqSs : List S → List S → Bool
  | [], [] => true
  | x :: xs, y :: ys => eqS x y && eqSs xs ys
  | _, _ => false
end
mutual
theorem eqE_ok : ∀ (a b : E), eqE a b = true → a = b
  | .non, b, h => by
    cases b <;> first | rfl | cases h
  | .bl a0, b, h => by
    cases b with
    | bl b0 =>
      simp only [eqE, Bool.and_eq_true] at h
      have h0 := h
      have e0 := of_decide_eq_true h0
      rw [e0]
    | _ => cases h
  | .int a0, b, h => by
    cases b with
    | int b0 =>
      simp only [eqE, Bool.and_eq_true] at h
      have h0 := h
      have e0 := of_decide_eq_true h0
      rw [e0]
    | _ => cases h
  | .str a0, b, h => by
    cases b with
    | str b0 =>
      simp only [eqE, Bool.and_eq_true] at h
      have h0 := h
      have e0 := of_decide_eq_true h0
      rw [e0]
    | _ => cases h
  | .var a0, b, h => by
    cases b with
    | var b0 =>
      simp only [eqE, Bool.and_eq_true] at h
      have h0 := h
      have e0 := of_decide_eq_true h0
      rw [e0]
    | _ => cases h
  | .bor a0, b, h => by
    cases b with
    | bor b0 =>
      simp only [eqE, Bool.and_eq_true] at h
      have h0 := h
      have e0 := of_decide_eq_true h0
      rw [e0]
    | _ => cases h
  | .glo a0, b, h => by
    cases b with
    | glo b0 =>
      simp only [eqE, Bool.and_eq_true] at h
      have h0 := h
      have e0 := of_decide_eq_true h0
      rw [e0]
    | _ => cases h
  | .skip, b, h => by
    cases b <;> first | rfl | cases h
  | .tup a0, b, h => by
    cases b with
    | tup b0 =>
      simp only [eqE, Bool.and_eq_true] at h
      have h0 := h
      have e0 := eqEs_ok a0 b0 h0
      rw [e0]
    | _ => cases h
  | .lst a0, b, h => by
    cases b with
    | lst b0 =>
      simp only [eqE, Bool.and_eq_true] at h
      have h0 := h
      have e0 := eqEs_ok a0 b0 h0
      rw [e0]
    | _ => cases h
  | .bin a0 a1 a2, b, h => by
    cases b with
    | bin b0 b1 b2 =>
      simp only [eqE, Bool.and_eq_true] at h
      obtain ⟨⟨h0, h1⟩, h2⟩ := h
      have e0 := of_decide_eq_true h0
      have e1 := eqE_ok a1 b1 h1
      have e2 := eqE_ok a2 b2 h2
      rw [e0, e1, e2]
    | _ => cases h
  | .neg a0, b, h => by
    cases b with
    | neg b0 =>
      simp only [eqE, Bool.and_eq_true] at h
      have h0 := h
      have e0 := eqE_ok a0 b0 h0
      rw [e0]
    | _ => cases h
  | .cmp a0 a1 a2, b, h => by
    cases b with
    | cmp b0 b1 b2 =>
      simp only [eqE, Bool.and_eq_true] at h
      obtain ⟨⟨h0, h1⟩, h2⟩ := h
      have e0 := of_decide_eq_true h0
      have e1 := eqE_ok a1 b1 h1
      have e2 := eqE_ok a2 b2 h2
      rw [e0, e1, e2]
    | _ => cases h
  | .chain a0 a1 a2 a3 a4, b, h => by
    cases b with
    | chain b0 b1 b2 b3 b4 =>
      simp only [eqE, Bool.and_eq_true] at h
      obtain ⟨⟨⟨⟨h0, h1⟩, h2⟩, h3⟩, h4⟩ := h
      have e0 := of_decide_eq_true h0
      have e1 := of_decide_eq_true h1
      have e2 := eqE_ok a2 b2 h2
      have e3 := eqE_ok a3 b3 h3
      have e4 := eqE_ok a4 b4 h4
      rw [e0, e1, e2, e3, e4]
    | _ => cases h
  | .and a0 a1, b, h => by
    cases b with
    | and b0 b1 =>
      simp only [eqE, Bool.and_eq_true] at h
      obtain ⟨h0, h1⟩ := h
      have e0 := eqE_ok a0 b0 h0
      have e1 := eqE_ok a1 b1 h1
      rw [e0, e1]
    | _ => cases h
  | .or a0 a1, b, h => by
    cases b with
    | or b0 b1 =>
      simp only [eqE, Bool.and_eq_true] at h
      obtain ⟨h0, h1⟩ := h
      have e0 := eqE_ok a0 b0 h0
      have e1 := eqE_ok a1 b1 h1
      rw [e0, e1]
    | _ => cases h
  | .not a0, b, h => by
    cases b with
    | not b0 =>
      simp only [eqE, Bool.and_eq_true] at h
      have h0 := h
      have e0 := eqE_ok a0 b0 h0
      rw [e0]
    | _ => cases h
  | .ite a0 a1 a2, b, h => by
    cases b with
    | ite b0 b1 b2 =>
      simp only [eqE, Bool.and_eq_true] at h
      obtain ⟨⟨h0, h1⟩, h2⟩ := h
      have e0 := eqE_ok a0 b0 h0
      have e1 := eqE_ok a1 b1 h1
      have e2 := eqE_ok a2 b2 h2
      rw [e0, e1, e2]
    | _ => cases h
  | .idx a0 a1, b, h => by
    cases b with
    | idx b0 b1 =>
      simp only [eqE, Bool.and_eq_true] at h
      obtain ⟨h0, h1⟩ := h
      have e0 := eqE_ok a0 b0 h0
      have e1 := eqE_ok a1 b1 h1
      rw [e0, e1]
    | _ => cases h
  | .sli a0 a1 a2, b, h => by
    cases b with
    | sli b0 b1 b2 =>
      simp only [eqE, Bool.and_eq_true] at h
      obtain ⟨⟨h0, h1⟩, h2⟩ := h
      have e0 := eqE_ok a0 b0 h0
      have e1 := eqE_ok a1 b1 h1
      have e2 := eqE_ok a2 b2 h2
      rw [e0, e1, e2]
    | _ => cases h
  | .call a0 a1, b, h => by
    cases b with
    | call b0 b1 =>
      simp only [eqE, Bool.and_eq_true] at h
      obtain ⟨h0, h1⟩ := h
      have e0 := of_decide_eq_true h0
      have e1 := eqEs_ok a1 b1 h1
      rw [e0, e1]
    | _ => cases h
  | .blt a0 a1, b, h => by
    cases b with
    | blt b0 b1 =>
      simp only [eqE, Bool.and_eq_true] at h
      obtain ⟨h0, h1⟩ := h
      have e0 := of_decide_eq_true h0
      have e1 := eqEs_ok a1 b1 h1
      rw [e0, e1]
    | _ => cases h
  | .isi a0 a1, b, h => by
    cases b with
    | isi b0 b1 =>
      simp only [eqE, Bool.and_eq_true] at h
      obtain ⟨h0, h1⟩ := h
      have e0 := eqE_ok a0 b0 h0
      have e1 := of_decide_eq_true h1
      rw [e0, e1]
    | _ => cases h
  | .lc a0 a1 a2 a3 a4 a5, b, h => by
    cases b with
    | lc b0 b1 b2 b3 b4 b5 =>
      simp only [eqE, Bool.and_eq_true] at h
      obtain ⟨⟨⟨⟨⟨h0, h1⟩, h2⟩, h3⟩, h4⟩, h5⟩ := h
      have e0 := eqE_ok a0 b0 h0
      have e1 := of_decide_eq_true h1
      have e2 := of_decide_eq_true h2
      have e3 := of_decide_eq_true h3
      have e4 := eqEs_ok a4 b4 h4
      have e5 := eqEs_ok a5 b5 h5
      rw [e0, e1, e2, e3, e4, e5]
    | _ => cases h
theorem eqEs_ok : ∀ (a b : List E), eqEs a b = true → a = b
  | [], b, h => by
    cases b <;> first | rfl | cases h
  | x :: xs, b, h => by
    cases b with
    | nil => cases h
    | cons y ys =>
      simp only [eqEs, Bool.and_eq_true] at h
      rw [eqE_ok x y h.1, eqEs_ok xs ys h.2]
end
mutual
theorem eqS_ok : ∀ (a b : S), eqS a b = true → a = b
  | .pass, b, h => by
    cases b <;> first | rfl | cases h
  | .brk, b, h => by
    cases b <;> first | rfl | cases h
  | .cont, b, h => by
    cases b <;> first | rfl | cases h
  | .retN, b, h => by
    cases b <;> first | rfl | cases h
  | .set a0 a1, b, h => by
    cases b with
    | set b0 b1 =>
      simp only [eqS, Bool.and_eq_true] at h
      obtain ⟨h0, h1⟩ := h
      have e0 := of_decide_eq_true h0
      have e1 := eqE_ok a1 b1 h1
      rw [e0, e1]
    | _ => cases h
  | .setO a0 a1, b, h => by
    cases b with
    | setO b0 b1 =>
      simp only [eqS, Bool.and_eq_true] at h
      obtain ⟨h0, h1⟩ := h
      have e0 := of_decide_eq_true h0
      have e1 := eqE_ok a1 b1 h1
      rw [e0, e1]
    | _ => cases h
  | .setS a0 a1, b, h => by
    cases b with
    | setS b0 b1 =>
      simp only [eqS, Bool.and_eq_true] at h
      obtain ⟨h0, h1⟩ := h
      have e0 := of_decide_eq_true h0
      have e1 := eqE_ok a1 b1 h1
      rw [e0, e1]
    | _ => cases h
  | .par a0 a1 a2 a3, b, h => by
    cases b with
    | par b0 b1 b2 b3 =>
      simp only [eqS, Bool.and_eq_true] at h
      obtain ⟨⟨⟨h0, h1⟩, h2⟩, h3⟩ := h
      have e0 := of_decide_eq_true h0
      have e1 := of_decide_eq_true h1
      have e2 := eqE_ok a2 b2 h2
      have e3 := eqE_ok a3 b3 h3
      rw [e0, e1, e2, e3]
    | _ => cases h
  | .unp a0 a1, b, h => by
    cases b with
    | unp b0 b1 =>
      simp only [eqS, Bool.and_eq_true] at h
      obtain ⟨h0, h1⟩ := h
      have e0 := of_decide_eq_true h0
      have e1 := eqE_ok a1 b1 h1
      rw [e0, e1]
    | _ => cases h
  | .aug a0 a1 a2, b, h => by
    cases b with
    | aug b0 b1 b2 =>
      simp only [eqS, Bool.and_eq_true] at h
      obtain ⟨⟨h0, h1⟩, h2⟩ := h
      have e0 := of_decide_eq_true h0
      have e1 := of_decide_eq_true h1
      have e2 := eqE_ok a2 b2 h2
      rw [e0, e1, e2]
    | _ => cases h
  | .sidx a0 a1 a2, b, h => by
    cases b with
    | sidx b0 b1 b2 =>
      simp only [eqS, Bool.and_eq_true] at h
      obtain ⟨⟨h0, h1⟩, h2⟩ := h
      have e0 := eqE_ok a0 b0 h0
      have e1 := eqE_ok a1 b1 h1
      have e2 := eqE_ok a2 b2 h2
      rw [e0, e1, e2]
    | _ => cases h
  | .app a0 a1, b, h => by
    cases b with
    | app b0 b1 =>
      simp only [eqS, Bool.and_eq_true] at h
      obtain ⟨h0, h1⟩ := h
      have e0 := eqE_ok a0 b0 h0
      have e1 := eqE_ok a1 b1 h1
      rw [e0, e1]
    | _ => cases h
  | .ret a0, b, h => by
    cases b with
    | ret b0 =>
      simp only [eqS, Bool.and_eq_true] at h
      have h0 := h
      have e0 := eqE_ok a0 b0 h0
      rw [e0]
    | _ => cases h
  | .retO a0, b, h => by
    cases b with
    | retO b0 =>
      simp only [eqS, Bool.and_eq_true] at h
      have h0 := h
      have e0 := of_decide_eq_true h0
      rw [e0]
    | _ => cases h
  | .expr a0, b, h => by
    cases b with
    | expr b0 =>
      simp only [eqS, Bool.and_eq_true] at h
      have h0 := h
      have e0 := eqE_ok a0 b0 h0
      rw [e0]
    | _ => cases h
  | .cond a0 a1 a2, b, h => by
    cases b with
    | cond b0 b1 b2 =>
      simp only [eqS, Bool.and_eq_true] at h
      obtain ⟨⟨h0, h1⟩, h2⟩ := h
      have e0 := eqE_ok a0 b0 h0
      have e1 := eqSs_ok a1 b1 h1
      have e2 := eqSs_ok a2 b2 h2
      rw [e0, e1, e2]
    | _ => cases h
  | .forS a0 a1 a2 a3, b, h => by
    cases b with
    | forS b0 b1 b2 b3 =>
      simp only [eqS, Bool.and_eq_true] at h
      obtain ⟨⟨⟨h0, h1⟩, h2⟩, h3⟩ := h
      have e0 := of_decide_eq_true h0
      have e1 := of_decide_eq_true h1
      have e2 := eqEs_ok a2 b2 h2
      have e3 := eqSs_ok a3 b3 h3
      rw [e0, e1, e2, e3]
    | _ => cases h
  | .whl a0 a1, b, h => by
    cases b with
    | whl b0 b1 =>
      simp only [eqS, Bool.and_eq_true] at h
      obtain ⟨h0, h1⟩ := h
      have e0 := eqE_ok a0 b0 h0
      have e1 := eqSs_ok a1 b1 h1
      rw [e0, e1]
    | _ => cases h
  | .never, b, h => by
    cases b <;> first | rfl | cases h
theorem eqSs_ok : ∀ (a b : List S), eqSs a b = true → a = b
  | [], b, h => by
    cases b <;> first | rfl | cases h
  | x :: xs, b, h => by
    cases b with
    | nil => cases h
    | cons y ys =>
      simp only [eqSs, Bool.and_eq_true] at h
      rw [eqS_ok x y h.1, eqSs_ok xs ys h.2]
end
def eqO (a : Option (List S)) (b : List S) : Bool := match a with
  | some a => eqSs a b
  | none => false
theorem eqO_ok {a : Option (List S)} {b : List S} (h : eqO a b = true) : a = some b := by
  cases a with
  | none => cases h
  | some a => rw [eqSs_ok a b h]
end R

theorem _root_.L2.PS.imp {X : L2.Cx} {st : PySem.Stmt} {t t' : L2.TS} (h : L2.PS X st t) (f : ∀ D σ H, t' D σ H → t D σ H) : L2.PS X st t' := ⟨fun pins s σ H D I hw => h.run pins s σ H D I (f D σ H hw)⟩
theorem _root_.L2.PSs.imp {X : L2.Cx} {st : List PySem.Stmt} {t t' : L2.TS} (h : L2.PSs X st t) (f : ∀ D σ H, t' D σ H → t D σ H) : L2.PSs X st t' := ⟨fun pins s σ H D I hw => h.run pins s σ H D I (f D σ H hw)⟩
namespace R
open PySem PySem.Spec PyProof.Rows L2
/-! ## R6: rules for statements -/
/-- how the ends are met -/
structure VD (G : Wd) (B : Base) (V : VEnds) (D : Ends) : Prop where
  nx : ∀ ρ env vh σ H, Rel G B [] ρ env vh σ H → V.nx env vh → D.nx σ H
  rt : ∀ x v ρ vh H, ResF G B x v ρ vh H → V.rt x vh → D.rt v H
  bk : ∀ ρ env vh σ H, Rel G B [] ρ env vh σ H → V.bk env vh → D.bk σ H
  ct : ∀ ρ env vh σ H, Rel G B [] ρ env vh σ H → V.ct env vh → D.ct σ H
def tS (G : Wd) (B : Base) (w : VEnds → VE → VH → Prop) : TS := fun D σ H => ∃ ρ env vh V, Rel G B [] ρ env vh σ H ∧ VD G B V D ∧ w V env vh
/-- what a def's body is run in -/
structure SOk (X : Cx) (G : Wd) (B : Base) (K : XP) (Φ : Fns) (Γ : Cns) (fs : List Str) : Prop extends XOk X G B K Φ Γ fs where
  po : PassesOwn (model X.prog X.w) X.A X.env X.xe
  fnT : ∀ x, X.fn x = true
  stk : X.stack = X.env :: X.outer
  frm : X.env.frame = some X.env.locals
  exN : X.ex = []
section
variable {X : Cx} {G : Wd} {B : Base} {K : XP} {Φ : Fns} {Γ : Cns} {fs : List Str} {T ρ : List Addr} {env : VE} {vh : VH} {σ : L2.St} {H : Hp}
theorem SOk.now (o : SOk X G B K Φ Γ fs) (R : Rel G B T ρ env vh σ H) : SOk X G (B.now T ρ env σ H) K Φ Γ fs :=
  { o with tk := o.tk.imp fun cls d σ' H' ⟨c, C, xs, T', ρ', env', vh', h1, h2, S, x, k⟩ => ⟨c, C, xs, T', ρ', env', vh', h1, h2, R.unbase S, x, k⟩ }
theorem ResF.unbase {x : DV} {v : V} {ρ' : List Addr} {vh' : VH} {H' : Hp} (R : Rel G B T ρ env vh σ H) (r : ResF G (B.now T ρ env σ H) x v ρ' vh' H') : ResF G B x v ρ' vh' H' := by
  cases x with
  | v d => exact ⟨R.unbase r.1, r.2⟩
  | fr ds =>
    obtain ⟨a, vs, e, h, S, h2⟩ := r
    exact ⟨a, vs, e, h, R.unbase S, h2⟩
theorem Res.ret {x : DV} {v : V} {ρ' : List Addr} {env' : VE} {vh' : VH} {H' : Hp} (r : Res G B [] ρ env σ H x v ρ' env' vh' H') : ResF G B x v ρ' vh' H' := by
  cases x with
  | v d =>
    obtain ⟨m, S, h⟩ := r
    exact ⟨S.ret, Rel.ret_d h⟩
  | fr ds =>
    obtain ⟨a, vs, e, h, m, S, h2⟩ := r
    exact ⟨a, vs, e, h, S.ret, Rel.ret_ds h2⟩

theorem rs_nil : PSs X [] (tS G B fun V env vh => V.nx env vh) := pss_nil.imp fun D σ H ⟨ρ, env, vh, V, R, vd, w⟩ => vd.nx _ _ _ _ _ R w
theorem rs_cons {st : Stmt} {rest : List Stmt} {w1 w2 : VEnds → VE → VH → Prop} (h1 : PS X st (tS G B w1)) (h2 : PSs X rest (tS G B w2)) : PSs X (st :: rest) (tS G B fun V env vh => w1 { V with nx := fun e h => w2 V e h } env vh) :=
  (pss_cons h1 h2).imp fun D σ H ⟨ρ, env, vh, V, R, vd, w⟩ => ⟨ρ, env, vh, { V with nx := fun e h => w2 V e h }, R, ⟨fun ρ' env' vh' σ' H' R' z => ⟨ρ', env', vh', V, R', vd, z⟩, vd.rt, vd.bk, vd.ct⟩, w⟩
theorem rs_pass {pos : Pos} : PS X (.Pass pos) (tS G B fun V env vh => V.nx env vh) := ps_pass.imp fun D σ H ⟨ρ, env, vh, V, R, vd, w⟩ => vd.nx _ _ _ _ _ R w
theorem rs_doc {x j pos pos'} : PS X (.Expr (.Constant (.str x) j pos) pos') (tS G B fun V env vh => V.nx env vh) := ps_doc.imp fun D σ H ⟨ρ, env, vh, V, R, vd, w⟩ => vd.nx _ _ _ _ _ R w
theorem rs_break {pos : Pos} : PS X (.Break pos) (tS G B fun V env vh => V.bk env vh) := ps_break.imp fun D σ H ⟨ρ, env, vh, V, R, vd, w⟩ => vd.bk _ _ _ _ _ R w
theorem rs_cont {pos : Pos} : PS X (.Continue pos) (tS G B fun V env vh => V.ct env vh) := ps_continue.imp fun D σ H ⟨ρ, env, vh, V, R, vd, w⟩ => vd.ct _ _ _ _ _ R w
theorem rs_never {st : Stmt} : PS X st (tS G B fun V env vh => False) := ps_never.imp fun D σ H ⟨ρ, env, vh, V, R, vd, w⟩ => w.elim
theorem rs_retN {pos : Pos} : PS X (.Return none pos) (tS G B fun V env vh => V.rt (.v .non) vh) := ps_retN.imp fun D σ H ⟨ρ, env, vh, V, R, vd, w⟩ => vd.rt (.v .non) _ ρ _ _ ⟨R.ret, rfl⟩ w
theorem rs_ret {e : Expr} {pos : Pos} {we : VE → VH → QE → Prop} (me : ∀ env vh (Q Q' : QE), (∀ x e h, Q x e h → Q' x e h) → we env vh Q → we env vh Q') (h : PE X e (tD G B we)) :
    PS X (.Return (some e) pos) (tS G B fun V env vh => we env vh fun x e1 h1 => V.rt x h1) :=
  (ps_ret h).imp fun D σ H ⟨ρ, env, vh, V, R, vd, w⟩ => ⟨[], ρ, env, vh, R, me _ _ _ _ (fun x e1 h1 z ρ' v H' r => vd.rt _ _ _ _ _ r.ret z) w⟩
theorem rs_retO {e : Expr} {pos : Pos} {i : Nat} (h : PE X e (tVar i)) :
    PS X (.Return (some e) pos) (tS G B fun V env vh => match env[i]? with
      | some (.own ds) => V.rt (.fr ds) vh
      | _ => False) :=
  (ps_ret h).imp fun D σ H ⟨ρ, env, vh, V, R, vd, w⟩ => by
    dsimp only at w
    split at w
    · rename_i ds e
      obtain ⟨a, vs, h1, h2, S, h3⟩ := R.take e
      exact ⟨_, h1, vd.rt (.fr ds) _ _ _ _ ⟨a, vs, rfl, h2, S.ret, Rel.ret_ds h3⟩ w⟩
    · exact w.elim
theorem rs_expr {e : Expr} {pos : Pos} {we : VE → VH → QE → Prop} (me : ∀ env vh (Q Q' : QE), (∀ x e h, Q x e h → Q' x e h) → we env vh Q → we env vh Q') (h : PE X e (tD G B we)) (hs : swapsWith e none pos.line X.env = pure false) :
    PS X (.Expr e pos) (tS G B fun V env vh => we env vh fun x e1 h1 => V.nx e1 h1) :=
  (ps_expr h hs).imp fun D σ H ⟨ρ, env, vh, V, R, vd, w⟩ => ⟨[], ρ, env, vh, R, me _ _ _ _ (fun x e1 h1 z ρ' v H' r => vd.nx _ _ _ _ _ r.d.2.1 z) w⟩

/-! ### stores -/
abbrev PAs (X : Cx) (G : Wd) (B : Base) (st : Stmt) (i : Nat) (we : VE → VH → QE → Prop) : Prop := PS X st (tAsg (tD G B we) (gName i))
theorem rs_set {st : Stmt} {i : Nat} {we : VE → VH → QE → Prop} (me : ∀ env vh (Q Q' : QE), (∀ x e h, Q x e h → Q' x e h) → we env vh Q → we env vh Q') (h : PAs X G B st i we) :
    PS X st (tS G B fun V env vh => we env vh fun x e1 h1 => V.nx (e1.set i (.val x.d)) h1) :=
  h.imp fun D σ H ⟨ρ, env, vh, V, R, vd, w⟩ => ⟨[], ρ, env, vh, R, me _ _ _ _ (fun x e1 h1 z ρ' v H' r => by
    obtain ⟨m, R', hv⟩ := r.d
    exact vd.nx _ _ _ _ _ (R'.setVal hv) z) w⟩
theorem rs_setO {st : Stmt} {i : Nat} {we : VE → VH → QE → Prop} (me : ∀ env vh (Q Q' : QE), (∀ x e h, Q x e h → Q' x e h) → we env vh Q → we env vh Q') (h : PAs X G B st i we) :
    PS X st (tS G B fun V env vh => we env vh fun x e1 h1 => match x with
      | .fr ds => V.nx (e1.set i (.own ds)) h1
      | .v _ => False) :=
  h.imp fun D σ H ⟨ρ, env, vh, V, R, vd, w⟩ => ⟨[], ρ, env, vh, R, me _ _ _ _ (fun x e1 h1 z ρ' v H' r => by
    cases x with
    | v d => exact z.elim
    | fr ds =>
      obtain ⟨a, vs, rfl, h1, m, R', hv⟩ := r
      exact vd.nx _ _ _ _ _ (R'.setOwn h1 hv) z) w⟩
theorem rs_setS {st : Stmt} {i : Nat} {we : VE → VH → QE → Prop} (me : ∀ env vh (Q Q' : QE), (∀ x e h, Q x e h → Q' x e h) → we env vh Q → we env vh Q') (h : PAs X G B st i we) :
    PS X st (tS G B fun V env vh => we env vh fun x e1 h1 => match x with
      | .fr ds => V.nx (e1.set i (.val (.ref h1.length))) (h1 ++ [.lst ds])
      | .v _ => False) :=
  h.imp fun D σ H ⟨ρ, env, vh, V, R, vd, w⟩ => ⟨[], ρ, env, vh, R, me _ _ _ _ (fun x e1 h1 z ρ' v H' r => by
    cases x with
    | v d => exact z.elim
    | fr ds =>
      obtain ⟨a, vs, rfl, h2, m, R', hv⟩ := r
      have S := R'.share (o := .lst ds) ⟨vs, h2, hv⟩
      have ha : (ρ' ++ [a])[h1.length]? = some a := by rw [R'.vl]; simp
      exact vd.nx _ _ _ _ _ (S.setVal (d := .ref h1.length) ⟨a, ha, rfl⟩) z) w⟩
theorem pas_set (o : SOk X G B K Φ Γ fs) {i : Nat} {x : Str} {e : Expr} {pos pos' : Pos} {we : VE → VH → QE → Prop} (hi : X.N[i]? = some x) (hx : Loc X.env.scope x) (he : PE X e (tD G B we)) (hs : swapsWith e (some (.Name x pos')) pos.line X.env = pure false) :
    PAs X G B (.Assign [.Name x pos'] e pos) i we := ps_set o.nd hi hx he hs (.inl (o.fnT x))
theorem rs_par (o : SOk X G B K Φ Γ fs) {i j : Nat} {x y : Str} {a b : Expr} {px py pt : Pos} {kt k2 : Nat} {pt2 pos : Pos} {ws : VE → VH → (List R.D → VE → VH → Prop) → Prop} (m : ∀ env vh (Q Q' : List R.D → VE → VH → Prop), (∀ x e h, Q x e h → Q' x e h) → ws env vh Q → ws env vh Q')
    (hi : X.N[i]? = some x) (hj : X.N[j]? = some y) (hij : i ≠ j) (hx : X.env.scope.names.lookup x = some .local) (hy : X.env.scope.names.lookup y = some .local) (ha : PA X [a, b] (tL G B ws))
    (hw : swappedStores [.Tuple [.Name x px, .Name y py] kt pt] (.Tuple [a, b] k2 pt2) X.env = pure (some [x, y])) (hs : swapsWithSole [.Tuple [.Name x px, .Name y py] kt pt] (.Tuple [a, b] k2 pt2) pos.line X.env = pure false) :
    PS X (.Assign [.Tuple [.Name x px, .Name y py] kt pt] (.Tuple [a, b] k2 pt2) pos) (tS G B fun V env vh => ws env vh fun ds e1 h1 => match ds with
      | [x, y] => V.nx ((e1.set i (.val x)).set j (.val y)) h1
      | _ => False) :=
  (ps_par o.calm o.nd hi hj hij hx hy ha hw hs).imp fun D σ H ⟨ρ, env, vh, V, R, vd, w⟩ => ⟨[], ρ, env, vh, R, m _ _ _ _ (fun ds e1 h1 z ρ' vs H' mv R' hv => by
    match ds, z, hv with
    | [p, q], z, ⟨v, r, e1, hp, w, r2, e2, hq, e3⟩ =>
      cases (show r2 = [] from e3)
      subst e2 e1
      exact ⟨v, w, rfl, vd.nx _ _ _ _ _ ((R'.setVal hp).setVal (RD.move (setValMv R') _ _ hq)) z⟩) w⟩
theorem rs_unp (o : SOk X G B K Φ Γ fs) {is : List Nat} {ts : List Expr} {kt : Nat} {pt pos : Pos} {e : Expr} {we : VE → VH → QE → Prop} (me : ∀ env vh (Q Q' : QE), (∀ x e h, Q x e h → Q' x e h) → we env vh Q → we env vh Q') (he : PE X e (tD G B we))
    (hg : PG X (.Tuple ts kt pt) (gOf G.K (.many is))) (hs : swapsWithSole [.Tuple ts kt pt] e pos.line X.env = pure false) (hw : swappedStores [.Tuple ts kt pt] e X.env = pure none) (h1 : (assignEach [.Tuple ts kt pt] X.env).map (·.2) = [assign (.Tuple ts kt pt) X.env]) :
    PS X (.Assign [.Tuple ts kt pt] e pos) (tS G B fun V env vh => we env vh fun x e1 h1 => ∃ e2, bindT (.many is) x.d e1 = some e2 ∧ V.nx e2 h1) :=
  (ps_asg he hg hs hw h1).imp fun D σ H ⟨ρ, env, vh, V, R, vd, w⟩ => ⟨[], ρ, env, vh, R, me _ _ _ _ (fun x e1 h1 ⟨e2, hb, z⟩ ρ' v H' r => by
    obtain ⟨m, R', hv⟩ := r.d
    exact bind_ok R' hv hb fun σ2 R2 _ _ => vd.nx _ _ _ _ _ R2 z) w⟩
/-- a op= b -/
theorem ip_d (op : Operator) : PIp X op (fun x y H Q => ∃ Z ρ c d, RW G Z ρ H c x ∧ RW G Z ρ H d y ∧ wpAug op c d fun z => ∀ v H', Same H H' → RD G Z ρ H' z v → Q v H') := by
  rintro pins s σ H x y v u Q I r1 r2 ⟨Z, ρ, c, d, hc, hd, q⟩
  unfold wpAug at q
  split at q
  · cases (show x = _ from hc)
    cases (show y = _ from hd)
    exact ip_add pins s σ H _ _ v u Q I r1 r2 ⟨_, _, rfl, rfl, q _ _ (Same.refl _) rfl⟩
  · cases (show x = _ from hc)
    cases (show y = _ from hd)
    exact ip_sub pins s σ H _ _ v u Q I r1 r2 ⟨_, _, rfl, rfl, q _ _ (Same.refl _) rfl⟩
  · exact q.elim
theorem rs_aug (o : SOk X G B K Φ Γ fs) {i : Nat} {x : Str} {e : Expr} {op : Operator} {pos pos' : Pos} {we : VE → VH → QE → Prop} (me : ∀ env vh (Q Q' : QE), (∀ x e h, Q x e h → Q' x e h) → we env vh Q → we env vh Q') (hi : X.N[i]? = some x) (hx : Loc X.env.scope x) (he : PE X e (tD G B we)) :
    PS X (.AugAssign (.Name x pos') op e pos) (tS G B fun V env vh => match env[i]? with
      | some (.val c) => we env vh fun y e1 h1 => wpAug op c y.d fun z => V.nx (e1.set i (.val z)) h1
      | _ => False) :=
  (ps_aug o.nd hi hx he (ip_d (G := G) op) (.inl (o.fnT x))).imp fun D σ H ⟨ρ, env, vh, V, R, vd, w⟩ => by
    dsimp only at w
    split at w
    · rename_i c hc
      obtain ⟨v, e, hv⟩ := R.st i _ hc
      refine ⟨v, e, [], ρ, env, vh, R, me _ _ _ _ (fun y e1 h1 z ρ' u H' r => ?_) w⟩
      obtain ⟨m, R', hu⟩ := r.d
      have mono : ∀ {Q Q' : _root_.R.D → Prop}, (∀ x, Q x → Q' x) → wpAug op c y.d Q → wpAug op c y.d Q' := fun {Q Q'} f h => by
        unfold wpAug at *
        split at h <;> first | exact f _ h | exact h
      exact ⟨_, ρ', c, y.d, (RD.move m _ _ hv).w, hu.w, mono (fun zz q vv H2 sm hz => vd.nx _ _ _ _ _ ((R'.grow sm).setVal hz) q) z⟩
    · exact w.elim
theorem set_sh {n : Nat} {k x : R.D} {Q : VH → Prop} {a kv xv : V} {D : Hp → Prop} (R : Rel G B T ρ env vh σ H) (ha : RD G (ZZ B.F T ρ env σ) ρ H (.ref n) a) (hk : RD G (ZZ B.F T ρ env σ) ρ H k kv) (hx : RD G (ZZ B.F T ρ env σ) ρ H x xv) (w : setSh n k x vh Q)
    (f : ∀ vh' H', Rel G B T ρ env vh' σ H' → Q vh' → D H') : rSetL a kv xv H D := by
  obtain ⟨p, hp, rfl⟩ := ha
  unfold setSh at w
  split at w
  · rename_i xs j hn
    cases (show kv = _ from hk)
    obtain ⟨m, hm, q⟩ := w
    obtain ⟨vs, h1, h2⟩ := R.ob n _ p hn hp
    have hz : ZZ B.F T ρ env σ p := .inr (.inr (.inl (List.mem_of_getElem? hp)))
    have mu : Mv (ZZ B.F T ρ env σ) ρ H (ZZ B.F T ρ env σ) ρ (upd H p (.lst (vs.set m xv))) := Mv.upd hz h1 trivial
    refine ⟨p, vs, j, m, rfl, rfl, h1, by rw [← h2.length]; exact hm, f _ _ (R.shUpd hn hp trivial (o' := .lst (xs.set m x)) ⟨_, upd_same, ?_⟩) q⟩
    exact RDs.set m (RDs.move mu _ _ h2) (RD.move mu _ _ hx)
  · exact w.elim
theorem set_op {oo : Op} {k x : R.D} {Q : VE → VH → Prop} {a kv xv : V} {D : Hp → Prop} (R : Rel G B T ρ env vh σ H) (ha : OpV G (ZZ B.F T ρ env σ) ρ H σ oo a) (hk : RD G (ZZ B.F T ρ env σ) ρ H k kv) (hx : RD G (ZZ B.F T ρ env σ) ρ H x xv) (w : wpSet oo k x env vh Q)
    (f : ∀ env' vh' H', Rel G B T ρ env' vh' σ H' → Q env' vh' → D H') : rSetL a kv xv H D := by
  cases oo with
  | dat d =>
    cases d with
    | ref n => exact set_sh R ha hk hx w fun vh' H' R' q => f _ _ _ R' q
    | _ => exact (show False from w).elim
  | slt i =>
    have ha : σ[i]? = some (some a) := ha
    unfold wpSet at w
    dsimp only at w
    split at w
    · rename_i n hs
      obtain ⟨v, e, hv⟩ := R.st i _ hs
      rw [ha] at e
      cases e
      exact set_sh R hv hk hx w fun vh' H' R' q => f _ _ _ R' q
    · rename_i xs j hs
      cases (show kv = _ from hk)
      obtain ⟨m, hm, q⟩ := w
      obtain ⟨p, vs, e, h1, h2⟩ := R.st i _ hs
      rw [ha] at e
      cases e
      have hz : ZZ B.F T ρ env σ p := .inr (.inr (.inr ⟨i, _, hs, ha⟩))
      have mu : Mv (ZZ B.F T ρ env σ) ρ H (ZZ B.F T ρ env σ) ρ (upd H p (.lst (vs.set m xv))) := Mv.upd hz h1 trivial
      exact ⟨p, vs, j, m, rfl, rfl, h1, by rw [← h2.length]; exact hm, f _ _ _ (R.ownUpd hs ha h1 (RDs.set m h2 hx)) q⟩
    · exact w.elim
theorem rs_sidx (o : SOk X G B K Φ Γ fs) {a i e : Expr} {tpos pos : Pos} {wo : VE → VH → (Op → VE → VH → Prop) → Prop} {wi we : VE → VH → QE → Prop} (mo : ∀ env vh (Q Q' : Op → VE → VH → Prop), (∀ x e h, Q x e h → Q' x e h) → wo env vh Q → wo env vh Q')
    (mi : ∀ env vh (Q Q' : QE), (∀ x e h, Q x e h → Q' x e h) → wi env vh Q → wi env vh Q') (me : ∀ env vh (Q Q' : QE), (∀ x e h, Q x e h → Q' x e h) → we env vh Q → we env vh Q')
    (ho : PE X a (tO G B wo)) (hi : PE X i (tD G B wi)) (he : PE X e (tD G B we))
    (ha : ∀ v, assign (.Subscript a i tpos) X.env v = (do
      let ov ← holding [v] (eval a X.env)
      let iv ← holding [v, ov] (eval i X.env)
      standAt tpos
      holding [v, ov, iv] (setItem ov iv v)
      release [v, ov, iv] []))
    (hs : swapsWithSole [.Subscript a i tpos] e pos.line X.env = pure false) (hw : swappedStores [.Subscript a i tpos] e X.env = pure none) (h1 : (assignEach [.Subscript a i tpos] X.env).map (·.2) = [assign (.Subscript a i tpos) X.env]) :
    PS X (.Assign [.Subscript a i tpos] e pos) (tS G B fun V env vh => we env vh fun x e1 h1 => wo e1 h1 fun oo e2 h2 => wi e2 h2 fun ix e3 h3 => wpSet oo ix.d x.d e3 h3 V.nx) :=
  (ps_asg he (pg_sub ho hi set_list ha) hs hw h1).imp fun D σ H ⟨ρ, env, vh, V, R, vd, w⟩ => ⟨[], ρ, env, vh, R, me _ _ _ _ (fun x e1 h1 z ρ' v H' r => by
    obtain ⟨m, R', hv⟩ := r.d
    refine ⟨[], ρ', e1, h1, R', mo _ _ _ _ (fun oo e2 h2 z ρ2 a H2 m2 R2 hoo => ?_) z⟩
    refine ⟨[], ρ2, e2, h2, R2, mi _ _ _ _ (fun ix e3 h3 z ρ3 iv H3 r3 => ?_) z⟩
    obtain ⟨m3, R3, hi⟩ := r3.d
    exact set_op R3 (hoo.move m3) hi (RD.move (m2.trans m3) _ _ hv) z fun env' vh' H' R' q => vd.nx _ _ _ _ _ R' q) w⟩

/-! ### append -/
theorem is_ls {oo : Op} {a : V} (R : Rel G B T ρ env vh σ H) (ha : OpV G (ZZ B.F T ρ env σ) ρ H σ oo a) (w : isLs oo env vh) : tyV X.K "list" a H := by
  have sh : ∀ {n : Nat} {a : V}, RD G (ZZ B.F T ρ env σ) ρ H (.ref n) a → (∃ xs, vh[n]? = some (.lst xs)) → tyV X.K "list" a H := fun {n a} h ⟨xs, hn⟩ => by
    obtain ⟨p, hp, rfl⟩ := h
    obtain ⟨vs, h1, h2⟩ := R.ob n _ p hn hp
    exact .inl ⟨rfl, vs, .of h1⟩
  cases oo with
  | dat d =>
    cases d with
    | ref n => exact sh ha w
    | _ => exact (show False from w).elim
  | slt i =>
    have ha : σ[i]? = some (some a) := ha
    unfold isLs at w
    dsimp only at w
    split at w
    · rename_i n hs
      obtain ⟨v, e, hv⟩ := R.st i _ hs
      rw [ha] at e
      cases e
      exact sh hv w
    · rename_i xs hs
      obtain ⟨p, vs, e, h1, h2⟩ := R.st i _ hs
      rw [ha] at e
      cases e
      exact .inl ⟨rfl, vs, .of h1⟩
    · exact w.elim
theorem app_sh {n : Nat} {x : R.D} {Q : VH → Prop} {a xv : V} {D : VK} (R : Rel G B T ρ env vh σ H) (ha : RD G (ZZ B.F T ρ env σ) ρ H (.ref n) a) (hx : RD G (ZZ B.F T ρ env σ) ρ H x xv) (w : appSh n x vh Q)
    (f : ∀ vh' H', Rel G B T ρ env vh' σ H' → Q vh' → D .non H') : rAppend a [xv] H D := by
  obtain ⟨p, hp, rfl⟩ := ha
  unfold appSh at w
  split at w
  · rename_i xs hn
    obtain ⟨hl, q⟩ := w
    obtain ⟨vs, h1, h2⟩ := R.ob n _ p hn hp
    have hz : ZZ B.F T ρ env σ p := .inr (.inr (.inl (List.mem_of_getElem? hp)))
    have mu : Mv (ZZ B.F T ρ env σ) ρ H (ZZ B.F T ρ env σ) ρ (upd H p (.lst (vs ++ [xv]))) := Mv.upd hz h1 trivial
    refine ⟨p, vs, xv, rfl, rfl, h1, by rw [sizeLine_eq, ← h2.length]; exact hl, f _ _ (R.shUpd hn hp trivial (o' := .lst (xs ++ [x])) ⟨_, upd_same, ?_⟩) q⟩
    exact RDs.append (RDs.move mu _ _ h2) (.one (RD.move mu _ _ hx))
  · exact w.elim
theorem app_op {oo : Op} {x : R.D} {Q : VE → VH → Prop} {a xv : V} {D : VK} (R : Rel G B T ρ env vh σ H) (ha : OpV G (ZZ B.F T ρ env σ) ρ H σ oo a) (hx : RD G (ZZ B.F T ρ env σ) ρ H x xv) (w : wpApp oo x env vh Q)
    (f : ∀ env' vh' H', Rel G B T ρ env' vh' σ H' → Q env' vh' → D .non H') : rAppend a [xv] H D := by
  cases oo with
  | dat d =>
    cases d with
    | ref n => exact app_sh R ha hx w fun vh' H' R' q => f _ _ _ R' q
    | _ => exact (show False from w).elim
  | slt i =>
    have ha : σ[i]? = some (some a) := ha
    unfold wpApp at w
    dsimp only at w
    split at w
    · rename_i n hs
      obtain ⟨v, e, hv⟩ := R.st i _ hs
      rw [ha] at e
      cases e
      exact app_sh R hv hx w fun vh' H' R' q => f _ _ _ R' q
    · rename_i xs hs
      obtain ⟨hl, q⟩ := w
      obtain ⟨p, vs, e, h1, h2⟩ := R.st i _ hs
      rw [ha] at e
      cases e
      exact ⟨p, vs, xv, rfl, rfl, h1, by rw [sizeLine_eq, ← h2.length]; exact hl, f _ _ _ (R.ownUpd hs ha h1 (RDs.append h2 (.one hx))) q⟩
    · exact w.elim
theorem rs_app (o : SOk X G B K Φ Γ fs) {a e : Expr} {apos cpos pos : Pos} {wo : VE → VH → (Op → VE → VH → Prop) → Prop} {we : VE → VH → QE → Prop} (mo : ∀ env vh (Q Q' : Op → VE → VH → Prop), (∀ x e h, Q x e h → Q' x e h) → wo env vh Q → wo env vh Q')
    (me : ∀ env vh (Q Q' : QE), (∀ x e h, Q x e h → Q' x e h) → we env vh Q → we env vh Q') (ho : PE X a (tO G B wo)) (he : PE X e (tD G B we))
    (hbase : attributeBase a "append" X.env (eval a X.env) = eval a X.env) (hline : (apos.endLine == cpos.line) = true) (hs1 : starEach [e] X.env = (false, eval e X.env) :: starEach [] X.env) :
    PS X (.Expr (.Call (.Attribute a "append" apos) [e] [] cpos) pos) (tS G B fun V env vh => wo env vh fun oo e1 h1 => isLs oo e1 h1 ∧ we e1 h1 fun x e2 h2 => wpApp oo x.d e2 h2 V.nx) := by
  have pe := pe_bm PySem.F.plainAttrs_list PySem.F.slot_list_append PySem.F.type_list_append mt_append ho (pa_cons he pa_nil hs1) hbase (by rw [hs1]; rfl) hline hs1 rfl
  refine (ps_expr pe rfl).imp fun D σ H ⟨ρ, env, vh, V, R, vd, w⟩ => ⟨[], ρ, env, vh, R, mo _ _ _ _ (fun oo e1 h1 ⟨il, z⟩ ρ1 a H1 m1 R1 hoo => ?_) w⟩
  refine ⟨is_ls R1 hoo il, [], ρ1, e1, h1, R1, me _ _ _ _ (fun x e2 h2 z ρ2 v H2 r2 => ?_) z⟩
  obtain ⟨m2, R2, hv⟩ := r2.d
  exact app_op (D := fun _ H => D.nx σ H) R2 (hoo.move m2) hv z fun env' vh' H' R' q => vd.nx _ _ _ _ _ R' q

/-! ### if, for, while -/
theorem rs_cond {c : Expr} {a b : List Stmt} {pos : Pos} {wc : VE → VH → QE → Prop} {wa wb : VEnds → VE → VH → Prop} (mc : ∀ env vh (Q Q' : QE), (∀ x e h, Q x e h → Q' x e h) → wc env vh Q → wc env vh Q') (hc : PT X c (tB G B wc)) (ha : PSs X a (tS G B wa)) (hb : PSs X b (tS G B wb)) :
    PS X (.If c a b pos) (tS G B fun V env vh => wc env vh fun x e1 h1 => match x with
      | .v (.bl k) => ifP k (wa V e1 h1) (wb V e1 h1)
      | _ => False) :=
  (ps_if hc ha hb).imp fun D σ H ⟨ρ, env, vh, V, R, vd, w⟩ => ⟨[], ρ, env, vh, R, mc _ _ _ _ (fun x e1 h1 z => by
    split at z
    · rename_i k
      refine ⟨k, rfl, fun ρ' H' m R' => ?_⟩
      cases k with
      | true => exact L2.iteT ⟨ρ', e1, h1, V, R', vd, z⟩
      | false => exact L2.iteF ⟨ρ', e1, h1, V, R', vd, z⟩
    · exact z.elim) w⟩
theorem rs_for (o : SOk X G B K Φ Γ fs) {tg iter : Expr} {body : List Stmt} {pos : Pos} {tgI : Tg} {wi : VE → VH → (List R.D → VE → VH → Prop) → Prop} {wb : VEnds → VE → VH → Prop}
    (mi : ∀ env vh (Q Q' : List R.D → VE → VH → Prop), (∀ x e h, Q x e h → Q' x e h) → wi env vh Q → wi env vh Q')
    (hi : PI X tg iter (iD G B wi)) (hg : PG X tg (gOf G.K tgI)) (hb : ∀ B, SOk X G B K Φ Γ fs → PSs X body (tS G B wb)) (hs : ∀ x, foldedSetIterable iter X.env x = pure x) :
    PS X (.For tg iter body [] pos) (tS G B fun V env vh => wi env vh fun items e1 h1 => forGo (fun d N e h => ∃ e2, bindT tgI d e = some e2 ∧ wb { V with nx := N, ct := N, bk := V.nx } e2 h) items e1 h1 V.nx) := by
  have hb' : PSs X body (fun D σ H => ∃ B', SOk X G B' K Φ Γ fs ∧ tS G B' wb D σ H) := ⟨fun pins s σ H D I ⟨B', o', z⟩ => (hb B' o').run pins s σ H D I z⟩
  refine (ps_for o.po o.calm hi hg hb' hs).imp ?_
  rintro D σ H ⟨ρ, env, vh, V, R, vd, w⟩
  refine ⟨[], ρ, env, vh, R, mi _ _ _ _ (fun items e1 h1 go ρ1 H1 J m1 R1 wk => ?_) w⟩
  generalize hturn : (fun (d : _root_.R.D) (N : VE → VH → Prop) (e : VE) (h : VH) => ∃ e2, bindT tgI d e = some e2 ∧ wb { V with nx := N, ct := N, bk := V.nx } e2 h) = turn at go
  let Pv : Nat → L2.St → Hp → Prop := fun i σ' H' => ∃ ρ' e h, Rel G (B.now [] ρ1 e1 σ H1) [] ρ' e h σ' H' ∧ forGo turn (items.drop i) e h V.nx
  refine ⟨fun i m σ' H' => m = items.length - i ∧ i ≤ items.length ∧ Pv i σ' H', ⟨items.length, by simp, Nat.zero_le _, ρ1, e1, h1, R1.rebase, go⟩, ?_⟩
  rintro i m σ' H' ⟨rfl, hil, ρ', e, h, S, go'⟩
  have m' := R1.moved S
  by_cases hlt : i < items.length
  · refine .inr ⟨wk.go i _ ρ' H' m' hlt, Pv (i + 1), fun σ'' H'' p' => ⟨items.length - (i + 1), by omega, rfl, hlt, p'⟩, fun x H2 y => ?_⟩
    obtain ⟨d, hd, sm, hx⟩ := wk.yld i _ ρ' H' x H2 m' hlt y
    have hdrop : items.drop i = d :: items.drop (i + 1) := by
      rw [List.drop_eq_getElem_cons hlt]
      rw [List.getElem?_eq_getElem hlt] at hd
      rw [Option.some.inj hd]
    rw [hdrop] at go'
    subst hturn
    obtain ⟨e2, hbd, wbd⟩ := go'
    refine bind_ok (S.grow sm) hx hbd fun σ2 R2 _ _ => ⟨_, o.now R1, ρ', e2, h, { V with nx := fun e h => forGo _ (items.drop (i + 1)) e h V.nx, ct := fun e h => forGo _ (items.drop (i + 1)) e h V.nx, bk := V.nx }, R2, ⟨fun ρ3 e3 h3 σ3 H3 R3 z => ⟨ρ3, e3, h3, R3, z⟩, fun x v ρ3 h3 H3 r z => vd.rt _ _ _ _ _ (ResF.unbase R1 r) z, fun ρ3 e3 h3 σ3 H3 R3 z => vd.nx _ _ _ _ _ (R1.unbase R3) z, fun ρ3 e3 h3 σ3 H3 R3 z => ⟨ρ3, e3, h3, R3, z⟩⟩, wbd⟩
  · have ee : i = items.length := by omega
    subst ee
    rw [List.drop_length] at go'
    exact .inl ⟨wk.stop _ ρ' H' m', vd.nx _ _ _ _ _ (R1.unbase S) go'⟩
theorem rs_whl (o : SOk X G B K Φ Γ fs) {c : Expr} {body : List Stmt} {pos : Pos} {wc : VE → VH → QE → Prop} {wb : VEnds → VE → VH → Prop} (mc : ∀ env vh (Q Q' : QE), (∀ x e h, Q x e h → Q' x e h) → wc env vh Q → wc env vh Q') (hc : PT X c (tB G B wc)) (hb : PSs X body (tS G B wb)) :
    PS X (.While c body [] pos) (tS G B fun V env vh => ∃ I : Nat → VE → VH → Prop, (∃ n, I n env vh) ∧ ∀ n env vh, I n env vh → wc env vh fun x e1 h1 => match x with
      | .v (.bl k) => ifP k (wb { V with nx := fun e h => ∃ m, m < n ∧ I m e h, ct := fun e h => ∃ m, m < n ∧ I m e h, bk := V.nx } e1 h1) (V.nx e1 h1)
      | _ => False) :=
  (ps_while o.po hc hb).imp fun D σ H ⟨ρ, env, vh, V, R, vd, I, ⟨n0, i0⟩, step⟩ => by
    refine ⟨fun m σ H => ∃ ρ e h, Rel G B [] ρ e h σ H ∧ I m e h, ⟨n0, ρ, env, vh, R, i0⟩, ?_⟩
    rintro m σ H ⟨ρ, e, h, R, hi⟩
    refine ⟨[], ρ, e, h, R, mc _ _ _ _ (fun x e1 h1 z => ?_) (step m e h hi)⟩
    split at z
    · rename_i k
      refine ⟨k, rfl, fun ρ' H' mv R' => ?_⟩
      cases k with
      | true =>
        refine L2.iteT ⟨fun σ' H' => ∃ ρ e h, Rel G B [] ρ e h σ' H' ∧ ∃ m', m' < m ∧ I m' e h, fun σ' H' ⟨ρ, e, h, R, m', l, i⟩ => ⟨m', l, ρ, e, h, R, i⟩, ?_⟩
        exact ⟨ρ', e1, h1, { V with nx := fun e h => ∃ m', m' < m ∧ I m' e h, ct := fun e h => ∃ m', m' < m ∧ I m' e h, bk := V.nx }, R', ⟨fun ρ3 e3 h3 σ3 H3 R3 z => ⟨ρ3, e3, h3, R3, z⟩, vd.rt, vd.nx, fun ρ3 e3 h3 σ3 H3 R3 z => ⟨ρ3, e3, h3, R3, z⟩⟩, z⟩
      | false => exact L2.iteF (vd.nx _ _ _ _ _ R' z)
    · exact z.elim
end
end R

namespace R
open PySem PySem.Spec PyProof.Rows L2
/-! ## R7: from the text to the small language -/
/-- N: the names of the slots; fs: the defs that may be called -/
structure Tc where
  N : List Str
  fs : List Str
  own : List Str
  sh : List Str
inductive Md where
  | V | O | T
def visB (sc : Scope) (x : Str) : Bool := match sc.names.lookup x with
  | some .local => true
  | some .cell => true
  | some .free => true
  | _ => false
def glB (sc : Scope) (x : Str) : Bool := decide (sc.names.lookup x = some .globalImplicit)
def okNm (x : Str) : Bool := !(x == ("__debug__" : Str)) && !(x == ("__classdict__" : Str))
/-- the slot of a name that may be read -/
def slotOf (c : Tc) (sc : Scope) (x : Str) : Option Nat := if visB sc x && okNm x then (match c.N.idxOf? x with
  | some i => if decide (c.N[i]? = some x) then some i else none
  | none => none) else none
def plainE : Expr → Bool
  | .Starred _ _ => false
  | _ => true
def plainIx : Expr → Bool
  | .Slice _ _ _ _ => false
  | _ => true
def notSet : Expr → Bool
  | .Set _ _ _ => false
  | _ => true
/-- its test is its value's truth -/
def plainT : Expr → Bool
  | .UnaryOp .Not _ _ => false
  | .BoolOp _ _ _ => false
  | .IfExp _ _ _ _ => false
  | .Compare _ _ _ _ => false
  | _ => true
def trL (f : Expr → Option E) : List Expr → Option (List E)
  | [] => some []
  | e :: es => if plainE e then (match f e, trL f es with
    | some a, some b => some (a :: b)
    | _, _ => none) else none
def bfOf (f : Str) (n : Nat) : Option Bf := match n with
  | 1 => [Bf.len, .int, .bool, .str, .tuple, .list, .abs, .sum, .all, .any, .sorted, .min1, .max1].find? fun g => decide (bltN g = f)
  | 2 => [Bf.min2, .max2].find? fun g => decide (bltN g = f)
  | _ => none
def tyOf (sc : Scope) : Expr → Option String
  | .Name x _ => match (["int", "bool", "str", "tuple", "list", "dict"] : List String).find? (fun n => decide (Str.ofString n = x)) with
    | some n => if glB sc x && okTy n then some n else none
    | none => none
  | _ => none
def tysOf' (sc : Scope) : List Expr → Option (List String)
  | [] => some []
  | e :: es => match tyOf sc e, tysOf' sc es with
    | some a, some b => some (a :: b)
    | _, _ => none
/-- a finished value's form: fin -/
def finK : E → Bool
  | .non => true
  | .bl _ => true
  | .int _ => true
  | .str _ => true
  | .glo _ => true
  | .tup _ => true
  | .lst _ => true
  | .bin _ _ _ => true
  | .neg _ => true
  | .idx _ _ => true
  | .sli _ _ _ => true
  | .call _ _ => true
  | .blt _ _ => true
  | .isi _ _ => true
  | .lc _ _ _ _ _ _ => true
  | _ => false
/-- the names of a comprehension's own -/
def ownOf (N : List Str) (scope : Scope) : List (Str × Nat) := scope.names.filterMap fun y => match y.2 with
  | .local => (N.idxOf? y.1).map fun i => (y.1, i)
  | .cell => (N.idxOf? y.1).map fun i => (y.1, i)
  | _ => none
/-- a name that may be written; cl: the cells that are the block's own -/
def wrIx (c : Tc) (sc : Scope) (cl : Str → Bool) (x : Str) : Option Nat := match c.N.idxOf? x with
  | some i => if decide (c.N[i]? = some x) && (decide (sc.names.lookup x = some .local) || (decide (sc.names.lookup x = some .cell) && cl x)) then some i else none
  | none => none
def wrIxs (c : Tc) (sc : Scope) (cl : Str → Bool) : List Expr → Option (List Nat)
  | [] => some []
  | .Name x _ :: es => match wrIx c sc cl x, wrIxs c sc cl es with
    | some i, some is => some (i :: is)
    | _, _ => none
  | _ :: _ => none
def trTg (c : Tc) (sc : Scope) (cl : Str → Bool) : Expr → Option Tg
  | .Name x _ => match wrIx c sc cl x with
    | some i => some (.one i)
    | none => none
  | .Tuple es _ _ => match wrIxs c sc cl es with
    | some is => some (.many is)
    | none => none
  | _ => none
def isBor : E → Bool
  | .bor _ => true
  | _ => false
def noBor (e : Option E) : Option E := match e with
  | some e => if isBor e then none else some e
  | none => none
def guardO {α : Type} (b : Bool) (x : Option α) : Option α := match b with
  | true => x
  | false => none
/-- what is gone through -/
def isTup : Expr → Bool
  | .Tuple _ _ _ => true
  | _ => false
def trRg (f : Expr → Option E) (args : List Expr) : Option (Ik × List E) := match args with
  | [a] => (trL f [a]).map fun es => (.rng1, es)
  | [a, b] => (trL f [a, b]).map fun es => (.rng2, es)
  | [a, b, c] => (trL f [a, b, c]).map fun es => (.rng3, es)
  | _ => none
def trZp (f : Expr → Option E) (args : List Expr) : Option (Ik × List E) := match args with
  | [a, b] => (trL f [a, b]).map fun es => (.zip, es)
  | _ => none
def trSeq (f : Expr → Option E) (e : Expr) : Option (Ik × List E) := (f e).map fun x => (.seq, [x])
def trI (f : Expr → Option E) (sc : Scope) (tg : Expr) : Expr → Option (Ik × List E)
  | .Call (.Name x p) args [] pos => if decide (x = ("range" : Str)) then guardO (glB sc x) (trRg f args)
    else if decide (x = ("zip" : Str)) then guardO (glB sc x && isTup tg) (trZp f args)
    else trSeq f (.Call (.Name x p) args [] pos)
  | e => guardO (notSet e) (trSeq f e)
def o2 {α β γ : Type} (f : α → β → γ) : Option α → Option β → Option γ
  | some a, some b => some (f a b)
  | _, _ => none
def o3 {α β γ δ : Type} (f : α → β → γ → δ) : Option α → Option β → Option γ → Option δ
  | some a, some b, some c => some (f a b c)
  | _, _, _ => none
def trP (f : Expr → Option E) : Option Expr → Option E
  | none => some .skip
  | some e => f e
def trIsi (fO : Expr → Option E) (sc : Scope) (args : List Expr) : Option E := match args with
  | [a, .Tuple es k p] => guardO (plainE a && decide (es.length ≤ 1000)) (o2 .isi (fO a) (tysOf' sc es))
  | [a, t] => guardO (plainE a) (o2 (fun x n => .isi x [n]) (fO a) (tyOf sc t))
  | _ => none
def trBlt (fO : Expr → Option E) (f : Str) (args : List Expr) : Option E := match bfOf f args.length with
  | some g => (trL fO args).map (.blt g)
  | none => none
def trCall (c : Tc) (fV fO : Expr → Option E) (sc : Scope) (f : Str) (args : List Expr) : Option E :=
  guardO (glB sc f) (if c.fs.contains f then (trL fV args).map (.call f) else if decide (f = ("isinstance" : Str)) then trIsi fO sc args else trBlt fO f args)
def subB (is js : List Nat) : Bool := is.all fun i => decide (i ∈ js)
def trO1 (c : Tc) (f : Md → Scope → Expr → Option E) (sc : Scope) (e : Expr) : Option E := match e with
  | .Name x p => match slotOf c sc x with
    | some i => some (.bor i)
    | none => noBor (f .V sc (.Name x p))
  | e => noBor (f .V sc e)
def trT1 (c : Tc) (f : Md → Scope → Expr → Option E) (sc : Scope) (e : Expr) : Option E := match e with
  | .UnaryOp .Not a _ => (f .T sc a).map .not
  | .BoolOp op [a] _ => f .T sc a
  | .BoolOp .And (a :: b :: rest) pos => o2 .and (f .T sc a) (f .T sc (.BoolOp .And (b :: rest) pos))
  | .BoolOp .Or (a :: b :: rest) pos => o2 .or (f .T sc a) (f .T sc (.BoolOp .Or (b :: rest) pos))
  | .IfExp t a b _ => o3 .ite (f .T sc t) (f .T sc a) (f .T sc b)
  | .Compare a [op] [b] _ => guardO (!behindInMarks op b) (o2 (.cmp op) (f .O sc a) (f .O sc b))
  | .Compare a [op, op'] [b, d] _ => guardO (!lastMarks [op, op'] [b, d]) (o3 (.chain op op') (f .O sc a) (f .O sc b) (f .O sc d))
  | .Name x p => match slotOf c sc x with
    | some i => some (.bor i)
    | none => match f .V sc (.Name x p) with
      | some ir => guardO (finK ir) (some ir)
      | none => none
  | e => guardO (plainT e) (match f .V sc e with
    | some ir => guardO (finK ir) (some ir)
    | none => none)
def trLc (c : Tc) (f : Md → Scope → Expr → Option E) (sc : Scope) (elt : Expr) (gens : List Comprehension) (scope : Scope) : Option E := match gens with
  | [⟨tg, iter, ifs, as⟩] =>
    match trTg c (relS scope sc) (fun x => decide (scope.names.lookup x = some .cell)) tg, trI (f .V sc) sc tg iter, f .V (relS scope sc) elt, trL (f .T (relS scope sc)) ifs with
    | some tgI, some (k, es), some el, some cs => guardO (decide (as = 0) && blkC c.N sc scope (ownOf c.N scope) && subB (tgIx tgI) ((ownOf c.N scope).map (·.2)) && decide (cs.length ≤ 1)) (some (.lc el tgI ((ownOf c.N scope).map (·.2)) k es cs))
    | _, _, _, _ => none
  | _ => none
def trV1 (c : Tc) (f : Md → Scope → Expr → Option E) (sc : Scope) (e : Expr) : Option E := match e with
  | .Constant .none _ _ => some .non
  | .Constant (.bool b) _ _ => some (.bl b)
  | .Constant (.int i) _ _ => some (.int i)
  | .Constant (.str x) _ _ => some (.str x)
  | .Name x _ => match slotOf c sc x with
    | some i => some (.var i)
    | none => guardO (glB sc x) (some (.glo x))
  | .Tuple es _ _ => (trL (f .V sc) es).map .tup
  | .List es _ => (trL (f .V sc) es).map .lst
  | .BinOp a op b _ => o2 (.bin op) (f .O sc a) (f .O sc b)
  | .UnaryOp .USub a _ => (f .V sc a).map .neg
  | .UnaryOp .Not a _ => (f .O sc a).map .not
  | .BoolOp op [a] _ => f .V sc a
  | .BoolOp .And (a :: b :: rest) pos => o2 .and (f .V sc a) (f .V sc (.BoolOp .And (b :: rest) pos))
  | .BoolOp .Or (a :: b :: rest) pos => o2 .or (f .V sc a) (f .V sc (.BoolOp .Or (b :: rest) pos))
  | .IfExp t a b _ => o3 .ite (f .T sc t) (f .V sc a) (f .V sc b)
  | .Compare a [op] [b] _ => guardO (!behindInMarks op b) (o2 (.cmp op) (f .O sc a) (f .O sc b))
  | .Compare a [op, op'] [b, d] _ => guardO (!lastMarks [op, op'] [b, d]) (o3 (.chain op op') (f .O sc a) (f .O sc b) (f .O sc d))
  | .Subscript a (.Slice lo hi none _) _ => o3 .sli (f .O sc a) (trP (f .V sc) lo) (trP (f .V sc) hi)
  | .Subscript a b _ => guardO (plainIx b) (o2 .idx (f .O sc a) (f .O sc b))
  | .Call (.Name g p) args [] pos => trCall c (f .V sc) (f .O sc) sc g args
  | .ListComp elt gens scope pos => trLc c f sc elt gens scope
  | _ => none
def tr (c : Tc) : Nat → Md → Scope → Expr → Option E
  | 0, _, _, _ => none
  | n + 1, .O, sc, e => trO1 c (tr c n) sc e
  | n + 1, .T, sc, e => trT1 c (tr c n) sc e
  | n + 1, .V, sc, e => trV1 c (tr c n) sc e
end R

namespace R
open PySem PySem.Spec PyProof.Rows L2
/-! ## R8: what the small language says of an expression is so -/
structure Cok (X : Cx) (G : Wd) (B : Base) (K : XP) (Φ : Fns) (Γ : Cns) (c : Tc) (sc : Scope) : Prop where
  o : XOk X G B K Φ Γ c.fs
  hN : X.N = c.N
  hs : X.env.scope = sc
section
variable {X : Cx} {G : Wd} {B : Base} {K : XP} {Φ : Fns} {Γ : Cns} {c : Tc} {sc : Scope}
theorem slot_ok (k : Cok X G B K Φ Γ c sc) {x : Str} {i : Nat} (h : slotOf c sc x = some i) : X.N[i]? = some x ∧ Vis X.env.scope x ∧ (x == ("__debug__" : Str)) = false ∧ (x == ("__classdict__" : Str)) = false := by
  unfold slotOf at h
  split at h
  · rename_i h1
    rw [Bool.and_eq_true] at h1
    split at h
    · split at h
      · rename_i h2
        cases h
        have h3 := h1.2
        unfold okNm at h3
        rw [Bool.and_eq_true, Bool.not_eq_true', Bool.not_eq_true'] at h3
        refine ⟨by rw [k.hN]; exact of_decide_eq_true h2, ?_, h3.1, h3.2⟩
        rw [k.hs]
        have h4 := h1.1
        unfold visB at h4
        split at h4
        · rename_i e; exact .inl e
        · rename_i e; exact .inr (.inl e)
        · rename_i e; exact .inr (.inr e)
        · cases h4
      · cases h
    · cases h
  · cases h
theorem pe_slot (k : Cok X G B K Φ Γ c sc) {x : Str} {i : Nat} {p : Pos} (h : slotOf c sc x = some i) : PE X (.Name x p) (tVar i) := by
  obtain ⟨h1, h2, h3, h4⟩ := slot_ok k h
  exact pe_var h1 h2 h3 h4
theorem gl_ok (k : Cok X G B K Φ Γ c sc) {x : Str} (h : glB sc x = true) : Gl X x := by
  show X.env.scope.names.lookup x = _
  rw [k.hs]
  exact of_decide_eq_true h
theorem star_cons {e : Expr} {es : List Expr} {env : Env} (h : plainE e = true) : starEach (e :: es) env = (false, eval e env) :: starEach es env := by
  cases e <;> first | rfl | cases h
theorem back_any {env : Env} {pos : Pos} : ∀ {es : List Expr}, es.all plainE = true → (backTo pos (starEach es env)).any (·.1) = false
  | [], _ => rfl
  | e :: es, h => by
    rw [List.all_cons, Bool.and_eq_true] at h
    rw [star_cons h.1]
    show (false || (backTo pos (starEach es env)).any (·.1)) = false
    rw [back_any h.2]
    rfl
theorem fin_eq {ir : E} (h : finK ir = true) {K : XP} {env : VE} {vh : VH} {Q : QE} : wpE Φ Γ ir K true env vh Q = wpE Φ Γ ir K false env vh fun x e h => fin true x e h Q := by
  cases ir <;> first | rfl | cases h
theorem true_eq {e : Expr} (h : plainT e = true) (env : Env) : ∀ whole, isTrue e env whole = (do let v ← whole; standAt e.pos; holding [v] (truthy v)) := by
  intro whole
  cases e with
  | UnaryOp op a p => cases op <;> first | rfl | cases h
  | BoolOp _ _ _ => cases h
  | IfExp _ _ _ _ => cases h
  | Compare _ _ _ _ => cases h
  | _ => rfl
theorem plainIx_ok {b : Expr} (h : plainIx b = true) : PlainIx b := by
  intro o i
  cases b <;> first | rfl | cases h
theorem notSet_ok {e : Expr} (h : notSet e = true) (env : Env) : ∀ x, foldedSetIterable e env x = pure x := by
  intro x
  cases e <;> first | rfl | cases h
theorem mE (ir : E) (K : XP) (t : Bool) : ∀ env vh (Q Q' : QE), (∀ x e h, Q x e h → Q' x e h) → wpE Φ Γ ir K t env vh Q → wpE Φ Γ ir K t env vh Q' := wpE_mono ir K t
theorem mO (ir : E) (K : XP) : ∀ env vh (Q Q' : Op → VE → VH → Prop), (∀ x e h, Q x e h → Q' x e h) → asO ir (wpE Φ Γ ir) K env vh Q → asO ir (wpE Φ Γ ir) K env vh Q' := fun env vh Q Q' => asO_mono (wpE_mono ir K false env vh)
theorem mEs (irs : List E) (K : XP) : ∀ env vh (Q Q' : List D → VE → VH → Prop), (∀ x e h, Q x e h → Q' x e h) → wpEs Φ Γ irs K env vh Q → wpEs Φ Γ irs K env vh Q' := wpEs_mono irs K
theorem mOs (irs : List E) (K : XP) : ∀ env vh (Q Q' : List Op → VE → VH → Prop), (∀ x e h, Q x e h → Q' x e h) → wpOs Φ Γ irs K env vh Q → wpOs Φ Γ irs K env vh Q' := wpOs_mono irs K
abbrev OkV (X : Cx) (G : Wd) (B : Base) (K : XP) (Φ : Fns) (Γ : Cns) (e : Expr) (ir : E) : Prop := PE X e (tD G B (wpE Φ Γ ir K false))
abbrev OkO (X : Cx) (G : Wd) (B : Base) (K : XP) (Φ : Fns) (Γ : Cns) (e : Expr) (ir : E) : Prop := PE X e (tO G B (asO ir (wpE Φ Γ ir) K))
abbrev OkT (X : Cx) (G : Wd) (B : Base) (K : XP) (Φ : Fns) (Γ : Cns) (e : Expr) (ir : E) : Prop := PT X e (tB G B (wpE Φ Γ ir K true)) ∧ ∀ op vs pos, e = .BoolOp op vs pos → PW X e (tB G B (wpE Φ Γ ir K true))
theorem asO_no {ir : E} (h : isBor ir = false) {w : XP → Bool → VE → VH → QE → Prop} {K : XP} : asO ir w K = fun env vh Q => w K false env vh fun x e1 h1 => Q (.dat x.d) e1 h1 := by
  cases ir <;> first | rfl | cases h
theorem okO_of {e : Expr} {ir : E} (h : OkV X G B K Φ Γ e ir) (hb : isBor ir = false) : OkO X G B K Φ Γ e ir := by
  unfold OkO
  rw [asO_no hb]
  exact ro_val h (mE ir K false)
theorem noBor_ok {o : Option E} {ir : E} (h : noBor o = some ir) : o = some ir ∧ isBor ir = false := by
  unfold noBor at h
  split at h
  · split at h
    · cases h
    · rename_i e hb
      cases h
      exact ⟨rfl, by simpa using hb⟩
  · cases h
theorem o2_ok {α β γ : Type} {f : α → β → γ} {a : Option α} {b : Option β} {r : γ} (h : o2 f a b = some r) : ∃ x y, a = some x ∧ b = some y ∧ r = f x y := by
  cases a <;> cases b <;> first | (cases h; done) | (cases h; exact ⟨_, _, rfl, rfl, rfl⟩)
theorem o3_ok {α β γ δ : Type} {f : α → β → γ → δ} {a : Option α} {b : Option β} {c : Option γ} {r : δ} (h : o3 f a b c = some r) : ∃ x y z, a = some x ∧ b = some y ∧ c = some z ∧ r = f x y z := by
  cases a <;> cases b <;> cases c <;> first | (cases h; done) | (cases h; exact ⟨_, _, _, rfl, rfl, rfl, rfl⟩)
theorem guard_ok {α : Type} {b : Bool} {x : Option α} {r : α} (h : guardO b x = some r) : b = true ∧ x = some r := by
  cases b
  · cases h
  · exact ⟨rfl, h⟩
theorem map_ok {α β : Type} {f : α → β} {a : Option α} {r : β} (h : a.map f = some r) : ∃ x, a = some x ∧ r = f x := by
  cases a
  · cases h
  · cases h; exact ⟨_, rfl, rfl⟩
theorem trL_cons {f : Expr → Option E} {e : Expr} {es : List Expr} {irs : List E} (h : trL f (e :: es) = some irs) : ∃ a b, irs = a :: b ∧ plainE e = true ∧ f e = some a ∧ trL f es = some b := by
  have h : (if plainE e then (match f e, trL f es with
    | some a, some b => some (a :: b)
    | _, _ => none) else none) = some irs := h
  split at h
  · rename_i hp
    split at h
    · rename_i a b h1 h2
      cases h
      exact ⟨a, b, rfl, hp, h1, h2⟩
    · cases h
  · cases h
theorem trL_plain {f : Expr → Option E} : ∀ {es : List Expr} {irs : List E}, trL f es = some irs → es.all plainE = true
  | [], _, _ => rfl
  | e :: es, irs, h => by
    obtain ⟨a, b, _, h1, _, h3⟩ := trL_cons h
    rw [List.all_cons, h1, trL_plain h3]
    rfl
theorem trL_V {f : Expr → Option E} (hf : ∀ e ir, f e = some ir → OkV X G B K Φ Γ e ir) : ∀ {es : List Expr} {irs : List E}, trL f es = some irs → PA X es (tL G B (wpEs Φ Γ irs K))
  | [], irs, h => by
    cases h
    exact ra_nil
  | e :: es, irs, h => by
    obtain ⟨a, b, rfl, h1, h2, h3⟩ := trL_cons h
    exact ra_cons (mE a K false) (mEs b K) (hf e a h2) (trL_V hf h3) (star_cons h1)
theorem trL_O {f : Expr → Option E} (hf : ∀ e ir, f e = some ir → OkO X G B K Φ Γ e ir) : ∀ {es : List Expr} {irs : List E}, trL f es = some irs → PA X es (tOs G B (wpOs Φ Γ irs K))
  | [], irs, h => by
    cases h
    exact ros_nil
  | e :: es, irs, h => by
    obtain ⟨a, b, rfl, h1, h2, h3⟩ := trL_cons h
    exact ros_cons (mO a K) (mOs b K) (hf e a h2) (trL_O hf h3) (star_cons h1)
theorem tyOf_ok (k : Cok X G B K Φ Γ c sc) {e : Expr} {n : String} (h : tyOf sc e = some n) : ∃ p, e = .Name (Str.ofString n) p ∧ okTy n = true ∧ Gl X (Str.ofString n) := by
  unfold tyOf at h
  split at h
  · rename_i x p
    split at h
    · rename_i n' hn
      split at h
      · rename_i hg
        cases h
        rw [Bool.and_eq_true] at hg
        have e := List.find?_some hn
        have e : Str.ofString n = x := of_decide_eq_true e
        subst e
        exact ⟨p, rfl, hg.2, gl_ok k hg.1⟩
      · cases h
    · cases h
  · cases h
theorem tysOf_ok (k : Cok X G B K Φ Γ c sc) : ∀ {es : List Expr} {ns : List String}, tysOf' sc es = some ns → Paired (fun n e => ∃ p, e = Expr.Name (Str.ofString n) p ∧ okTy n = true ∧ Gl X (Str.ofString n)) ns es
  | [], ns, h => by
    cases h
    exact .nil
  | e :: es, ns, h => by
    unfold tysOf' at h
    split at h
    · rename_i a b h1 h2
      cases h
      exact .cons (tyOf_ok k h1) (tysOf_ok k h2)
    · cases h
theorem bf_ok {f : Str} {n : Nat} {g : Bf} (h : bfOf f n = some g) : f = bltN g := by
  unfold bfOf at h
  split at h
  · have e := List.find?_some h
    exact (of_decide_eq_true e).symm
  · have e := List.find?_some h
    exact (of_decide_eq_true e).symm
  · cases h
theorem pairLen {α β : Type} {r : α → β → Prop} {as : List α} {bs : List β} (h : Paired r as bs) : as.length = bs.length := by
  induction h with
  | nil => rfl
  | cons _ _ ih => rw [List.length_cons, List.length_cons, ih]
theorem trIsi_ok (k : Cok X G B K Φ Γ c sc) {fO : Expr → Option E} {args : List Expr} {ir : E} {p pos : Pos} (hO : ∀ e ir, fO e = some ir → OkO X G B K Φ Γ e ir) (hg : Gl X ("isinstance" : Str))
    (h : trIsi fO sc args = some ir) : OkV X G B K Φ Γ (.Call (.Name "isinstance" p) args [] pos) ir := by
  unfold trIsi at h
  split at h
  · rename_i a es kk p2
    obtain ⟨hp, h⟩ := guard_ok h
    rw [Bool.and_eq_true] at hp
    obtain ⟨x, ns, h1, h2, rfl⟩ := o2_ok h
    have ht := tysOf_ok k h2
    have hl : ns.length ≤ 1000 := by
      rw [pairLen ht]
      exact of_decide_eq_true hp.2
    exact re_isiT k.o (mO x K) (hO _ _ h1) hg ht hl (star_cons hp.1)
  · rename_i a t _
    obtain ⟨hp, h⟩ := guard_ok h
    obtain ⟨x, n, h1, h2, rfl⟩ := o2_ok h
    obtain ⟨p2, rfl, h3, h4⟩ := tyOf_ok k h2
    exact re_isi1 k.o (mO x K) (hO _ _ h1) hg h4 h3 (star_cons hp)
  · cases h
theorem trCall_ok (k : Cok X G B K Φ Γ c sc) {fV fO : Expr → Option E} {f : Str} {args : List Expr} {ir : E} {p pos : Pos} (hV : ∀ e ir, fV e = some ir → OkV X G B K Φ Γ e ir) (hO : ∀ e ir, fO e = some ir → OkO X G B K Φ Γ e ir)
    (h : trCall c fV fO sc f args = some ir) : OkV X G B K Φ Γ (.Call (.Name f p) args [] pos) ir := by
  unfold trCall at h
  obtain ⟨hg, h'⟩ := guard_ok h
  clear h
  have hg := gl_ok k hg
  split at h'
  · rename_i hf
    have hf : f ∈ c.fs := by simpa using hf
    obtain ⟨irs, h1, rfl⟩ := map_ok h'
    cases args with
    | nil =>
      cases h1
      exact re_call0 k.o hf hg
    | cons e es =>
      have hp := trL_plain h1
      rw [List.all_cons, Bool.and_eq_true] at hp
      exact re_call k.o (mEs irs K) (trL_V hV h1) hf hg (star_cons hp.1) (back_any hp.2)
  · split at h'
    · rename_i hi
      have hi : f = ("isinstance" : Str) := of_decide_eq_true hi
      subst hi
      exact trIsi_ok k hO hg h'
    · unfold trBlt at h'
      split at h'
      · rename_i g hb
        obtain ⟨irs, h1, rfl⟩ := map_ok h'
        cases args with
        | nil => cases hb
        | cons e es =>
          have hp := trL_plain h1
          rw [List.all_cons, Bool.and_eq_true] at hp
          exact re_blt k.o (mOs irs K) (trL_O hO h1) (bf_ok hb) hg (star_cons hp.1) (back_any hp.2)
      · cases h'

/-! ### targets, iterators -/
theorem wr_ok {cl : Str → Bool} (hN : X.N = c.N) (hs : X.env.scope = sc) (hcl : ∀ x, cl x = true → X.fn x = true) {x : Str} {i : Nat} (h : wrIx c sc cl x = some i) : X.N[i]? = some x ∧ Loc X.env.scope x ∧ (X.fn x = true ∨ X.env.scope.names.lookup x = some .local) := by
  unfold wrIx at h
  split at h
  · split at h
    · rename_i h1
      cases h
      rw [Bool.and_eq_true, Bool.or_eq_true, Bool.and_eq_true] at h1
      rw [hN, hs]
      refine ⟨of_decide_eq_true h1.1, ?_⟩
      rcases h1.2 with q | q
      · exact ⟨.inl (of_decide_eq_true q), .inr (of_decide_eq_true q)⟩
      · exact ⟨.inr (of_decide_eq_true q.1), .inl (hcl x q.2)⟩
    · cases h
  · cases h
theorem wrs_ok {cl : Str → Bool} (nd : X.N.Nodup) (hN : X.N = c.N) (hs : X.env.scope = sc) (hcl : ∀ x, cl x = true → X.fn x = true) : ∀ {es : List Expr} {is : List Nat}, wrIxs c sc cl es = some is →
    PGs X es (gNames is) ∧ (assignEach es X.env).length = is.length ∧ (assignEach es X.env).findIdx? (·.1) = none
  | [], is, h => by
    cases h
    exact ⟨pgs_nil, rfl, rfl⟩
  | .Name x p :: es, is, h => by
    unfold wrIxs at h
    split at h
    · rename_i i is h1 h2
      cases h
      obtain ⟨q1, q2, q3⟩ := wr_ok hN hs hcl h1
      obtain ⟨r1, r2, r3⟩ := wrs_ok nd hN hs hcl h2
      refine ⟨pgs_cons (pg_name nd q1 q2 q3) r1 rfl, ?_, ?_⟩
      · show (assignEach es X.env).length + 1 = _
        rw [r2]
        rfl
      · show List.findIdx? (·.1) ((false, assign (.Name x p) X.env) :: assignEach es X.env) = none
        rw [List.findIdx?_cons, r3]
        rfl
    · cases h
theorem trTg_ok {cl : Str → Bool} (calm : X.calm = true) (hK : X.K = G.K) (nd : X.N.Nodup) (hN : X.N = c.N) (hs : X.env.scope = sc) (hcl : ∀ x, cl x = true → X.fn x = true) {tg : Expr} {t : Tg} (h : trTg c sc cl tg = some t) : PG X tg (gOf G.K t) := by
  unfold trTg at h
  split at h
  · split at h
    · rename_i i h1
      cases h
      obtain ⟨q1, q2, q3⟩ := wr_ok hN hs hcl h1
      exact pg_name nd q1 q2 q3
    · cases h
  · split at h
    · rename_i is h1
      cases h
      obtain ⟨r1, r2, r3⟩ := wrs_ok nd hN hs hcl h1
      show PG X _ (gTup G.K is.length (gNames is))
      rw [← hK]
      exact pg_tup calm r1 r2 r3
    · cases h
  · cases h
/-- what a loop goes through -/
abbrev wI (Φ : Fns) (Γ : Cns) (k : Ik) (es : List E) (K : XP) : VE → VH → (List D → VE → VH → Prop) → Prop := fun env vh Q => wpEs Φ Γ es K env vh fun ds e1 h1 => ∃ items, itemsD k ds = some items ∧ Q items e1 h1
theorem mI (k : Ik) (es : List E) (K : XP) : ∀ env vh (Q Q' : List D → VE → VH → Prop), (∀ x e h, Q x e h → Q' x e h) → wI Φ Γ k es K env vh Q → wI Φ Γ k es K env vh Q' := fun env vh Q Q' f h => wpEs_mono es K env vh _ _ (fun ds e1 h1 ⟨items, p, q⟩ => ⟨items, p, f _ _ _ q⟩) h
theorem trI_ok (k : Cok X G B K Φ Γ c sc) {f : Expr → Option E} (hf : ∀ e ir, f e = some ir → OkV X G B K Φ Γ e ir) {tg iter : Expr} {ik : Ik} {es : List E} (h : trI f sc tg iter = some (ik, es)) :
    PI X tg iter (iD G B (wI Φ Γ ik es K)) ∧ ∀ x, foldedSetIterable iter X.env x = pure x := by
  have seq : ∀ {e : Expr} {ik : Ik} {es : List E}, trSeq f e = some (ik, es) → PI X tg e (iD G B (wI Φ Γ ik es K)) := fun {e ik es} h => by
    obtain ⟨x, h1, h2⟩ := map_ok h
    cases h2
    exact ri_seq k.o.hK (mE x K false) (hf e x h1)
  unfold trI at h
  split at h
  · rename_i x p args pos
    refine ⟨?_, fun _ => rfl⟩
    split at h
    · rename_i hx
      have hx : x = ("range" : Str) := of_decide_eq_true hx
      subst hx
      obtain ⟨hg, h'⟩ := guard_ok h
      clear h
      have hm : X.mg "range" = none := k.o.bl _ (by decide +kernel)
      unfold trRg at h'
      split at h'
      · obtain ⟨es', h1, h2⟩ := map_ok h'
        cases h2
        obtain ⟨_, _, _, hp, _, _⟩ := trL_cons h1
        exact ri_rng1 (mEs es K) (trL_V hf h1) (gl_ok k hg) hm (star_cons hp)
      · obtain ⟨es', h1, h2⟩ := map_ok h'
        cases h2
        obtain ⟨_, _, _, hp, _, h2⟩ := trL_cons h1
        obtain ⟨_, _, _, hp2, _, h3⟩ := trL_cons h2
        exact ri_rng2 (mEs es K) (trL_V hf h1) (gl_ok k hg) hm (by rw [star_cons hp, star_cons hp2]; rfl) (star_cons hp2)
      · obtain ⟨es', h1, h2⟩ := map_ok h'
        cases h2
        have hp := trL_plain h1
        rw [List.all_cons, Bool.and_eq_true] at hp
        exact ri_rng3 (mEs es K) (trL_V hf h1) (gl_ok k hg) hm (star_cons hp.1) (back_any hp.2)
      · cases h'
    · split at h
      · rename_i hx
        have hx : x = ("zip" : Str) := of_decide_eq_true hx
        subst hx
        obtain ⟨hg, h'⟩ := guard_ok h
        clear h
        rw [Bool.and_eq_true] at hg
        have hm : X.mg "zip" = none := k.o.bl _ (by decide +kernel)
        unfold trZp at h'
        split at h'
        · obtain ⟨es', h1, h2⟩ := map_ok h'
          cases h2
          have hp := trL_plain h1
          rw [List.all_cons, Bool.and_eq_true] at hp
          cases tg with
          | Tuple elts kk tpos => exact ri_zip k.o.hK (mEs es K) (trL_V hf h1) (gl_ok k hg.1) hm (star_cons hp.1) (back_any hp.2)
          | _ => cases hg.2
        · cases h'
      · exact seq h
  · obtain ⟨hn, h⟩ := guard_ok h
    exact ⟨seq h, notSet_ok hn X.env⟩
end

/-! ### all expressions -/
def Ok (X : Cx) (G : Wd) (B : Base) (K : XP) (Φ : Fns) (Γ : Cns) : Md → Expr → E → Prop
  | .V => OkV X G B K Φ Γ
  | .O => OkO X G B K Φ Γ
  | .T => OkT X G B K Φ Γ
theorem lc_parts {X : Cx} {G : Wd} {B : Base} {K : XP} {Φ : Fns} {Γ : Cns} {c : Tc} {sc : Scope} (k : Cok X G B K Φ Γ c sc) {f : Md → Scope → Expr → Option E} {elt : Expr} {gens : List Comprehension} {scope : Scope} {ir : E}
    (hV : ∀ e ir, f .V sc e = some ir → OkV X G B K Φ Γ e ir) (hB : ∀ (m : Md) (e : Expr) (ir : E) (X' : Cx) (B' : Base), Cok X' G B' (fun _ _ _ _ => False) Φ Γ c (relS scope sc) → f m (relS scope sc) e = some ir → Ok X' G B' (fun _ _ _ _ => False) Φ Γ m e ir)
    (h : trLc c f sc elt gens scope = some ir) :
    ∃ (tg iter : Expr) (ifs : List Expr) (own : List (Str × Nat)) (wi : TI) (g : TG) (tt : TT) (te : TE), gens = [⟨tg, iter, ifs, 0⟩] ∧ PI X tg iter wi ∧ BlkOk X.N X.env.scope scope own ∧
      (∀ (s : Shared) (H : Hp) (C : Addr) (cl : List (Str × Addr)) (fp : List Addr), PG (X.blk s H scope (compEnvC scope cl C X.env) fp) tg g) ∧ (∀ (s : Shared) (H : Hp) (C : Addr) (cl : List (Str × Addr)) (fp : List Addr), PTs (X.blk s H scope (compEnvC scope cl C X.env) fp) ifs tt) ∧
      (∀ (s : Shared) (H : Hp) (C : Addr) (cl : List (Str × Addr)) (fp : List Addr), PE (X.blk s H scope (compEnvC scope cl C X.env) fp) elt te) ∧ (∀ x, foldedSetIterable iter X.env x = pure x) ∧
      ∀ σ H Q, tD G B (wpE Φ Γ ir K false) σ H Q → tLc wi g tt te (own.map (·.2)) σ H Q := by
  unfold trLc at h
  split at h
  · rename_i tg iter ifs as
    split at h
    · rename_i tgI ik es el cs g1 g2 g3 g4
      obtain ⟨hc, h⟩ := guard_ok h
      cases h
      rw [Bool.and_eq_true, Bool.and_eq_true, Bool.and_eq_true] at hc
      obtain ⟨⟨⟨c1, c2⟩, c3⟩, c4⟩ := hc
      have c1 : as = 0 := of_decide_eq_true c1
      subst c1
      have c4 : cs.length ≤ 1 := of_decide_eq_true c4
      have hsub : ∀ i, i ∈ tgIx tgI → i ∈ (ownOf c.N scope).map (·.2) := fun i hi => by
        unfold subB at c3
        rw [List.all_eq_true] at c3
        exact of_decide_eq_true (c3 i hi)
      have ok : BlkOk X.N X.env.scope scope (ownOf c.N scope) := by rw [k.hN, k.hs]; exact blkOk_by c2
      obtain ⟨hi, hfs⟩ := trI_ok (tg := tg) k hV g2
      have kb : ∀ (B' : Base) (s : Shared) (H : Hp) (C : Addr) (cl : List (Str × Addr)) (fp : List Addr), Cok (X.blk s H scope (compEnvC scope cl C X.env) fp) G B' (fun _ _ _ _ => False) Φ Γ c (relS scope sc) := fun B' s H C cl fp =>
        ⟨k.o.blk B' s H scope _ fp, k.hN, by
          show relS scope X.env.scope = _
          rw [k.hs]⟩
      have ht : ∀ (s : Shared) (H : Hp) (C : Addr) (cl : List (Str × Addr)) (fp : List Addr), PTs (X.blk s H scope (compEnvC scope cl C X.env) fp) ifs (tW G (wpTs Φ Γ cs)) := fun s H C cl fp => by
        cases ifs with
        | nil =>
          cases g4
          exact pts_w0
        | cons t ts =>
          obtain ⟨a, b, rfl, p1, p2, p3⟩ := trL_cons g4
          cases ts with
          | nil =>
            cases p3
            exact pts_w1 (mE a _ true) fun B' => (hB .T _ _ _ B' (kb B' s H C cl fp) p2).1
          | cons t2 ts =>
            obtain ⟨a2, b2, rfl, _, _, _⟩ := trL_cons p3
            simp at c4
      refine ⟨tg, iter, ifs, _, _, _, _, _, rfl, hi, ok, fun s H C cl fp => trTg_ok (X := X.blk s H scope (compEnvC scope cl C X.env) fp) k.o.calm k.o.hK k.o.nd k.hN (by show relS scope X.env.scope = _; rw [k.hs]) (fun x hx => by
          show (scope.names.lookup x == some .cell) = true
          rw [of_decide_eq_true hx]
          rfl) g1, ht, fun s H C cl fp => pe_all fun B' => hB .V _ _ _ B' (kb B' s H C cl fp) g3, hfs, ?_⟩
      exact lc_sound (mI ik es K) (fun env vh Q Q' f h => wpTs_mono cs env vh Q Q' f h) (mE el _ false) hsub
    · cases h
  · cases h
theorem bor_noV {c : Tc} : ∀ {n : Nat} {sc : Scope} {e : Expr} {ir : E}, tr c n .V sc e = some ir → True := fun _ => trivial
theorem tr_ok {G : Wd} {Φ : Fns} {Γ : Cns} {c : Tc} : ∀ (n : Nat) (m : Md) (sc : Scope) (e : Expr) (ir : E) (X : Cx) (B : Base) (K : XP), Cok X G B K Φ Γ c sc → tr c n m sc e = some ir → Ok X G B K Φ Γ m e ir
  | 0, m, sc, e, ir, X, B, K, k, h => by
    cases m <;> cases h
  | n + 1, .O, sc, e, ir, X, B, K, k, h => by
    have ih := tr_ok (G := G) (Φ := Φ) (Γ := Γ) (c := c) n
    have hV : ∀ e ir, tr c n .V sc e = some ir → OkV X G B K Φ Γ e ir := fun e ir h => ih .V sc e ir X B K k h
    replace h : trO1 c (tr c n) sc e = some ir := h
    unfold trO1 at h
    split at h
    · split at h
      · rename_i x p i hs
        cases h
        exact ro_bor (pe_slot k hs)
      · obtain ⟨h1, h2⟩ := noBor_ok h
        exact okO_of (hV _ _ h1) h2
    · obtain ⟨h1, h2⟩ := noBor_ok h
      exact okO_of (hV _ _ h1) h2
  | n + 1, .T, sc, e, ir, X, B, K, k, h => by
    have ih := tr_ok (G := G) (Φ := Φ) (Γ := Γ) (c := c) n
    have hV : ∀ e ir, tr c n .V sc e = some ir → OkV X G B K Φ Γ e ir := fun e ir h => ih .V sc e ir X B K k h
    have hO : ∀ e ir, tr c n .O sc e = some ir → OkO X G B K Φ Γ e ir := fun e ir h => ih .O sc e ir X B K k h
    have hT : ∀ e ir, tr c n .T sc e = some ir → OkT X G B K Φ Γ e ir := fun e ir h => ih .T sc e ir X B K k h
    replace h : trT1 c (tr c n) sc e = some ir := h
    unfold trT1 at h
    split at h
    · obtain ⟨a, h1, rfl⟩ := map_ok h
      exact ⟨rt_not (mE a K true) (hT _ _ h1).1, fun op vs pos e => by cases e⟩
    · rename_i op a pos
      have q := (hT _ _ h).1
      have w : PW X (.BoolOp op [a] pos) (tB G B (wpE Φ Γ ir K true)) := by
        cases op
        · exact pw_and1 q
        · exact pw_or1 q
      exact ⟨w.pt, fun op' vs pos' e => w⟩
    · obtain ⟨a, b, h1, h2, rfl⟩ := o2_ok h
      have w := rt_and (mE a K true) (mE b K true) (hT _ _ h1).1 ((hT _ _ h2).2 _ _ _ rfl)
      exact ⟨w.pt, fun op' vs pos' e => w⟩
    · obtain ⟨a, b, h1, h2, rfl⟩ := o2_ok h
      have w := rt_or (mE a K true) (mE b K true) (hT _ _ h1).1 ((hT _ _ h2).2 _ _ _ rfl)
      exact ⟨w.pt, fun op' vs pos' e => w⟩
    · obtain ⟨t, a, b, h1, h2, h3, rfl⟩ := o3_ok h
      exact ⟨rt_ite (mE t K true) (mE a K true) (mE b K true) (hT _ _ h1).1 (hT _ _ h2).1 (hT _ _ h3).1, fun op vs pos e => by cases e⟩
    · obtain ⟨hm, h⟩ := guard_ok h
      obtain ⟨a, b, h1, h2, rfl⟩ := o2_ok h
      exact ⟨rt_cmp k.o (mO a K) (mO b K) (hO _ _ h1) (hO _ _ h2) (by simpa using hm), fun op vs pos e => by cases e⟩
    · obtain ⟨hm, h⟩ := guard_ok h
      obtain ⟨a, b, d, h1, h2, h3, rfl⟩ := o3_ok h
      exact ⟨rt_chain k.o (mO a K) (mO b K) (mO d K) (hO _ _ h1) (hO _ _ h2) (hO _ _ h3) (by simpa using hm), fun op vs pos e => by cases e⟩
    · split at h
      · rename_i x p i hs
        cases h
        exact ⟨rt_bor k.o (pe_slot k hs) (true_eq rfl X.env), fun op vs pos e => by cases e⟩
      · split at h
        · rename_i x p _ ir' h1
          obtain ⟨hf, h⟩ := guard_ok h
          cases h
          refine ⟨tB_of (rt_truth k.o (hV _ _ h1) (mE ir K false) (true_eq rfl X.env)) fun env vh Q q => ?_, fun op vs pos e => by cases e⟩
          rw [fin_eq hf] at q
          exact q
        · cases h
    · obtain ⟨hp, h⟩ := guard_ok h
      split at h
      · rename_i ir' h1
        obtain ⟨hf, h⟩ := guard_ok h
        cases h
        refine ⟨tB_of (rt_truth k.o (hV _ _ h1) (mE ir K false) (true_eq hp X.env)) fun env vh Q q => ?_, fun op vs pos e => by subst e; cases hp⟩
        rw [fin_eq hf] at q
        exact q
      · cases h
  | n + 1, .V, sc, e, ir, X, B, K, k, h => by
    have ih := tr_ok (G := G) (Φ := Φ) (Γ := Γ) (c := c) n
    have hV : ∀ e ir, tr c n .V sc e = some ir → OkV X G B K Φ Γ e ir := fun e ir h => ih .V sc e ir X B K k h
    have hO : ∀ e ir, tr c n .O sc e = some ir → OkO X G B K Φ Γ e ir := fun e ir h => ih .O sc e ir X B K k h
    have hT : ∀ e ir, tr c n .T sc e = some ir → OkT X G B K Φ Γ e ir := fun e ir h => ih .T sc e ir X B K k h
    show OkV X G B K Φ Γ e ir
    replace h : trV1 c (tr c n) sc e = some ir := h
    unfold trV1 at h
    split at h
    · cases h; exact re_flat pe_non fun _ _ _ => rfl
    · cases h; exact re_flat pe_bl fun _ _ _ => rfl
    · cases h; exact re_flat pe_int fun _ _ _ => rfl
    · cases h; exact re_flat pe_str fun _ _ _ => rfl
    · split at h
      · rename_i x p i hs
        cases h
        exact re_var (pe_slot k hs)
      · obtain ⟨hg, h⟩ := guard_ok h
        cases h
        exact re_glo k.o (gl_ok k hg)
    · obtain ⟨irs, h1, rfl⟩ := map_ok h
      exact re_tup (mEs irs K) (trL_V hV h1)
    · obtain ⟨irs, h1, rfl⟩ := map_ok h
      exact re_lst (mEs irs K) (trL_V hV h1)
    · obtain ⟨a, b, h1, h2, rfl⟩ := o2_ok h
      exact re_bin k.o (mO a K) (mO b K) (hO _ _ h1) (hO _ _ h2)
    · obtain ⟨a, h1, rfl⟩ := map_ok h
      exact re_neg (mE a K false) (hV _ _ h1)
    · obtain ⟨a, h1, rfl⟩ := map_ok h
      exact re_not k.o (mO a K) (hO _ _ h1)
    · exact pe_one (hV _ _ h)
    · obtain ⟨a, b, h1, h2, rfl⟩ := o2_ok h
      exact re_and k.o (mE a K false) (mE b K false) (hV _ _ h1) (hV _ _ h2)
    · obtain ⟨a, b, h1, h2, rfl⟩ := o2_ok h
      exact re_or k.o (mE a K false) (mE b K false) (hV _ _ h1) (hV _ _ h2)
    · obtain ⟨t, a, b, h1, h2, h3, rfl⟩ := o3_ok h
      exact re_ite (mE t K true) (mE a K false) (mE b K false) (hT _ _ h1).1 (hV _ _ h2) (hV _ _ h3)
    · obtain ⟨hm, h⟩ := guard_ok h
      obtain ⟨a, b, h1, h2, rfl⟩ := o2_ok h
      exact re_cmp k.o (mO a K) (mO b K) (hO _ _ h1) (hO _ _ h2) (by simpa using hm)
    · obtain ⟨hm, h⟩ := guard_ok h
      obtain ⟨a, b, d, h1, h2, h3, rfl⟩ := o3_ok h
      exact re_chain k.o (mO a K) (mO b K) (mO d K) (hO _ _ h1) (hO _ _ h2) (hO _ _ h3) (by simpa using hm)
    · rename_i a lo hi p2 pos
      obtain ⟨x, l, u, h1, h2, h3, rfl⟩ := o3_ok h
      have part : ∀ {q : Option Expr} {l : E}, trP (tr c n .V sc) q = some l → ((q = none ∧ ∀ env vh (Q : QE), wpE Φ Γ l K false env vh Q → Q (.v .non) env vh) ∨ ∃ e, q = some e ∧ PE X e (tD G B (wpE Φ Γ l K false))) := fun {q l} h => by
        cases q with
        | none => cases h; exact .inl ⟨rfl, fun _ _ _ z => z⟩
        | some e => exact .inr ⟨e, rfl, hV e l h⟩
      exact re_sli k.o (mO x K) (mE l K false) (mE u K false) (hO _ _ h1) (part h2) (part h3)
    · obtain ⟨hp, h⟩ := guard_ok h
      obtain ⟨a, b, h1, h2, rfl⟩ := o2_ok h
      exact re_idx k.o (mO a K) (mO b K) (hO _ _ h1) (hO _ _ h2) (plainIx_ok hp)
    · exact trCall_ok k hV hO h
    · obtain ⟨tg, iter, ifs, own, wi, g, tt, te, rfl, hi, ok, hg, ht, he, hs, im⟩ := lc_parts k hV (fun m e ir X' B' k' h' => ih m _ e ir X' B' _ k' h') h
      exact (pe_lc k.o.calm k.o.nd hi ok hg ht he hs).imp im
    · cases h
end R

namespace R
open PySem PySem.Spec PyProof.Rows L2
/-! ## R9: statements, from the text -/
def notLc : Expr → Bool
  | .ListComp _ _ _ _ => false
  | .SetComp _ _ _ _ => false
  | .DictComp _ _ _ _ _ => false
  | _ => true
def notTup : Expr → Bool
  | .Tuple _ _ _ => false
  | _ => true
def noCall : Expr → Bool
  | .Call _ _ _ _ => false
  | _ => true
def stOf (c : Tc) (x : Str) (i : Nat) (e : E) : S := if c.own.contains x then .setO i e else if c.sh.contains x then .setS i e else .set i e
def parB (sc : Scope) (x y : Str) (px py : Pos) (a b : Expr) : Bool := decide (sc.kind = .function) && decide (sc.names.lookup x = some .local) && decide (sc.names.lookup y = some .local) && (py.line == px.line) && !(x == y) && plainE a && plainE b &&
  !([a, b].all (foldedForSure 8)) && !([a, b].all (constantsAlone 8))
def lcB (sc scope : Scope) (x : Str) (p cpos : Pos) : Bool := decide (sc.kind = .function) && decide (sc.names.lookup x = some .local) && (p.line == cpos.line) && !(scope.names.any fun (n, k) => n == x && (k == .local || k == .cell))
def neB (i j : Nat) : Bool := !decide (i = j)
def trS1 (c : Tc) (fB : List Stmt → Option (List S)) (f : Md → Scope → Expr → Option E) (sc : Scope) (st : Stmt) : Option S := match st with
  | .Pass _ => some .pass
  | .Break _ => some .brk
  | .Continue _ => some .cont
  | .Raise _ _ _ => some .never
  | .Return none _ => some .retN
  | .Return (some (.Name x p)) _ => if c.own.contains x then (slotOf c sc x).map .retO else (f .V sc (.Name x p)).map .ret
  | .Return (some e) _ => (f .V sc e).map .ret
  | .Expr (.Constant (.str _) _ _) _ => some .pass
  | .Expr (.Call (.Attribute a m apos) [e] [] cpos) _ => guardO (decide (m = ("append" : Str)) && plainE e && noCall a && (apos.endLine == cpos.line)) (o2 .app (f .O sc a) (f .V sc e))
  | .Expr e _ => guardO (notLc e) ((f .V sc e).map .expr)
  | .Assign [.Name x p] (.ListComp elt gens scope cpos) _ => guardO (lcB sc scope x p cpos) (o2 (stOf c x) (wrIx c sc (fun _ => true) x) (trLc c f sc elt gens scope))
  | .Assign [.Name x p] e _ => guardO (notLc e) (o2 (stOf c x) (wrIx c sc (fun _ => true) x) (f .V sc e))
  | .Assign [.Tuple [.Name x px, .Name y py] kt pt] (.Tuple [a, b] k2 pt2) _ => guardO (parB sc x y px py a b) (match wrIx c sc (fun _ => true) x, wrIx c sc (fun _ => true) y, f .V sc a, f .V sc b with
    | some i, some j, some u, some v => guardO (neB i j) (some (.par i j u v))
    | _, _, _, _ => none)
  | .Assign [.Tuple ts kt pt] e _ => guardO (notLc e && notTup e) (o2 .unp (wrIxs c sc (fun _ => true) ts) (f .V sc e))
  | .Assign [.Subscript a i _] e _ => guardO (plainIx i) (o3 .sidx (f .O sc a) (f .V sc i) (f .V sc e))
  | .AugAssign (.Name x _) op e _ => o2 (fun i e => .aug i op e) (wrIx c sc (fun _ => true) x) (f .V sc e)
  | .If t a b _ => o3 .cond (f .T sc t) (fB a) (fB b)
  | .For tg iter body [] _ => match trTg c sc (fun _ => true) tg, trI (f .V sc) sc tg iter, fB body with
    | some t, some (k, es), some b => some (.forS t k es b)
    | _, _, _ => none
  | .While t body [] _ => o2 .whl (f .T sc t) (fB body)
  | _ => none
def trB (c : Tc) (m : Nat) (sc : Scope) : Nat → List Stmt → Option (List S)
  | 0, _ => none
  | n + 1, [] => some []
  | n + 1, st :: ss => (trB c m sc n ss).map fun r => ((trS1 c (trB c m sc n) (tr c m) sc st).getD .never) :: r

structure Sk (X : Cx) (G : Wd) (B : Base) (K : XP) (Φ : Fns) (Γ : Cns) (c : Tc) (sc : Scope) : Prop where
  o : SOk X G B K Φ Γ c.fs
  hN : X.N = c.N
  hs : X.env.scope = sc
section
variable {X : Cx} {G : Wd} {B : Base} {K : XP} {Φ : Fns} {Γ : Cns} {c : Tc} {sc : Scope}
theorem Sk.cok (k : Sk X G B K Φ Γ c sc) : Cok X G B K Φ Γ c sc := ⟨k.o.toXOk, k.hN, k.hs⟩
theorem swaps_no {e : Expr} (h : notLc e = true) (t : Option Expr) (l : Nat) (env : Env) : swapsWith e t l env = pure false := by
  cases e <;> first | rfl | cases h
theorem stOf_ok {we : E} {x : Str} {i : Nat} {st : Stmt} (h : PAs X G B st i (wpE Φ Γ we K false)) : PS X st (tS G B fun V env vh => wpS Φ Γ (stOf c x i we) K V env vh) := by
  unfold stOf
  split
  · exact rs_setO (mE we K false) h
  · split
    · exact rs_setS (mE we K false) h
    · exact rs_set (mE we K false) h
theorem par_ok {x y : Str} {px py pt pt2 : Pos} {kt k2 : Nat} {a b : Expr} (hs : X.env.scope = sc) (h : parB sc x y px py a b = true) : swappedStores [.Tuple [.Name x px, .Name y py] kt pt] (.Tuple [a, b] k2 pt2) X.env = pure (some [x, y]) := by
  unfold parB at h
  simp only [Bool.and_eq_true, Bool.not_eq_true', decide_eq_true_eq] at h
  obtain ⟨⟨⟨⟨⟨⟨⟨⟨h1, h2⟩, h3⟩, h4⟩, h5⟩, h6⟩, h7⟩, h8⟩, h9⟩ := h
  have kx : X.env.kindOf x = some .local := by show X.env.scope.names.lookup x = _; rw [hs]; exact h2
  have ky : X.env.kindOf y = some .local := by show X.env.scope.names.lookup y = _; rw [hs]; exact h3
  have hb : X.env.blockKind = .function := by unfold Env.blockKind; rw [hs, h1]; rfl
  have ne : ([x, y] : List Str).eraseDups.length = 2 := by
    have hxy : (y == x) = false := by
      cases q : y == x with
      | false => rfl
      | true =>
        have e := eq_of_beq q
        subst e
        simp at h5
    simp [List.eraseDups_cons, hxy]
  have p1 : (X.env.kindOf x == some NameKind.local && px.line == px.line) = true := by rw [kx]; simp
  have p2 : (X.env.kindOf y == some NameKind.local && py.line == px.line) = true := by rw [ky, h4]; rfl
  unfold swappedStores
  simp only [List.length_cons, List.length_nil, hb, List.head?_cons, Option.map_some, Option.getD_some, Expr.pos, List.filterMap_cons, List.filterMap_nil, p1, p2, if_true, ne, h8, h9]
  rw [if_neg (by decide), if_neg]
  · rfl
  · intro hz
    rw [List.any_cons, List.any_cons, List.any_nil, Bool.or_false, Bool.or_eq_true] at hz
    rcases hz with hz | hz
    · cases a <;> first | exact absurd hz Bool.false_ne_true | cases h6
    · cases b <;> first | exact absurd hz Bool.false_ne_true | cases h7
theorem sub_asg {a i : Expr} {tpos : Pos} (h : plainIx i = true) (env : Env) : ∀ v, assign (.Subscript a i tpos) env v = (do
      let ov ← holding [v] (eval a env)
      let iv ← holding [v, ov] (eval i env)
      standAt tpos
      holding [v, ov, iv] (setItem ov iv v)
      release [v, ov, iv] []) := by
  intro v
  cases i <;> first | rfl | cases h
theorem attr_no {a : Expr} {m : Str} {env : Env} {w : Sem Value} (h : noCall a = true) : attributeBase a m env w = w := by
  cases a <;> first | rfl | cases h
theorem swS_no {t : Expr} {e : Expr} {l : Nat} {env : Env} (h : ∀ x p, t ≠ .Name x p) : swapsWithSole [t] e l env = pure false := by
  show swapsWith e (some t) l env = pure false
  cases e <;> first
    | rfl
    | (cases t <;> first | rfl | exact absurd rfl (h _ _))
theorem swp_sub {a i e : Expr} {p : Pos} {env : Env} : swappedStores [.Subscript a i p] e env = pure none := by
  cases e <;> rfl
theorem swp_tup {ts : List Expr} {k : Nat} {p : Pos} {e : Expr} {env : Env} (h : notTup e = true) : swappedStores [.Tuple ts k p] e env = pure none := by
  cases e <;> first | rfl | cases h

theorem trS_ok {n m : Nat} (hB : ∀ (body : List Stmt) (irs : List S) (B : Base), Sk X G B K Φ Γ c sc → trB c m sc n body = some irs → PSs X body (tS G B fun V env vh => wpB Φ Γ irs K V env vh)) (k : Sk X G B K Φ Γ c sc) {st : Stmt} {ir : S}
    (h : trS1 c (trB c m sc n) (tr c m) sc st = some ir) : PS X st (tS G B fun V env vh => wpS Φ Γ ir K V env vh) := by
  have hV : ∀ e ir, tr c m .V sc e = some ir → OkV X G B K Φ Γ e ir := fun e ir h => tr_ok m .V sc e ir X B K k.cok h
  have hO : ∀ e ir, tr c m .O sc e = some ir → OkO X G B K Φ Γ e ir := fun e ir h => tr_ok m .O sc e ir X B K k.cok h
  have hT : ∀ e ir, tr c m .T sc e = some ir → OkT X G B K Φ Γ e ir := fun e ir h => tr_ok m .T sc e ir X B K k.cok h
  have hW : ∀ {x : Str} {i : Nat}, wrIx c sc (fun _ => true) x = some i → X.N[i]? = some x ∧ Loc X.env.scope x := fun {x i} h => by
    obtain ⟨q1, q2, q3⟩ := wr_ok k.hN k.hs (fun x _ => k.o.fnT x) h
    exact ⟨q1, q2⟩
  unfold trS1 at h
  split at h
  · cases h; exact rs_pass
  · cases h; exact rs_break
  · cases h; exact rs_cont
  · cases h; exact rs_never
  · cases h; exact rs_retN
  · split at h
    · obtain ⟨i, h1, rfl⟩ := map_ok h
      exact rs_retO (pe_slot k.cok h1)
    · obtain ⟨e, h1, rfl⟩ := map_ok h
      exact rs_ret (mE e K false) (hV _ _ h1)
  · obtain ⟨e, h1, rfl⟩ := map_ok h
    exact rs_ret (mE e K false) (hV _ _ h1)
  · cases h; exact rs_doc
  · rename_i a mm apos e cpos pos
    obtain ⟨hg, h'⟩ := guard_ok h
    clear h
    simp only [Bool.and_eq_true] at hg
    obtain ⟨⟨⟨g1, g2⟩, g3⟩, g4⟩ := hg
    have g1 : mm = ("append" : Str) := of_decide_eq_true g1
    subst g1
    obtain ⟨u, v, h1, h2, rfl⟩ := o2_ok h'
    exact rs_app k.o (mO u K) (mE v K false) (hO _ _ h1) (hV _ _ h2) (attr_no g3) g4 (star_cons g2)
  · obtain ⟨hg, h⟩ := guard_ok h
    obtain ⟨e, h1, rfl⟩ := map_ok h
    exact rs_expr (mE e K false) (hV _ _ h1) (swaps_no hg _ _ _)
  · rename_i x p elt gens scope cpos pos
    obtain ⟨hg, h⟩ := guard_ok h
    obtain ⟨i, e, h1, h2, rfl⟩ := o2_ok h
    unfold lcB at hg
    simp only [Bool.and_eq_true, Bool.not_eq_true', decide_eq_true_eq] at hg
    obtain ⟨⟨⟨g1, g2⟩, g3⟩, g4⟩ := hg
    obtain ⟨q1, q2⟩ := hW h1
    obtain ⟨tg, iter, ifs, own, wi, g, tt, te, rfl, hi, ok, hgg, ht, he, hs, im⟩ := lc_parts k.cok hV (fun m' e ir X' B' k' h' => tr_ok m m' _ e ir X' B' _ k' h') h2
    refine stOf_ok ((ps_setLc (pos := cpos) (spos := pos) (py := p) k.o.calm k.o.nd q1 (by rw [k.hs]; exact g2) (sw_true (by rw [k.hs]; exact g1) (by rw [k.hs]; exact g2) g3 g4) hi ok hgg ht he hs).imp fun D σ H z => im _ _ _ z)
  · rename_i x p e pos _
    obtain ⟨hg, h⟩ := guard_ok h
    obtain ⟨i, ir, h1, h2, rfl⟩ := o2_ok h
    obtain ⟨q1, q2⟩ := hW h1
    exact stOf_ok (pas_set k.o q1 q2 (hV _ _ h2) (swaps_no hg _ _ _))
  · rename_i x px y py kt pt a b k2 pt2 pos
    obtain ⟨hg, h⟩ := guard_ok h
    split at h
    · rename_i i j u v h1 h2 h3 h4
      obtain ⟨hn, h⟩ := guard_ok h
      cases h
      have hg0 := hg
      unfold parB at hg
      simp only [Bool.and_eq_true, Bool.not_eq_true', decide_eq_true_eq] at hg
      obtain ⟨⟨⟨⟨⟨⟨⟨⟨g1, g2⟩, g3⟩, g4⟩, g5⟩, g6⟩, g7⟩, g8⟩, g9⟩ := hg
      have hij : i ≠ j := by
        unfold neB at hn
        simpa using hn
      exact rs_par k.o (mEs [u, v] K) (hW h1).1 (hW h2).1 hij (by rw [k.hs]; exact g2) (by rw [k.hs]; exact g3) (ra_cons (mE u K false) (mEs [v] K) (hV _ _ h3) (ra_cons (mE v K false) (mEs [] K) (hV _ _ h4) ra_nil (star_cons g7)) (star_cons g6)) (par_ok k.hs hg0) (swS_no fun _ _ e => by cases e)
    · cases h
  · rename_i ts kt pt e pos _
    obtain ⟨hg, h⟩ := guard_ok h
    rw [Bool.and_eq_true] at hg
    obtain ⟨is, ir, h1, h2, rfl⟩ := o2_ok h
    obtain ⟨r1, r2, r3⟩ := wrs_ok k.o.nd k.hN k.hs (fun x _ => k.o.fnT x) h1
    refine rs_unp k.o (mE ir K false) (hV _ _ h2) ?_ (swS_no fun _ _ e => by cases e) (swp_tup hg.2) rfl
    show PG X _ (gTup G.K is.length (gNames is))
    rw [← k.o.hK]
    exact pg_tup k.o.calm r1 r2 r3
  · rename_i a i tpos e pos
    obtain ⟨hg, h⟩ := guard_ok h
    obtain ⟨u, v, w, h1, h2, h3, rfl⟩ := o3_ok h
    exact rs_sidx k.o (mO u K) (mE v K false) (mE w K false) (hO _ _ h1) (hV _ _ h2) (hV _ _ h3) (sub_asg hg _) (swS_no fun _ _ e => by cases e) swp_sub rfl
  · obtain ⟨i, e, h1, h2, rfl⟩ := o2_ok h
    obtain ⟨q1, q2⟩ := hW h1
    exact rs_aug k.o (mE e K false) q1 q2 (hV _ _ h2)
  · obtain ⟨t, a, b, h1, h2, h3, rfl⟩ := o3_ok h
    exact rs_cond (mE t K true) (hT _ _ h1).1 (hB _ _ _ k h2) (hB _ _ _ k h3)
  · rename_i tg iter body pos
    split at h
    · rename_i t ik es b h1 h2 h3
      cases h
      obtain ⟨hi, hfs⟩ := trI_ok (tg := tg) k.cok hV h2
      have key := rs_for k.o (mI ik es K) (body := body) (pos := pos) (wb := fun V env vh => wpB Φ Γ b K V env vh) hi (trTg_ok k.o.calm k.o.hK k.o.nd k.hN k.hs (fun x _ => k.o.fnT x) h1) (fun B' o' => hB _ _ B' ⟨o', k.hN, k.hs⟩ h3) hfs
      exact key
    · cases h
  · obtain ⟨t, b, h1, h2, rfl⟩ := o2_ok h
    exact rs_whl k.o (mE t K true) (hT _ _ h1).1 (hB _ _ _ k h2)
  · cases h
theorem trB_ok {m : Nat} : ∀ (n : Nat) (body : List Stmt) (irs : List S) (B : Base), Sk X G B K Φ Γ c sc → trB c m sc n body = some irs → PSs X body (tS G B fun V env vh => wpB Φ Γ irs K V env vh)
  | 0, _, _, _, _, h => by cases h
  | n + 1, [], irs, B, k, h => by
    cases h
    exact rs_nil
  | n + 1, st :: ss, irs, B, k, h => by
    obtain ⟨b, h2, rfl⟩ := map_ok (show (trB c m sc n ss).map (fun r => ((trS1 c (trB c m sc n) (tr c m) sc st).getD .never) :: r) = some irs from h)
    cases q : trS1 c (trB c m sc n) (tr c m) sc st with
    | none => exact rs_cons (w1 := fun V env vh => wpS Φ Γ .never K V env vh) (w2 := fun V env vh => wpB Φ Γ b K V env vh) rs_never (trB_ok n ss b B k h2)
    | some a => exact rs_cons (w1 := fun V env vh => wpS Φ Γ a K V env vh) (w2 := fun V env vh => wpB Φ Γ b K V env vh) (trS_ok (fun body irs B => trB_ok n body irs B) k q) (trB_ok n ss b B k h2)
end
end R

namespace R
open PySem PySem.Spec PyProof.Rows L2
/-! ## R10: defs -/
def startE (N : List Str) (ds : List D) : VE := ds.map Slot.val ++ List.replicate (N.length - ds.length) Slot.no
/-- the body keeps the promise -/
def Sat (Φ : Fns) (Γ : Cns) (irs : List S) (N ps : List Str) (sp : VSp) : Prop := ∀ ds vh R, sp.run ds vh R → ds.length = ps.length ∧
  wpB Φ Γ irs (fun c xs _ vh => R (.exc c xs) vh) ⟨fun _ vh => R (.ok (.v .non)) vh, fun x vh => R (.ok x) vh, fun _ _ => False, fun _ _ => False⟩ (startE N ds) vh
/-- a def that may be called by its name -/
structure Df (P : Program) (w : World) (K : PySem.W.Frag) (mg : Str → Option Value) (base : Heap) (G : Wd) (k : Nat) (x : Str) (sp : VSp) : Prop where
  ex : ∃ (a : Addr) (fd : FuncData) (ps : List Str), mg x = some (.ref a) ∧ PySem.W.keepIn K (.ref a) = true ∧ Binds K fd ps [] ∧ FnOk P w K mg base (L2.CX P w) k a fd ps (spV G sp) ∧ (x == ("__debug__" : Str)) = false
theorem Df.mono {P : Program} {w : World} {K : PySem.W.Frag} {mg : Str → Option Value} {base : Heap} {G : Wd} {j k : Nat} {x : Str} {sp : VSp} (h : Df P w K mg base G j x sp) (l : j ≤ k) : Df P w K mg base G k x sp := by
  obtain ⟨a, fd, ps, h1, h2, h3, h4, h5⟩ := h.ex
  exact ⟨a, fd, ps, h1, h2, h3, h4.mono l, h5⟩
/-- a look at the names of a def -/
def defB (N P : List Str) (sc : Scope) : Bool := decide (sc.kind = .function) && (!sc.isCoroutine && (!sc.isGenerator && (decide N.Nodup && (decide (N.take P.length = P) && (P.all (fun x => decide (sc.names.lookup x = some .local) || decide (sc.names.lookup x = some .cell)) && sc.names.all fun y => !decide (y.2 = .free))))))
theorem defB_ok {N P : List Str} {sc : Scope} (h : defB N P sc = true) : FnScope N P sc := by
  unfold defB at h
  simp only [Bool.and_eq_true, Bool.not_eq_true', decide_eq_true_eq, List.all_eq_true, Bool.or_eq_true, decide_eq_false_iff_not] at h
  exact ⟨h.1, h.2.1, h.2.2.1, h.2.2.2.1, h.2.2.2.2.1, h.2.2.2.2.2.1, h.2.2.2.2.2.2⟩
structure Gnd (K : PySem.W.Frag) (mg : Str → Option Value) (G : Wd) (Γ : Cns) : Prop where
  hK : G.K = K
  cn : ∀ x d, Γ x = some d → ∃ u v, mg x = some u ∧ RelV v u ∧ (∀ Z ρ H, RD G Z ρ H d v) ∧ (x == ("__debug__" : Str)) = false
  bl : ∀ x, x ∈ bltNames → mg x = none
section
variable {G : Wd} {B : Base} {ρ : List Addr} {vh : VH} {H : Hp}
theorem startE_length {N : List Str} {ds : List D} (h : ds.length ≤ N.length) : (startE N ds).length = N.length := by
  unfold startE
  rw [List.length_append, List.length_map, List.length_replicate]
  omega
theorem startE_get {N : List Str} {ds : List D} {i : Nat} {s : Slot} (h : (startE N ds)[i]? = some s) : s = .no ∨ ∃ d, s = .val d ∧ ds[i]? = some d := by
  unfold startE at h
  by_cases hi : i < ds.length
  · rw [List.getElem?_append_left (by simpa using hi), List.getElem?_map] at h
    cases e : ds[i]? with
    | none => rw [e] at h; cases h
    | some d => rw [e] at h; cases h; exact .inr ⟨d, rfl, rfl⟩
  · rw [List.getElem?_append_right (by simpa using hi), List.getElem?_replicate] at h
    split at h
    · cases h; exact .inl rfl
    · cases h
theorem Rel.start {N : List Str} {ds : List D} {vs : List V} (R : Rel G B [] ρ [] vh [] H) (h : RDs G (ZZ B.F [] ρ [] []) ρ H ds vs) (hl : ds.length ≤ N.length) : Rel G B [] ρ (startE N ds) vh (L2.start N vs) H := by
  have hO : ∀ i a, Own (startE N ds) (L2.start N vs) a i → False := fun i a ⟨xs, h1, h2⟩ => by
    rcases startE_get h1 with e | ⟨d, e, _⟩ <;> cases e
  refine R.weak (fun _ h => h) R.tn (fun i a z => (hO i a z).elim) ?_ fun i s hs => ?_
  · rw [startE_length hl]
    unfold L2.start
    rw [List.length_append, List.length_map, List.length_replicate, ← h.length]
    omega
  · rcases startE_get hs with rfl | ⟨d, rfl, hd⟩
    · trivial
    · obtain ⟨v, h1, h2⟩ := h.get hd
      refine ⟨v, ?_, RD.move (Mv.less fun b z => ?_) _ _ h2⟩
      · unfold L2.start
        have hi : i < vs.length := (List.getElem?_eq_some_iff.mp h1).1
        rw [List.getElem?_append_left (by simpa using hi), List.getElem?_map, h1]
        rfl
      · rcases z with z | z | z | ⟨j, z⟩
        · exact .inl z
        · exact .inr (.inl z)
        · exact .inr (.inr (.inl z))
        · exact (hO j b z).elim
theorem Rel.leave {T : List Addr} {env : VE} {σ : L2.St} (R : Rel G B T ρ env vh σ H) : Rel G B [] ρ [] vh [] H :=
  R.weak (fun _ h => by cases h) List.nodup_nil (fun i a z => absurd z no_own) rfl fun i s h => by simp at h
theorem leaveMv {T : List Addr} {env : VE} {σ : L2.St} : Mv (ZZ B.F T ρ env σ) ρ H (ZZ B.F [] ρ [] []) ρ H := Mv.less fun b z => by
  rcases z with z | z | z | ⟨j, z⟩
  · exact .inl z
  · cases z
  · exact .inr (.inr (.inl z))
  · exact absurd z no_own
theorem XF.move {Z Z' : Addr → Prop} {ρ' : List Addr} {H' : Hp} {d : Option Addr} {xs : List D} (h : XF G Z ρ H d xs) (m : Mv Z ρ H Z' ρ' H') (e : ∀ a u, d = some a → H a = some u → H' a = some u) : XF G Z' ρ' H' d xs := by
  cases d with
  | none => exact h
  | some a =>
    obtain ⟨ws, vs, h1, h2, h3⟩ := h
    exact ⟨ws, vs, e a _ rfl h1, h2, RDs.move m _ _ h3⟩
end
section
variable {P : Program} {w : World} {K : PySem.W.Frag} {mg : Str → Option Value} {base : Heap} {G : Wd} {Φ : Fns} {Γ : Cns} {c : Tc} {k m n : Nat}
theorem fn_ok {x qual : Str} {st : Stmt} {f : Addr} {fd : FuncData} {ps : List Str} {irs : List S} {sp : VSp} (F : Fun K x qual st f fd) (hsc : defB c.N ps (defScope st) = true) (ht : eqO (trB c m (defScope st) n (defBody st)) irs = true)
    (hfs : ∀ g, g ∈ c.fs → Df P w K mg base G k g (Φ g)) (gd : Gnd K mg G Γ) (sat : Sat Φ Γ irs c.N ps sp) : FnOk P w K mg base (L2.CX P w) (k + 1) f fd ps (spV G sp) := by
  have S := defB_ok hsc
  refine F.okX S (fun vs H Q E h => ?_) fun cdv A outer s H vs Q E hr h => ?_
  · obtain ⟨F0, ρ, vh, ds, R, hds, run⟩ := h
    rw [← hds.length]
    exact (sat _ _ _ run).1
  · obtain ⟨F0, ρ, vh, ds, R, hds, run⟩ := h
    obtain ⟨hl, wp⟩ := sat _ _ _ run
    have hN : ds.length ≤ c.N.length := by
      have := congrArg List.length S.pre
      rw [List.length_take] at this
      omega
    refine ⟨_, trB_ok (Φ := Φ) (Γ := Γ) (c := c) (sc := defScope st) (m := m) n (defBody st) irs ⟨F0, fun a => a ∈ ρ, H, ρ⟩ ⟨?_, rfl, rfl⟩ (eqO_ok ht), ρ, startE c.N ds, vh, _, R.start hds hN, ?_, wp⟩
    · refine { hK := gd.hK.symm, calm := rfl, nd := S.nd, hu := ?_, tk := ?_, fn := fun g hg => ?_, cn := gd.cn, bl := gd.bl, po := passes_of rfl, fnT := fun _ => rfl, stk := rfl, frm := rfl, exN := rfl }
      · exact hr.units
      · refine Takes.imp (W := fun cls d _ H => E cls d H) (takes_of rfl rfl rfl rfl) ?_
        rintro cls d σ H' ⟨c', C, xs, T, ρ', env, vh', hc, e, S', xf, kk⟩
        subst e
        exact kk ρ' C d H' hc S'.leave (xf.move leaveMv fun a u _ h => h)
      · obtain ⟨a, fd', ps', h1, h2, h3, h4, h5⟩ := (hfs g hg).ex
        exact ⟨a, fd', ps', k, h1, h2, h3, h4, hr, h5⟩
    · exact ⟨fun ρ' env' vh' σ' H' R' z => z ρ' .non H' ⟨R'.leave, rfl⟩, fun x v ρ' vh' H' r z => z ρ' v H' r, fun _ _ _ _ _ _ z => z.elim, fun _ _ _ _ _ _ z => z.elim⟩
theorem df_ok {x : Str} {st : Stmt} {f : Addr} {fd : FuncData} {ps : List Str} {irs : List S} {sp : VSp} (F : Fun K x x st f fd) (hm : mg x = some (.ref f)) (b : Binds K fd ps []) (hdb : (x == ("__debug__" : Str)) = false) (hsc : defB c.N ps (defScope st) = true)
    (ht : eqO (trB c m (defScope st) n (defBody st)) irs = true) (hfs : ∀ g, g ∈ c.fs → Df P w K mg base G k g (Φ g)) (gd : Gnd K mg G Γ) (sat : Sat Φ Γ irs c.N ps sp) : Df P w K mg base G (k + 1) x sp :=
  ⟨f, fd, ps, hm, F.kp, b, fn_ok F hsc ht hfs gd sat, hdb⟩
/-- the law's promise, as the end wants it -/
theorem law_end {sp : VSp} {H : Hp} {a : Addr} {ns : List Int} (ho : Only H) (hs : SqL G.K H a (ns.map V.int)) (h : sp.run [.scr ns] [] fun o _ => o = .ok (.v (.bl true))) : spV G sp [.ref a] H (fun v _ => v = .bl true) fun _ _ _ => False := by
  refine ⟨fun _ => False, [], [], [.scr ns], ⟨rfl, List.nodup_nil, List.nodup_nil, fun a h => (by cases h), fun i a z => absurd z no_own, fun i j a z => absurd z no_own, fun a f => f.elim, fun a z => ?_, fun n o a h1 => (by simp at h1), rfl, fun i s h => (by simp at h), fun _ _ h _ => h, fun _ _ h => h, fun a z => ?_, fun _ _ h => h⟩, ⟨.ref a, [], rfl, ⟨a, rfl, ?_⟩, rfl⟩, sp.mono _ _ _ _ (fun o vh' e => ?_) h⟩
  · rcases z with z | z | z | ⟨i, z⟩
    · exact z.elim
    · cases z
    · cases z
    · exact absurd z no_own
  · rcases z with z | z | ⟨i, z⟩
    · cases z
    · cases z
    · exact absurd z no_own
  · rcases hs with hs | hs
    · refine .inl ⟨?_, hs⟩
      rintro (z | z | z | ⟨i, z⟩)
      · exact z
      · cases z
      · cases z
      · exact absurd z no_own
    · exact .inr hs
  · subst e
    rintro ρ' v H' ⟨_, r⟩
    exact r
end
end R

namespace R
open PySem PySem.Spec PyProof.Rows L2
/-! ## R11: steps -/
structure VLe (V V' : VEnds) : Prop where
  nx : ∀ e h, V.nx e h → V'.nx e h
  rt : ∀ x h, V.rt x h → V'.rt x h
  bk : ∀ e h, V.bk e h → V'.bk e h
  ct : ∀ e h, V.ct e h → V'.ct e h
theorem setSh_mono {n : Nat} {k x : D} {vh : VH} {Q Q' : VH → Prop} (f : ∀ h, Q h → Q' h) (h : setSh n k x vh Q) : setSh n k x vh Q' := by
  unfold setSh at *
  split at h <;> first
    | (obtain ⟨m, a, b⟩ := h; exact ⟨m, a, f _ b⟩)
    | exact h
theorem wpSet_mono {o : Op} {k x : D} {env : VE} {vh : VH} {Q Q' : VE → VH → Prop} (f : ∀ e h, Q e h → Q' e h) (h : wpSet o k x env vh Q) : wpSet o k x env vh Q' := by
  unfold wpSet at *
  split at h
  · exact setSh_mono (f _) h
  · exact h
  · split at h
    · exact setSh_mono (f _) h
    · obtain ⟨m, a, b⟩ := h; exact ⟨m, a, f _ _ b⟩
    · exact h
theorem appSh_mono {n : Nat} {x : D} {vh : VH} {Q Q' : VH → Prop} (f : ∀ h, Q h → Q' h) (h : appSh n x vh Q) : appSh n x vh Q' := by
  unfold appSh at *
  split at h
  · exact ⟨h.1, f _ h.2⟩
  · exact h
theorem wpApp_mono {o : Op} {x : D} {env : VE} {vh : VH} {Q Q' : VE → VH → Prop} (f : ∀ e h, Q e h → Q' e h) (h : wpApp o x env vh Q) : wpApp o x env vh Q' := by
  unfold wpApp at *
  split at h
  · exact appSh_mono (f _) h
  · exact h
  · split at h
    · exact appSh_mono (f _) h
    · exact ⟨h.1, f _ _ h.2⟩
    · exact h
theorem wpAug_mono {op : Operator} {c d : D} {Q Q' : D → Prop} (f : ∀ z, Q z → Q' z) (h : wpAug op c d Q) : wpAug op c d Q' := by
  unfold wpAug at *
  split at h <;> first | exact f _ h | exact h
theorem forGo_mono {t t' : D → (VE → VH → Prop) → VE → VH → Prop} (ht : ∀ d N N' e h, (∀ e h, N e h → N' e h) → t d N e h → t' d N' e h) : ∀ (ds : List D) (e : VE) (h : VH) (Q Q' : VE → VH → Prop), (∀ e h, Q e h → Q' e h) → forGo t ds e h Q → forGo t' ds e h Q'
  | [], e, h, Q, Q', f, x => f _ _ x
  | d :: ds, e, h, Q, Q', f, x => ht d _ _ e h (fun e h => forGo_mono ht ds e h Q Q' f) x
section
variable {Φ : Fns} {Γ : Cns}
mutual
theorem wpS_mono : ∀ (s : S) (K : XP) (V V' : VEnds) (env : VE) (vh : VH), VLe V V' → wpS Φ Γ s K V env vh → wpS Φ Γ s K V' env vh
  | .pass, K, V, V', env, vh, l, h => l.nx _ _ h
  | .brk, K, V, V', env, vh, l, h => l.bk _ _ h
  | .cont, K, V, V', env, vh, l, h => l.ct _ _ h
  | .retN, K, V, V', env, vh, l, h => l.rt _ _ h
  | .set i e, K, V, V', env, vh, l, h => wpE_mono e K false env vh _ _ (fun x e1 h1 => l.nx _ _) h
  | .setO i e, K, V, V', env, vh, l, h => wpE_mono e K false env vh _ _ (fun x e1 h1 z => match x, z with
    | .fr ds, z => l.nx _ _ z) h
  | .setS i e, K, V, V', env, vh, l, h => wpE_mono e K false env vh _ _ (fun x e1 h1 z => match x, z with
    | .fr ds, z => l.nx _ _ z) h
  | .par i j a b, K, V, V', env, vh, l, h => by
    unfold wpS at *
    exact wpEs_mono [a, b] K env vh _ _ (fun ds e1 h1 z => by
      split at z
      · exact l.nx _ _ z
      · exact z) h
  | .unp is e, K, V, V', env, vh, l, h => wpE_mono e K false env vh _ _ (fun x e1 h1 ⟨e2, a, b⟩ => ⟨e2, a, l.nx _ _ b⟩) h
  | .aug i op e, K, V, V', env, vh, l, h => by
    unfold wpS at *
    split at h
    · exact wpE_mono e K false env vh _ _ (fun y e1 h1 z => wpAug_mono (fun _ => l.nx _ _) z) h
    · exact h
  | .sidx o i e, K, V, V', env, vh, l, h => wpE_mono e K false env vh _ _ (fun x e1 h1 z => asO_mono (wpE_mono o K false e1 h1) (fun oo e2 h2 z => wpE_mono i K false e2 h2 _ _ (fun ix e3 h3 z => wpSet_mono l.nx z) z) z) h
  | .app o e, K, V, V', env, vh, l, h => by
    unfold wpS at *
    exact asO_mono (wpE_mono o K false env vh) (fun oo e1 h1 z => ⟨z.1, wpE_mono e K false e1 h1 _ _ (fun x e2 h2 z => wpApp_mono l.nx z) z.2⟩) h
  | .ret e, K, V, V', env, vh, l, h => wpE_mono e K false env vh _ _ (fun x e1 h1 => l.rt _ _) h
  | .retO i, K, V, V', env, vh, l, h => by
    unfold wpS at *
    split at h
    · exact l.rt _ _ h
    · exact h
  | .expr e, K, V, V', env, vh, l, h => wpE_mono e K false env vh _ _ (fun x e1 h1 => l.nx _ _) h
  | .cond c a b, K, V, V', env, vh, l, h => wpE_mono c K true env vh _ _ (fun x e1 h1 z => by
      split at z
      · exact ifP_mono (wpB_mono a K V V' e1 h1 l) (wpB_mono b K V V' e1 h1 l) z
      · exact z) h
  | .forS tg k es body, K, V, V', env, vh, l, h => wpEs_mono es K env vh _ _ (fun ds e1 h1 ⟨items, a, z⟩ => ⟨items, a, forGo_mono (fun d N N' e h f ⟨e2, q, z⟩ => ⟨e2, q, wpB_mono body K ⟨N, V.rt, V.nx, N⟩ ⟨N', V'.rt, V'.nx, N'⟩ e2 h ⟨f, l.rt, l.nx, f⟩ z⟩) items e1 h1 _ _ l.nx z⟩) h
  | .whl c body, K, V, V', env, vh, l, h => by
    obtain ⟨I, h0, hs⟩ := h
    refine ⟨I, h0, fun n env vh i => wpE_mono c K true env vh _ _ (fun x e1 h1 z => ?_) (hs n env vh i)⟩
    split at z
    · exact ifP_mono (wpB_mono body K ⟨fun e h => ∃ m, m < n ∧ I m e h, V.rt, V.nx, fun e h => ∃ m, m < n ∧ I m e h⟩ ⟨fun e h => ∃ m, m < n ∧ I m e h, V'.rt, V'.nx, fun e h => ∃ m, m < n ∧ I m e h⟩ e1 h1 ⟨fun _ _ => id, l.rt, l.nx, fun _ _ => id⟩) (l.nx _ _) z
    · exact z
  | .never, K, V, V', env, vh, l, h => h
theorem wpB_mono : ∀ (ss : List S) (K : XP) (V V' : VEnds) (env : VE) (vh : VH), VLe V V' → wpB Φ Γ ss K V env vh → wpB Φ Γ ss K V' env vh
  | [], K, V, V', env, vh, l, h => l.nx _ _ h
  | s :: ss, K, V, V', env, vh, l, h => wpS_mono s K { V with nx := fun e h => wpB Φ Γ ss K V e h } _ env vh ⟨fun e h => wpB_mono ss K V V' e h l, l.rt, l.bk, l.ct⟩ h
end
end
section
variable {Φ : Fns} {Γ : Cns} {K : XP} {env e1 : VE} {vh h1 : VH} {Q : QE} {nx bk ct : VE → VH → Prop} {rt : DV → VH → Prop} {V : VEnds}
/-! ### statements -/
theorem b_nil (h : nx env vh) : wpB Φ Γ [] K ⟨nx, rt, bk, ct⟩ env vh := h
theorem b_cons {s : S} {ss : List S} (he : env = e1) (h : wpS Φ Γ s K ⟨fun e h => wpB Φ Γ ss K ⟨nx, rt, bk, ct⟩ e h, rt, bk, ct⟩ e1 vh) : wpB Φ Γ (s :: ss) K ⟨nx, rt, bk, ct⟩ env vh := by
  subst he
  exact h
/-- a word that no step looks into -/
def Hold (p : Prop) : Prop := p
theorem hold {p : Prop} (h : p) : Hold p := h
/-- a statement by what it is to reach -/
theorem b_cut {s : S} {ss : List S} (P : VE → VH → Prop) (h : wpS Φ Γ s K ⟨fun e h => Hold (P e h), rt, bk, ct⟩ env vh) (k : ∀ e h, P e h → wpB Φ Γ ss K ⟨nx, rt, bk, ct⟩ e h) : wpB Φ Γ (s :: ss) K ⟨nx, rt, bk, ct⟩ env vh :=
  wpS_mono s K ⟨fun e h => Hold (P e h), rt, bk, ct⟩ _ env vh ⟨k, fun _ _ => id, fun _ _ => id, fun _ _ => id⟩ h
theorem s_pass (h : nx env vh) : wpS Φ Γ .pass K ⟨nx, rt, bk, ct⟩ env vh := h
theorem s_brk (h : bk env vh) : wpS Φ Γ .brk K ⟨nx, rt, bk, ct⟩ env vh := h
theorem s_cont (h : ct env vh) : wpS Φ Γ .cont K ⟨nx, rt, bk, ct⟩ env vh := h
theorem s_retN (h : rt (.v .non) vh) : wpS Φ Γ .retN K ⟨nx, rt, bk, ct⟩ env vh := h
theorem s_set {i : Nat} {e : E} (h : wpE Φ Γ e K false env vh fun x e1 h1 => nx (e1.set i (.val x.d)) h1) : wpS Φ Γ (.set i e) K ⟨nx, rt, bk, ct⟩ env vh := h
theorem s_setO {i : Nat} {e : E} (h : wpE Φ Γ e K false env vh fun x e1 h1 => ∃ ds, x = .fr ds ∧ nx (e1.set i (.own ds)) h1) : wpS Φ Γ (.setO i e) K ⟨nx, rt, bk, ct⟩ env vh :=
  wpE_mono e K false env vh _ _ (fun x e1 h1 ⟨ds, ex, z⟩ => by subst ex; exact z) h
theorem s_setS {i : Nat} {e : E} (h : wpE Φ Γ e K false env vh fun x e1 h1 => ∃ ds, x = .fr ds ∧ nx (e1.set i (.val (.ref h1.length))) (h1 ++ [.lst ds])) : wpS Φ Γ (.setS i e) K ⟨nx, rt, bk, ct⟩ env vh :=
  wpE_mono e K false env vh _ _ (fun x e1 h1 ⟨ds, ex, z⟩ => by subst ex; exact z) h
theorem s_par {i j : Nat} {a b : E} (h : wpE Φ Γ a K false env vh fun x e1 h1 => wpE Φ Γ b K false e1 h1 fun y e2 h2 => nx ((e2.set i (.val x.d)).set j (.val y.d)) h2) : wpS Φ Γ (.par i j a b) K ⟨nx, rt, bk, ct⟩ env vh := h
theorem s_unp {is : List Nat} {e : E} (h : wpE Φ Γ e K false env vh fun x e1 h1 => ∃ e2, bindT (.many is) x.d e1 = some e2 ∧ nx e2 h1) : wpS Φ Γ (.unp is e) K ⟨nx, rt, bk, ct⟩ env vh := h
theorem s_aug {i : Nat} {op : Operator} {e : E} {c : D} (hs : env[i]? = some (.val c)) (h : wpE Φ Γ e K false env vh fun y e1 h1 => wpAug op c y.d fun z => nx (e1.set i (.val z)) h1) : wpS Φ Γ (.aug i op e) K ⟨nx, rt, bk, ct⟩ env vh := by
  unfold wpS
  rw [hs]
  exact h
theorem s_sidx {o i e : E} (h : wpE Φ Γ e K false env vh fun x e1 h1 => asO o (wpE Φ Γ o) K e1 h1 fun oo e2 h2 => wpE Φ Γ i K false e2 h2 fun ix e3 h3 => wpSet oo ix.d x.d e3 h3 nx) : wpS Φ Γ (.sidx o i e) K ⟨nx, rt, bk, ct⟩ env vh := h
theorem s_app {o e : E} (h : asO o (wpE Φ Γ o) K env vh fun oo e1 h1 => isLs oo e1 h1 ∧ wpE Φ Γ e K false e1 h1 fun x e2 h2 => wpApp oo x.d e2 h2 nx) : wpS Φ Γ (.app o e) K ⟨nx, rt, bk, ct⟩ env vh := h
theorem s_ret {e : E} (h : wpE Φ Γ e K false env vh fun x e1 h1 => rt x h1) : wpS Φ Γ (.ret e) K ⟨nx, rt, bk, ct⟩ env vh := h
theorem s_retO {i : Nat} {ds : List D} (hs : env[i]? = some (.own ds)) (h : rt (.fr ds) vh) : wpS Φ Γ (.retO i) K ⟨nx, rt, bk, ct⟩ env vh := by
  unfold wpS
  rw [hs]
  exact h
theorem s_expr {e : E} (h : wpE Φ Γ e K false env vh fun x e1 h1 => nx e1 h1) : wpS Φ Γ (.expr e) K ⟨nx, rt, bk, ct⟩ env vh := h
theorem s_cond {c : E} {a b : List S} (h : wpE Φ Γ c K true env vh fun x e1 h1 => ∃ k, x = .v (.bl k) ∧ ifP k (wpB Φ Γ a K ⟨nx, rt, bk, ct⟩ e1 h1) (wpB Φ Γ b K ⟨nx, rt, bk, ct⟩ e1 h1)) : wpS Φ Γ (.cond c a b) K ⟨nx, rt, bk, ct⟩ env vh :=
  wpE_mono c K true env vh _ _ (fun x e1 h1 ⟨k, ex, z⟩ => by subst ex; exact z) h
theorem s_for {tg : Tg} {k : Ik} {es : List E} {body : List S} (h : wpEs Φ Γ es K env vh fun ds e1 h1 => ∃ items, itemsD k ds = some items ∧
      forGo (fun d N e h => ∃ e2, bindT tg d e = some e2 ∧ wpB Φ Γ body K ⟨N, rt, nx, N⟩ e2 h) items e1 h1 nx) : wpS Φ Γ (.forS tg k es body) K ⟨nx, rt, bk, ct⟩ env vh := h
theorem s_whl {c : E} {body : List S} (I : Nat → VE → VH → Prop) (h0 : ∃ n, I n env vh) (h : ∀ n env vh, I n env vh → wpE Φ Γ c K true env vh fun x e1 h1 => ∃ k, x = .v (.bl k) ∧
      ifP k (wpB Φ Γ body K ⟨fun e h => ∃ m, m < n ∧ I m e h, rt, nx, fun e h => ∃ m, m < n ∧ I m e h⟩ e1 h1) (nx e1 h1)) : wpS Φ Γ (.whl c body) K ⟨nx, rt, bk, ct⟩ env vh :=
  ⟨I, h0, fun n env vh i => wpE_mono c K true env vh _ _ (fun x e1 h1 ⟨k, ex, z⟩ => by subst ex; exact z) (h n env vh i)⟩
/-- what goes on behind a call -/
@[reducible] def callK (k : DV → VH → Prop) (kx : Str → List D → VH → Prop) : Out → VH → Prop
  | .ok x, h => k x h
  | .exc c xs, h => kx c xs h
/-! ### values -/
theorem e_non (h : Q (.v .non) env vh) : wpE Φ Γ .non K false env vh Q := h
theorem e_skip (h : Q (.v .non) env vh) : wpE Φ Γ .skip K false env vh Q := h
theorem e_bl {b : Bool} (h : Q (.v (.bl b)) env vh) : wpE Φ Γ (.bl b) K false env vh Q := h
theorem e_int {i : Int} (h : Q (.v (.int i)) env vh) : wpE Φ Γ (.int i) K false env vh Q := h
theorem e_str {x : Str} (h : Q (.v (.str x)) env vh) : wpE Φ Γ (.str x) K false env vh Q := h
theorem e_var {i : Nat} {d : D} (hs : env[i]? = some (.val d)) (h : Q (.v d) env vh) : wpE Φ Γ (.var i) K false env vh Q := ⟨_, hs, h⟩
theorem e_varO {i : Nat} {ds : List D} (hs : env[i]? = some (.own ds)) (h : Q (.v (.lst ds)) (env.set i (.val (.lst ds))) vh) : wpE Φ Γ (.var i) K false env vh Q := ⟨_, hs, h⟩
theorem e_glo {x : Str} {d : D} (hs : Γ x = some d) (h : Q (.v d) env vh) : wpE Φ Γ (.glo x) K false env vh Q := ⟨_, hs, h⟩
theorem e_tup {es : List E} (h : wpEs Φ Γ es K env vh fun ds e1 h1 => ds.length ≤ 16777216 ∧ Q (.v (.tup ds)) e1 h1) : wpE Φ Γ (.tup es) K false env vh Q := h
theorem e_lst {es : List E} (h : wpEs Φ Γ es K env vh fun ds e1 h1 => ds.length ≤ 16777216 ∧ Q (.fr ds) e1 h1) : wpE Φ Γ (.lst es) K false env vh Q := h
theorem e_bin {op : Operator} {a b : E} (h : asO a (wpE Φ Γ a) K env vh fun x e1 h1 => asO b (wpE Φ Γ b) K e1 h1 fun y e2 h2 => ∃ c d, x.ld e2 h2 = some c ∧ y.ld e2 h2 = some d ∧ wpBin op c d fun z => Q z e2 h2) : wpE Φ Γ (.bin op a b) K false env vh Q := h
theorem e_neg {a : E} (h : wpE Φ Γ a K false env vh fun x e1 h1 => ∃ i, x = .v (.int i) ∧ Q (.v (.int (-i))) e1 h1) : wpE Φ Γ (.neg a) K false env vh Q := h
theorem e_cmp {op : CmpOp} {a b : E} {t : Bool} (h : asO a (wpE Φ Γ a) K env vh fun x e1 h1 => asO b (wpE Φ Γ b) K e1 h1 fun y e2 h2 => ∃ c d, x.ld e2 h2 = some c ∧ y.ld e2 h2 = some d ∧ wpCmp op c d fun k => Q (.v (.bl k)) e2 h2) : wpE Φ Γ (.cmp op a b) K t env vh Q := h
theorem e_chain {op op' : CmpOp} {a b c : E} {t : Bool} (h : asO a (wpE Φ Γ a) K env vh fun x e1 h1 => asO b (wpE Φ Γ b) K e1 h1 fun y e2 h2 => ∃ d e, x.ld e2 h2 = some d ∧ y.ld e2 h2 = some e ∧ wpCmp op d e fun k =>
      ifP k (asO c (wpE Φ Γ c) K e2 h2 fun z e3 h3 => ∃ e f, y.ld e3 h3 = some e ∧ z.ld e3 h3 = some f ∧ wpCmp op' e f fun k => Q (.v (.bl k)) e3 h3) (Q (.v (.bl false)) e2 h2)) : wpE Φ Γ (.chain op op' a b c) K t env vh Q := h
theorem e_andT {a b : E} (h : wpE Φ Γ a K true env vh fun x e1 h1 => ∃ k, x = .v (.bl k) ∧ ifP k (wpE Φ Γ b K true e1 h1 Q) (Q (.v (.bl false)) e1 h1)) : wpE Φ Γ (.and a b) K true env vh Q := h
theorem e_orT {a b : E} (h : wpE Φ Γ a K true env vh fun x e1 h1 => ∃ k, x = .v (.bl k) ∧ ifP k (Q (.v (.bl true)) e1 h1) (wpE Φ Γ b K true e1 h1 Q)) : wpE Φ Γ (.or a b) K true env vh Q := h
theorem e_and {a b : E} (h : wpE Φ Γ a K false env vh fun x e1 h1 => ∃ d k, x = .v d ∧ (deref h1 d).bind truD = some k ∧ ifP k (wpE Φ Γ b K false e1 h1 Q) (Q x e1 h1)) : wpE Φ Γ (.and a b) K false env vh Q := h
theorem e_or {a b : E} (h : wpE Φ Γ a K false env vh fun x e1 h1 => ∃ d k, x = .v d ∧ (deref h1 d).bind truD = some k ∧ ifP k (Q x e1 h1) (wpE Φ Γ b K false e1 h1 Q)) : wpE Φ Γ (.or a b) K false env vh Q := h
theorem e_notT {a : E} (h : wpE Φ Γ a K true env vh fun x e1 h1 => ∃ k, x = .v (.bl k) ∧ Q (.v (.bl (!k))) e1 h1) : wpE Φ Γ (.not a) K true env vh Q := h
theorem e_not {a : E} (h : asO a (wpE Φ Γ a) K env vh fun x e1 h1 => ∃ d k, x.ld e1 h1 = some d ∧ truD d = some k ∧ Q (.v (.bl (!k))) e1 h1) : wpE Φ Γ (.not a) K false env vh Q := h
theorem e_ite {c a b : E} {t : Bool} (h : wpE Φ Γ c K true env vh fun x e1 h1 => ∃ k, x = .v (.bl k) ∧ ifP k (wpE Φ Γ a K t e1 h1 Q) (wpE Φ Γ b K t e1 h1 Q)) : wpE Φ Γ (.ite c a b) K t env vh Q := h
theorem e_idx {a i : E} (h : asO a (wpE Φ Γ a) K env vh fun x e1 h1 => asO i (wpE Φ Γ i) K e1 h1 fun y e2 h2 => ∃ c d, x.ld e2 h2 = some c ∧ y.ld e2 h2 = some d ∧ wpIdx c d fun z => Q (.v z) e2 h2) : wpE Φ Γ (.idx a i) K false env vh Q := h
theorem e_sli {a lo hi : E} (h : asO a (wpE Φ Γ a) K env vh fun x e1 h1 => wpE Φ Γ lo K false e1 h1 fun l e2 h2 => ∃ i, partD l = some i ∧ wpE Φ Γ hi K false e2 h2 fun u e3 h3 =>
      ∃ c j, x.ld e3 h3 = some c ∧ partD u = some j ∧ wpSli c i j fun z => Q z e3 h3) : wpE Φ Γ (.sli a lo hi) K false env vh Q := h
theorem e_call {f : Str} {es : List E} (h : wpEs Φ Γ es K env vh fun ds e1 h1 => (Φ f).run ds h1 (callK (fun x h2 => Q x e1 h2) (fun c xs h2 => K c xs e1 h2))) : wpE Φ Γ (.call f es) K false env vh Q :=
  wpEs_mono es K env vh _ _ (fun ds e1 h1 z => (Φ f).mono _ _ _ _ (fun o h2 y => match o with
    | .ok x => y
    | .exc c xs => y) z) h
theorem e_blt {f : Bf} {es : List E} (h : wpOs Φ Γ es K env vh fun xs e1 h1 => ∃ ds, ldAll e1 h1 xs = some ds ∧ wpBlt f ds fun z => Q z e1 h1) : wpE Φ Γ (.blt f es) K false env vh Q := h
/-- which class it is of -/
def IsiK (tys : List String) (n : String) (P : Bool → Prop) : Prop := tys.all okTy = true ∧ P (tys.any (isTy n))
theorem isi_t {tys : List String} {n : String} {P : Bool → Prop} (h1 : tys.all okTy = true) (h2 : tys.any (isTy n) = true) (h : P true) : IsiK tys n P := ⟨h1, by rw [h2]; exact h⟩
theorem isi_f {tys : List String} {n : String} {P : Bool → Prop} (h1 : tys.all okTy = true) (h2 : tys.any (isTy n) = false) (h : P false) : IsiK tys n P := ⟨h1, by rw [h2]; exact h⟩
theorem e_isi {a : E} {tys : List String} (h : asO a (wpE Φ Γ a) K env vh fun x e1 h1 => ∃ d n, x.ld e1 h1 = some d ∧ tyD d = some n ∧ IsiK tys n fun b => Q (.v (.bl b)) e1 h1) : wpE Φ Γ (.isi a tys) K false env vh Q := h
def noB (env : VE) : List Nat → Bool
  | [] => true
  | j :: js => (match env[j]? with
    | some (.own _) => false
    | _ => true) && noB env js
theorem noB_ok {env : VE} : ∀ {js : List Nat}, noB env js = true → noOwn env js
  | [], _ => trivial
  | j :: js, h => by
    unfold noB at h
    rw [Bool.and_eq_true] at h
    refine ⟨?_, noB_ok h.2⟩
    have h1 := h.1
    revert h1
    cases env[j]? with
    | none => exact fun _ => trivial
    | some s => cases s <;> first
      | exact fun _ => trivial
      | (intro h1; cases h1)
theorem e_lc {elt : E} {tg : Tg} {own : List Nat} {k : Ik} {es cs : List E} (h : wpEs Φ Γ es K env vh fun ds e1 h1 => ∃ items, itemsD k ds = some items ∧ noB e1 own = true ∧
      lcGo (fun d h R => ∃ e2, bindT tg d (wipeE e1 own) = some e2 ∧ wpTs Φ Γ cs e2 h fun b h3 => ifP b (wpE Φ Γ elt (fun _ _ _ _ => False) false e2 h3 fun x e4 h4 => e4 = e2 ∧ R (some x.d) h4) (R none h3)) items h1 [] fun acc h2 => Q (.fr acc) e1 h2) : wpE Φ Γ (.lc elt tg own k es cs) K false env vh Q :=
  wpEs_mono es K env vh _ _ (fun ds e1 h1 ⟨items, a, b, z⟩ => ⟨items, a, noB_ok b, z⟩) h
/-! ### tests of values -/
theorem t_fin {ir : E} (hf : finK ir = true) (h : wpE Φ Γ ir K false env vh fun x e1 h1 => ∃ k, (deref h1 x.d).bind truD = some k ∧ Q (.v (.bl k)) e1 h1) : wpE Φ Γ ir K true env vh Q := by
  rw [fin_eq hf]
  exact h
theorem t_bor {i : Nat} {d : D} {k : Bool} (hl : (Op.slt i).ld env vh = some d) (hk : truD d = some k) (h : Q (.v (.bl k)) env vh) : wpE Φ Γ (.bor i) K true env vh Q := ⟨d, k, hl, hk, h⟩
/-! ### operands, lists -/
theorem o_bor {i : Nat} {s : Slot} {w : XP → Bool → VE → VH → QE → Prop} {P : Op → VE → VH → Prop} (hs : env[i]? = some s) (ho : s.ok) (h : P (.slt i) env vh) : asO (.bor i) w K env vh P := ⟨⟨s, hs, ho⟩, h⟩
theorem o_val {ir : E} {P : Op → VE → VH → Prop} (hb : isBor ir = false) (h : wpE Φ Γ ir K false env vh fun x e1 h1 => P (.dat x.d) e1 h1) : asO ir (wpE Φ Γ ir) K env vh P := by
  rw [asO_no hb]
  exact h
theorem l_nil {P : List D → VE → VH → Prop} (h : P [] env vh) : wpEs Φ Γ [] K env vh P := h
theorem l_cons {e : E} {es : List E} {P : List D → VE → VH → Prop} (h : wpE Φ Γ e K false env vh fun x e1 h1 => wpEs Φ Γ es K e1 h1 fun xs e2 h2 => P (x.d :: xs) e2 h2) : wpEs Φ Γ (e :: es) K env vh P := h
theorem os_nil {P : List Op → VE → VH → Prop} (h : P [] env vh) : wpOs Φ Γ [] K env vh P := h
theorem os_cons {e : E} {es : List E} {P : List Op → VE → VH → Prop} (h : asO e (wpE Φ Γ e) K env vh fun x e1 h1 => wpOs Φ Γ es K e1 h1 fun xs e2 h2 => P (x :: xs) e2 h2) : wpOs Φ Γ (e :: es) K env vh P := h
theorem ts_nil {P : Bool → VH → Prop} (h : P true vh) : wpTs Φ Γ [] env vh P := h
theorem ts_one {c : E} {P : Bool → VH → Prop} (h : wpE Φ Γ c (fun _ _ _ _ => False) true env vh fun x e1 h1 => e1 = env ∧ ∃ k, x = .v (.bl k) ∧ P k h1) : wpTs Φ Γ [c] env vh P := h
/-! ### operators -/
section
variable {F : DV → Prop} {FB : Bool → Prop} {i j : Int} {xs ys : List D} {x y : Str}
theorem b_add (h : F (.v (.int (i + j)))) : wpBin .Add (.int i) (.int j) F := h
theorem b_addT (hl : xs.length + ys.length ≤ 16777216) (h : F (.v (.tup (xs ++ ys)))) : wpBin .Add (.tup xs) (.tup ys) F := ⟨hl, h⟩
theorem b_addL (hl : xs.length + ys.length ≤ 16777216) (h : F (.fr (xs ++ ys))) : wpBin .Add (.lst xs) (.lst ys) F := ⟨hl, h⟩
theorem b_addS (hl : x.length + y.length ≤ 16777216) (h : F (.v (.str (x ++ y)))) : wpBin .Add (.str x) (.str y) F := ⟨hl, h⟩
theorem b_sub (h : F (.v (.int (i - j)))) : wpBin .Sub (.int i) (.int j) F := h
theorem b_mul (hl : mulOk i j) (h : F (.v (.int (i * j)))) : wpBin .Mult (.int i) (.int j) F := ⟨hl, h⟩
theorem b_mulT (h1 : 1 ≤ j) (h2 : j ≤ 1000) (h3 : xs.length ≤ 1000) (h : F (.v (.tup (List.replicate j.toNat xs).flatten))) : wpBin .Mult (.tup xs) (.int j) F := ⟨h1, h2, h3, h⟩
theorem b_div (hl : 0 < j ∧ j.natAbs.log2 < 9000) (h : F (.v (.int (i / j)))) : wpBin .FloorDiv (.int i) (.int j) F := ⟨hl, h⟩
theorem b_mod (hl : 0 < j) (h : F (.v (.int (i % j)))) : wpBin .Mod (.int i) (.int j) F := ⟨hl, h⟩
theorem b_pow (hl : 0 ≤ j ∧ j ≤ 1000000 ∧ i.natAbs < 2 ^ 64) (h : F (.v (.int (i ^ j.toNat)))) : wpBin .Pow (.int i) (.int j) F := ⟨hl, h⟩
theorem c_lt (h : FB (decide (i < j))) : wpCmp .Lt (.int i) (.int j) FB := h
theorem c_le (h : FB (decide (i ≤ j))) : wpCmp .LtE (.int i) (.int j) FB := h
theorem c_gt (h : FB (decide (j < i))) : wpCmp .Gt (.int i) (.int j) FB := h
theorem c_ge (h : FB (decide (j ≤ i))) : wpCmp .GtE (.int i) (.int j) FB := h
theorem c_eqI (h : FB (decide (i = j))) : wpCmp .Eq (.int i) (.int j) FB := ⟨rfl, rfl, by
  show FB (i == j)
  have e : (i == j) = decide (i = j) := by by_cases q : i = j <;> simp [q]
  rw [e]; exact h⟩
theorem c_neI (h : FB (!decide (i = j))) : wpCmp .NotEq (.int i) (.int j) FB := ⟨rfl, rfl, by
  show FB (!(i == j))
  have e : (i == j) = decide (i = j) := by by_cases q : i = j <;> simp [q]
  rw [e]; exact h⟩
theorem c_eq {a b : D} (h1 : okD 64 a = true) (h2 : okD 64 b = true) (h : FB (eqD a b)) : wpCmp .Eq a b FB := by
  cases a <;> exact ⟨h1, h2, h⟩
theorem c_ne {a b : D} (h1 : okD 64 a = true) (h2 : okD 64 b = true) (h : FB (!eqD a b)) : wpCmp .NotEq a b FB := by
  cases a <;> exact ⟨h1, h2, h⟩
theorem c_eqBt {a b : Bool} (h1 : (a == b) = true) (h : FB true) : wpCmp .Eq (.bl a) (.bl b) FB := ⟨by unfold okD; rfl, by unfold okD; rfl, by unfold eqD; rw [h1]; exact h⟩
theorem c_eqBf {a b : Bool} (h1 : (a == b) = false) (h : FB false) : wpCmp .Eq (.bl a) (.bl b) FB := ⟨by unfold okD; rfl, by unfold okD; rfl, by unfold eqD; rw [h1]; exact h⟩
theorem c_neBt {a b : Bool} (h1 : (a == b) = true) (h : FB false) : wpCmp .NotEq (.bl a) (.bl b) FB := ⟨by unfold okD; rfl, by unfold okD; rfl, by unfold eqD; rw [h1]; exact h⟩
theorem c_neBf {a b : Bool} (h1 : (a == b) = false) (h : FB true) : wpCmp .NotEq (.bl a) (.bl b) FB := ⟨by unfold okD; rfl, by unfold okD; rfl, by unfold eqD; rw [h1]; exact h⟩
theorem c_isN {a : D} (h : FB (isNon a)) : wpCmp .Is a .non FB := by
  cases a <;> exact h
theorem c_isNotN {a : D} (h : FB (!isNon a)) : wpCmp .IsNot a .non FB := by
  cases a <;> exact h
theorem i_tup {FD : D → Prop} {d : D} (hi : atI xs i = some d) (h : FD d) : wpIdx (.tup xs) (.int i) FD := ⟨d, hi, h⟩
theorem i_lst {FD : D → Prop} {d : D} (hi : atI xs i = some d) (h : FD d) : wpIdx (.lst xs) (.int i) FD := ⟨d, hi, h⟩
theorem u_tup {lo hi : Option Int} (h : F (.v (.tup (cutL xs lo hi)))) : wpSli (.tup xs) lo hi F := h
theorem u_lst {lo hi : Option Int} (h : F (.fr (cutL xs lo hi))) : wpSli (.lst xs) lo hi F := h
theorem u_scr {ns : List Int} {lo hi : Option Int} (h : F (.fr ((cutL ns lo hi).map D.int))) : wpSli (.scr ns) lo hi F := h
theorem f_lenT (h : F (.v (.int xs.length))) : wpBlt .len [.tup xs] F := h
theorem f_lenL (h : F (.v (.int xs.length))) : wpBlt .len [.lst xs] F := h
theorem f_lenC {ns : List Int} (h : F (.v (.int ns.length))) : wpBlt .len [.scr ns] F := h
theorem f_lenS (hl : x.length ≤ 16777216) (h : F (.v (.int x.length))) : wpBlt .len [.str x] F := ⟨hl, h⟩
theorem f_int (h : F (.v (.int i))) : wpBlt .int [.int i] F := h
theorem f_intB {b : Bool} (h : F (.v (.int (if b then 1 else 0)))) : wpBlt .int [.bl b] F := h
theorem f_tupL (h : F (.v (.tup xs))) : wpBlt .tuple [.lst xs] F := h
theorem f_tupT (h : F (.v (.tup xs))) : wpBlt .tuple [.tup xs] F := h
theorem f_lstL (h : F (.fr xs)) : wpBlt .list [.lst xs] F := h
theorem f_lstT (h : F (.fr xs)) : wpBlt .list [.tup xs] F := h
theorem f_lstC {ns : List Int} (h : F (.fr (ns.map D.int))) : wpBlt .list [.scr ns] F := h
theorem f_abs (h : F (.v (.int (if i < 0 then -i else i)))) : wpBlt .abs [.int i] F := h
theorem f_min (h : F (.v (.int (if j < i then j else i)))) : wpBlt .min2 [.int i, .int j] F := h
theorem f_max (h : F (.v (.int (if j > i then j else i)))) : wpBlt .max2 [.int i, .int j] F := h
theorem f_all {bs : List Bool} (hx : xs = bs.map D.bl) (h : F (.v (.bl (bs.all id)))) : wpBlt .all [.lst xs] F := ⟨bs, hx, h⟩
theorem f_any {bs : List Bool} (hx : xs = bs.map D.bl) (h : F (.v (.bl (bs.any id)))) : wpBlt .any [.lst xs] F := ⟨bs, hx, h⟩
theorem f_sum {ns : List Int} (hx : xs = ns.map D.int) (h : F (.v (.int ns.sum))) : wpBlt .sum [.lst xs] F := ⟨ns, hx, h⟩
theorem f_sumC {ns : List Int} (h : F (.v (.int ns.sum))) : wpBlt .sum [.scr ns] F := h
theorem p_true {p q : Prop} (h : p) : ifP true p q := h
theorem p_false {p q : Prop} (h : q) : ifP false p q := h
theorem p_nt {p q : Prop} (h : q) : ifP (!true) p q := h
theorem p_nf {p q : Prop} (h : p) : ifP (!false) p q := h
theorem p_ne {a b : D} {p q : Prop} (h : eqD a b = true) (hq : q) : ifP (!eqD a b) p q := by rw [h]; exact hq
theorem p_neF {a b : D} {p q : Prop} (h : eqD a b = false) (hq : p) : ifP (!eqD a b) p q := by rw [h]; exact hq
theorem p_dec {c : Prop} [Decidable c] {p q : Prop} (h1 : c → p) (h2 : ¬ c → q) : ifP (decide c) p q := by
  by_cases hc : c
  · rw [decide_eq_true hc]; exact h1 hc
  · rw [decide_eq_false hc]; exact h2 hc
theorem p_nd {c : Prop} [Decidable c] {p q : Prop} (h : c) (hq : q) : ifP (!decide c) p q := by rw [decide_eq_true h]; exact hq
theorem p_d {c : Prop} [Decidable c] {p q : Prop} (h : c) (hp : p) : ifP (decide c) p q := by rw [decide_eq_true h]; exact hp
theorem p_ndec {c : Prop} [Decidable c] {p q : Prop} (h1 : ¬ c → p) (h2 : c → q) : ifP (!decide c) p q := by
  by_cases hc : c
  · rw [decide_eq_true hc]; exact h2 hc
  · rw [decide_eq_false hc]; exact h1 hc
theorem p_bool {b : Bool} {p q : Prop} (h1 : b = true → p) (h2 : b = false → q) : ifP b p q := by
  cases b
  · exact h2 rfl
  · exact h1 rfl
end
/-! ### loops -/
theorem for_rule {turn : D → (VE → VH → Prop) → VE → VH → Prop} {F : VE → VH → Prop} (P : List D → VE → VH → Prop) (h0 : ∀ e h, P [] e h → F e h)
    (hs : ∀ d ds e h, P (d :: ds) e h → (∀ e' h', P ds e' h' → forGo turn ds e' h' F) → turn d (fun e h => forGo turn ds e h F) e h) : ∀ items e h, P items e h → forGo turn items e h F
  | [], e, h, p => h0 e h p
  | d :: ds, e, h, p => hs d ds e h p fun e' h' p' => for_rule P h0 hs ds e' h' p'
theorem fg_nil {turn : D → (VE → VH → Prop) → VE → VH → Prop} {F : VE → VH → Prop} {e : VE} {h : VH} (q : F e h) : forGo turn [] e h F := q
theorem fg_cons {turn : D → (VE → VH → Prop) → VE → VH → Prop} {F : VE → VH → Prop} {e : VE} {h : VH} {d : D} {ds : List D} (q : turn d (fun e h => forGo turn ds e h F) e h) : forGo turn (d :: ds) e h F := q
theorem lc_rule {turn : D → VH → (Option D → VH → Prop) → Prop} {F : List D → VH → Prop} (P : List D → VH → List D → Prop) (h0 : ∀ h acc, P [] h acc → F acc h)
    (hs : ∀ d ds h acc, P (d :: ds) h acc → (∀ h' acc', P ds h' acc' → lcGo turn ds h' acc' F) → turn d h fun o h' => match o with
      | some y => acc.length < 16777216 ∧ lcGo turn ds h' (acc ++ [y]) F
      | none => lcGo turn ds h' acc F) : ∀ items h acc, P items h acc → lcGo turn items h acc F
  | [], h, acc, p => h0 h acc p
  | d :: ds, h, acc, p => hs d ds h acc p fun h' acc' p' => lc_rule P h0 hs ds h' acc' p'
/-- what goes on behind a turn of a comprehension -/
@[reducible] def lcK (acc : List D) (k : List D → VH → Prop) : Option D → VH → Prop
  | some y, h => acc.length < 16777216 ∧ k (acc ++ [y]) h
  | none, h => k acc h
theorem lcg_nil {turn : D → VH → (Option D → VH → Prop) → Prop} {F : List D → VH → Prop} {acc : List D} {h : VH} (q : F acc h) : lcGo turn [] h acc F := q
theorem lcg_cons {K : XP} {Φ : Fns} {Γ : Cns} {tg : Tg} {env : VE} {own : List Nat} {cs : List E} {elt : E} {F : List D → VH → Prop} {acc : List D} {h : VH} {d : D} {ds : List D}
    (q : ∃ e2, bindT tg d (wipeE env own) = some e2 ∧ wpTs Φ Γ cs e2 h fun b h3 => ifP b (wpE Φ Γ elt K false e2 h3 fun x e4 h4 => e4 = e2 ∧ lcK acc (fun acc' h' => lcGo (fun d h R => ∃ e2, bindT tg d (wipeE env own) = some e2 ∧ wpTs Φ Γ cs e2 h fun b h3 => ifP b (wpE Φ Γ elt K false e2 h3 fun x e4 h4 => e4 = e2 ∧ R (some x.d) h4) (R none h3)) ds h' acc' F) (some x.d) h4)
      (lcK acc (fun acc' h' => lcGo (fun d h R => ∃ e2, bindT tg d (wipeE env own) = some e2 ∧ wpTs Φ Γ cs e2 h fun b h3 => ifP b (wpE Φ Γ elt K false e2 h3 fun x e4 h4 => e4 = e2 ∧ R (some x.d) h4) (R none h3)) ds h' acc' F) none h3)) :
    lcGo (fun d h R => ∃ e2, bindT tg d (wipeE env own) = some e2 ∧ wpTs Φ Γ cs e2 h fun b h3 => ifP b (wpE Φ Γ elt K false e2 h3 fun x e4 h4 => e4 = e2 ∧ R (some x.d) h4) (R none h3)) (d :: ds) h acc F := q
/-- a comprehension that turns each item into one, and nothing else -/
theorem lc_map {turn : D → VH → (Option D → VH → Prop) → Prop} {F : List D → VH → Prop} (f : D → D) : ∀ (items : List D) (h : VH) (acc : List D), (∀ d, d ∈ items → ∀ R : Option D → VH → Prop, R (some (f d)) h → turn d h R) → acc.length + items.length ≤ 16777216 → F (acc ++ items.map f) h → lcGo turn items h acc F
  | [], h, acc, _, _, q => by
    rw [List.map_nil, List.append_nil] at q
    exact q
  | d :: ds, h, acc, ht, hl, q => by
    rw [List.length_cons] at hl
    refine ht d List.mem_cons_self _ ⟨by omega, lc_map f ds h _ (fun x hx => ht x (List.mem_cons_of_mem _ hx)) (by rw [List.length_append, List.length_singleton]; omega) ?_⟩
    rw [List.append_assoc]
    exact q
end
theorem div_ok {j : Int} (h1 : 0 < j) (h2 : j < 18446744073709551616) : 0 < j ∧ j.natAbs.log2 < 9000 := by
  refine ⟨h1, Nat.lt_trans ((Nat.log2_lt (by omega)).mpr (?_ : j.natAbs < 2 ^ 64)) (by decide)⟩
  have e : (2 : Nat) ^ 64 = 18446744073709551616 := by decide
  rw [e]
  omega
theorem mul_l {i j : Int} (h1 : -18446744073709551616 < i) (h2 : i < 18446744073709551616) : mulOk i j := .inl ⟨h1, h2⟩
theorem mul_r {i j : Int} (h1 : -18446744073709551616 < j) (h2 : j < 18446744073709551616) : mulOk i j := .inr (.inl ⟨h1, h2⟩)
/-! ### what a goal is -/
section
variable {Φ : Fns} {Γ : Cns} {K : XP} {env : VE} {vh : VH}
theorem g_S {s : S} {V : VEnds} (h : wpS Φ Γ s K V env vh) : wpS Φ Γ s K V env vh := h
theorem g_B {s : List S} {V : VEnds} (h : wpB Φ Γ s K V env vh) : wpB Φ Γ s K V env vh := h
theorem g_E {e : E} {Q : QE} (h : wpE Φ Γ e K false env vh Q) : wpE Φ Γ e K false env vh Q := h
theorem g_T {e : E} {Q : QE} (h : wpE Φ Γ e K true env vh Q) : wpE Φ Γ e K true env vh Q := h
theorem g_O {e : E} {w : XP → Bool → VE → VH → QE → Prop} {Q : Op → VE → VH → Prop} (h : asO e w K env vh Q) : asO e w K env vh Q := h
theorem g_L {e : List E} {Q : List D → VE → VH → Prop} (h : wpEs Φ Γ e K env vh Q) : wpEs Φ Γ e K env vh Q := h
theorem g_Os {e : List E} {Q : List Op → VE → VH → Prop} (h : wpOs Φ Γ e K env vh Q) : wpOs Φ Γ e K env vh Q := h
theorem g_Bin {o : Operator} {a b : D} {Q : DV → Prop} (h : wpBin o a b Q) : wpBin o a b Q := h
theorem g_Cmp {o : CmpOp} {a b : D} {Q : Bool → Prop} (h : wpCmp o a b Q) : wpCmp o a b Q := h
theorem g_Blt {f : Bf} {a : List D} {Q : DV → Prop} (h : wpBlt f a Q) : wpBlt f a Q := h
theorem g_P {b : Bool} {p q : Prop} (h : ifP b p q) : ifP b p q := h
theorem g_Ex {A : Type} {P : A → Prop} (h : ∃ x, P x) : ∃ x, P x := h
end
/-! ### promises -/
/-- a promise by its arguments, what is asked ahead, what comes -/
def spec {A : Type} (args : A → List D) (pre : A → VH → Prop) (post : A → VH → DV → VH → Prop) : VSp :=
  ⟨fun ds vh R => ∃ a, ds = args a ∧ pre a vh ∧ ∀ x vh', post a vh x vh' → R (.ok x) vh', fun ds vh R R' f ⟨a, e, p, q⟩ => ⟨a, e, p, fun x vh' h => f _ _ (q x vh' h)⟩⟩
/-- of a def that changes nothing and tells one thing -/
def specF {A : Type} (args : A → List D) (pre : A → Prop) (val : A → DV) : VSp :=
  ⟨fun ds vh R => ∃ a, ds = args a ∧ pre a ∧ R (.ok (val a)) vh, fun ds vh R R' f ⟨a, e, p, q⟩ => ⟨a, e, p, f _ _ q⟩⟩
theorem sat_spec {A : Type} {Φ : Fns} {Γ : Cns} {irs : List S} {N ps : List Str} {args : A → List D} {pre : A → VH → Prop} {post : A → VH → DV → VH → Prop} (hl : ∀ a, (args a).length = ps.length)
    (h : ∀ a vh (R : Out → VH → Prop), pre a vh → (∀ x vh', post a vh x vh' → R (.ok x) vh') → wpB Φ Γ irs (fun c xs _ vh => R (.exc c xs) vh) ⟨fun _ vh => R (.ok (.v .non)) vh, fun x vh => R (.ok x) vh, fun _ _ => False, fun _ _ => False⟩ (startE N (args a)) vh) : Sat Φ Γ irs N ps (spec args pre post) := by
  rintro ds vh R ⟨a, rfl, p, q⟩
  exact ⟨hl a, h a vh R p q⟩
theorem sat_specF {A : Type} {Φ : Fns} {Γ : Cns} {irs : List S} {N ps : List Str} {args : A → List D} {pre : A → Prop} {val : A → DV} (hl : ∀ a, (args a).length = ps.length)
    (h : ∀ a vh (R : Out → VH → Prop), pre a → R (.ok (val a)) vh → wpB Φ Γ irs (fun c xs _ vh => R (.exc c xs) vh) ⟨fun _ vh => R (.ok (.v .non)) vh, fun x vh => R (.ok x) vh, fun _ _ => False, fun _ _ => False⟩ (startE N (args a)) vh) : Sat Φ Γ irs N ps (specF args pre val) := by
  rintro ds vh R ⟨a, rfl, p, q⟩
  exact ⟨hl a, h a vh R p q⟩
theorem call_specF {A : Type} {args : A → List D} {pre : A → Prop} {val : A → DV} {vh : VH} {k : DV → VH → Prop} {kx : Str → List D → VH → Prop} {ds : List D} (a : A) (e : ds = args a) (p : pre a) (q : k (val a) vh) : (specF args pre val).run ds vh (callK k kx) := ⟨a, e, p, q⟩
theorem call_spec {A : Type} {args : A → List D} {pre : A → VH → Prop} {post : A → VH → DV → VH → Prop} {vh : VH} {k : DV → VH → Prop} {kx : Str → List D → VH → Prop} {ds : List D} (a : A) (e : ds = args a) (p : pre a vh) (q : ∀ x vh', post a vh x vh' → k x vh') : (spec args pre post).run ds vh (callK k kx) := ⟨a, e, p, q⟩
/-! ### shared lists -/
theorem ld_ref {env : VE} {vh : VH} {i n : Nat} {xs : List D} (h1 : env[i]? = some (.val (.ref n))) (h2 : vh[n]? = some (.lst xs)) : (Op.slt i).ld env vh = some (.lst xs) := by
  unfold Op.ld
  dsimp only
  rw [h1]
  dsimp only [Slot.ld]
  unfold deref
  dsimp only
  rw [h2]
theorem ld_refD {env : VE} {vh : VH} {n : Nat} {xs : List D} (h2 : vh[n]? = some (.lst xs)) : (Op.dat (.ref n)).ld env vh = some (.lst xs) := by
  unfold Op.ld
  dsimp only
  unfold deref
  dsimp only
  rw [h2]
def noRef : D → Bool
  | .ref _ => false
  | _ => true
theorem deref_nr {vh : VH} {d : D} (h : noRef d = true) : deref vh d = some d := by
  cases d <;> first | rfl | cases h
theorem ld_nr {env : VE} {vh : VH} {d : D} (h : noRef d = true) : (Op.dat d).ld env vh = some d := deref_nr h
theorem ld_nrS {env : VE} {vh : VH} {i : Nat} {d : D} (h1 : env[i]? = some (.val d)) (h : noRef d = true) : (Op.slt i).ld env vh = some d := by
  unfold Op.ld
  dsimp only
  rw [h1]
  exact deref_nr h
theorem w_set {env : VE} {vh : VH} {i n m : Nat} {j : Int} {x : D} {xs : List D} {Q : VE → VH → Prop} (h1 : env[i]? = some (.val (.ref n))) (h2 : vh[n]? = some (.lst xs)) (hi : ixN xs.length j = some m)
    (q : ∀ vh' : VH, vh'[n]? = some (.lst (xs.set m x)) → (∀ o, vh'.set n o = vh.set n o) → Q env vh') : wpSet (.slt i) (.int j) x env vh Q := by
  unfold wpSet
  dsimp only
  rw [h1]
  dsimp only
  unfold setSh
  rw [h2]
  have hn : n < vh.length := (List.getElem?_eq_some_iff.mp h2).1
  exact ⟨m, hi, q _ (by rw [List.getElem?_set_self hn]) fun o => by rw [List.set_set]⟩
theorem set_same {vh : VH} {n : Nat} {o : VO} (h : vh[n]? = some o) : vh.set n o = vh := by
  obtain ⟨hn, e⟩ := List.getElem?_eq_some_iff.mp h
  rw [← e]
  exact List.set_getElem_self hn
theorem set_eq {vh vh2 : VH} {n : Nat} {o : VO} (g1 : vh2[n]? = some o) (g2 : ∀ o, vh2.set n o = vh.set n o) : vh2 = vh.set n o := by rw [← g2, set_same g1]
theorem atI_ok {xs : List D} {i : Int} (h0 : 0 ≤ i) (h1 : i < xs.length) : ∃ d, atI xs i = some d ∧ d ∈ xs := by
  have hi : i.toNat < xs.length := by omega
  refine ⟨xs[i.toNat], ?_, List.getElem_mem hi⟩
  unfold atI ixN
  rw [if_pos h0, if_pos h1]
  simp [hi]
theorem atI_int {xs : List Int} {i : Int} (h0 : 0 ≤ i) (h1 : i < xs.length) : ∃ c, atI (xs.map D.int) i = some (.int c) ∧ c ∈ xs := by
  obtain ⟨d, h, hm⟩ := atI_ok (xs := xs.map D.int) h0 (by rw [List.length_map]; exact h1)
  obtain ⟨c, hc, rfl⟩ := List.mem_map.mp hm
  exact ⟨c, h, hc⟩
theorem items_r1 {n : Int} (h1 : 0 ≤ n) (h2 : n < 1000000) : itemsD .rng1 [.int n] = some ((List.range n.toNat).map fun (i : Nat) => D.int (i : Int)) := by
  have e : (2 : Int) ^ 62 = 4611686018427387904 := by decide
  show (if -(2 ^ 62) ≤ n ∧ n < 2 ^ 62 then _ else none) = _
  rw [e, if_pos (by omega)]
theorem items_r2 {a b : Int} (h1 : -1000000 < a) (h2 : a < 1000000) (h3 : -1000000 < b) (h4 : b < 1000000) : itemsD .rng2 [.int a, .int b] = some ((List.range (b - a).toNat).map fun (i : Nat) => D.int (a + (i : Int))) := by
  have e : (2 : Int) ^ 62 = 4611686018427387904 := by decide
  show (if -(2 ^ 62) ≤ a ∧ a < 2 ^ 62 ∧ -(2 ^ 62) ≤ b ∧ b < 2 ^ 62 then _ else none) = _
  rw [e, if_pos (by omega)]
theorem items_r3 {a b : Int} (h1 : -1000000 < a) (h2 : a < 1000000) (h3 : -1000000 < b) (h4 : b < 1000000) : itemsD .rng3 [.int a, .int b, .int (-1)] = some ((List.range (a - b).toNat).map fun (i : Nat) => D.int (a - (i : Int))) := by
  have e : (2 : Int) ^ 62 = 4611686018427387904 := by decide
  show (if (-1 : Int) = -1 ∧ -(2 ^ 62) ≤ a ∧ a < 2 ^ 62 ∧ -(2 ^ 62) ≤ b ∧ b < 2 ^ 62 then _ else none) = _
  rw [e, if_pos (by omega)]
/-- all is as it was but the n-th -/
def Fx (n : Nat) (vh vh' : VH) : Prop := vh'.length = vh.length ∧ ∀ j, j ≠ n → vh'[j]? = vh[j]?
theorem fx_set {n : Nat} {vh : VH} {o : VO} : Fx n vh (vh.set n o) := ⟨List.length_set, fun j h => List.getElem?_set_ne (Ne.symm h)⟩
theorem get_set {n : Nat} {vh : VH} {o u : VO} (h : vh[n]? = some u) : (vh.set n o)[n]? = some o := List.getElem?_set_self (List.getElem?_eq_some_iff.mp h).1
theorem df_none {P : Program} {w : World} {K : PySem.W.Frag} {mg : Str → Option Value} {base : Heap} {G : Wd} {k : Nat} {x : Str} {st : Stmt} {f : Addr} {fd : FuncData} {ps : List Str} {sp : VSp} (F : Fun K x x st f fd) (hm : mg x = some (.ref f)) (b : Binds K fd ps []) (hdb : (x == ("__debug__" : Str)) = false) (h : ∀ ds vh R, ¬ sp.run ds vh R) : Df P w K mg base G k x sp :=
  ⟨f, fd, ps, hm, F.kp, b, ⟨fun vs H Q E ⟨_, _, _, _, _, _, z⟩ => (h _ _ _ z).elim, fun A outer s H args us vs Q E hr e0 hb r ⟨_, _, _, _, _, _, z⟩ => (h _ _ _ z).elim⟩, hdb⟩
def none_sp : VSp := ⟨fun _ _ _ => False, fun _ _ _ _ _ h => h⟩
/-! ### equal data -/
mutual
theorem eqD_refl : ∀ (n : Nat) (d : D), okD n d = true → eqD d d = true
  | n, .non, _ => by unfold eqD; rfl
  | n, .bl b, _ => by unfold eqD; simp
  | n, .int i, _ => by unfold eqD; simp
  | n, .str x, _ => by unfold eqD; simp
  | 0, .lst xs, h => by unfold okD at h; cases h
  | 0, .tup xs, h => by unfold okD at h; cases h
  | n + 1, .lst xs, h => by unfold okD at h; unfold eqD; exact eqDs_refl n xs h
  | n + 1, .tup xs, h => by unfold okD at h; unfold eqD; exact eqDs_refl n xs h
  | n, .ty _, h => by cases n <;> (unfold okD at h; cases h)
  | n, .dct _ _, h => by cases n <;> (unfold okD at h; cases h)
  | n, .obj _ _ _, h => by cases n <;> (unfold okD at h; cases h)
  | n, .ref _, h => by cases n <;> (unfold okD at h; cases h)
  | n, .scr _, h => by cases n <;> (unfold okD at h; cases h)
theorem eqDs_refl : ∀ (n : Nat) (ds : List D), okDs n ds = true → eqDs ds ds = true
  | n, [], _ => by unfold eqDs; rfl
  | n, d :: ds, h => by
    unfold okDs at h
    rw [Bool.and_eq_true] at h
    unfold eqDs
    rw [eqD_refl n d h.1, eqDs_refl n ds h.2]
    rfl
end
theorem okDs_ints {n : Nat} : ∀ xs : List Int, okDs n (xs.map D.int) = true
  | [] => by unfold okDs; rfl
  | x :: xs => by
    rw [List.map_cons]
    unfold okDs
    rw [okDs_ints xs]
    cases n <;> (unfold okD; rfl)
theorem eqDs_ints : ∀ xs ys : List Int, eqDs (xs.map D.int) (ys.map D.int) = decide (xs = ys)
  | [], [] => by unfold eqDs; rfl
  | [], y :: ys => by unfold eqDs; rfl
  | x :: xs, [] => by unfold eqDs; rfl
  | x :: xs, y :: ys => by
    rw [List.map_cons, List.map_cons]
    unfold eqDs
    rw [eqDs_ints xs ys]
    unfold eqD
    by_cases q : x = y <;> by_cases r : xs = ys <;> simp [q, r]
theorem okD_tupI {n : Nat} {xs : List Int} : okD (n + 1) (.tup (xs.map D.int)) = true := by unfold okD; exact okDs_ints xs
theorem okD_lstI {n : Nat} {xs : List Int} : okD (n + 1) (.lst (xs.map D.int)) = true := by unfold okD; exact okDs_ints xs
theorem eqD_tupI {xs ys : List Int} : eqD (.tup (xs.map D.int)) (.tup (ys.map D.int)) = decide (xs = ys) := by unfold eqD; exact eqDs_ints xs ys
theorem cut_take {α : Type} {xs : List α} {v : Int} (h : 0 ≤ v) : cutL xs none (some v) = xs.take v.toNat := by
  unfold cutL HT.sIx
  dsimp only
  rw [if_neg (by omega), List.drop_zero, Nat.sub_zero, List.take_eq_take_iff]
  omega
theorem cut_takeN {α : Type} {xs : List α} {v : Int} (h : v < 0) : cutL xs none (some v) = xs.take (xs.length - (-v).toNat) := by
  unfold cutL HT.sIx
  dsimp only
  rw [if_pos h, List.drop_zero, Nat.sub_zero, List.take_eq_take_iff]
  omega
theorem cut_drop {α : Type} {xs : List α} {v : Int} (h : 0 ≤ v) : cutL xs (some v) none = xs.drop v.toNat := by
  unfold cutL HT.sIx
  dsimp only
  rw [if_neg (by omega)]
  by_cases q : v.toNat ≤ xs.length
  · rw [Nat.min_eq_left q, List.take_of_length_le]
    rw [List.length_drop]
    exact Nat.le_refl _
  · rw [Nat.min_eq_right (by omega), Nat.sub_self, List.take_zero, List.drop_eq_nil_of_le (by omega)]
theorem cutL_len {α : Type} {xs : List α} {lo hi : Option Int} : (cutL xs lo hi).length ≤ xs.length := by
  unfold cutL
  rw [List.length_take, List.length_drop]
  omega
theorem cutL_mem {α : Type} {xs : List α} {lo hi : Option Int} {x : α} (h : x ∈ cutL xs lo hi) : x ∈ xs := List.mem_of_mem_drop (List.mem_of_mem_take h)
theorem cutL_map {α β : Type} (f : α → β) (xs : List α) (lo hi : Option Int) : cutL (xs.map f) lo hi = (cutL xs lo hi).map f := by
  unfold cutL
  rw [List.length_map, ← List.map_drop, ← List.map_take]
end R

namespace L_k24
open PySem PySem.Spec PyProof.Rows L2 R
def top (i : Nat) : Stmt := PySem.Challenge.pw_swornworlds_k24_marks.main.body.getD i (.Pass ⟨0, 0, 0, 0⟩)
abbrev st_is_integer : Stmt := top 5
def tc_is_integer : Tc := ⟨["thing"], [], [], []⟩
def ir_is_integer : List S := [.ret (.and (.isi (.bor 0) ["int"]) (.not (.isi (.bor 0) ["bool"])))]
theorem tr_is_integer : eqO (trB tc_is_integer 60 (defScope st_is_integer) 100 (defBody st_is_integer)) ir_is_integer = true := by decide +kernel
theorem sc_is_integer : defB tc_is_integer.N ["thing"] (defScope st_is_integer) = true := by decide +kernel
abbrev st_is_within : Stmt := top 6
def tc_is_within : Tc := ⟨["thing", "least", "most"], ["is_integer"], [], []⟩
def ir_is_within : List S := [.ret (.and (.call "is_integer" [(.var 0)]) (.chain .LtE .LtE (.bor 1) (.bor 0) (.bor 2)))]
theorem tr_is_within : eqO (trB tc_is_within 60 (defScope st_is_within) 100 (defBody st_is_within)) ir_is_within = true := by decide +kernel
theorem sc_is_within : defB tc_is_within.N ["thing", "least", "most"] (defScope st_is_within) = true := by decide +kernel
abbrev st_is_below : Stmt := top 7
def tc_is_below : Tc := ⟨["thing", "many"], ["is_within"], [], []⟩
def ir_is_below : List S := [.ret (.call "is_within" [(.var 0), (.int 0), (.bin .Sub (.bor 1) (.int 1))])]
theorem tr_is_below : eqO (trB tc_is_below 60 (defScope st_is_below) 100 (defBody st_is_below)) ir_is_below = true := by decide +kernel
theorem sc_is_below : defB tc_is_below.N ["thing", "many"] (defScope st_is_below) = true := by decide +kernel
abbrev st_is_row : Stmt := top 11
def tc_is_row : Tc := ⟨["thing", ".0", "item"], ["is_below"], [], []⟩
def ir_is_row : List S := [.ret (.and (.isi (.bor 0) ["tuple"]) (.and (.cmp .LtE (.blt .len [(.bor 0)]) (.glo "MOST_BYTES")) (.blt .all [(.lc (.call "is_below" [(.var 2), (.glo "BYTE")]) (.one 2) [1, 2] .seq [(.var 0)] [])])))]
theorem tr_is_row : eqO (trB tc_is_row 60 (defScope st_is_row) 100 (defBody st_is_row)) ir_is_row = true := by decide +kernel
theorem sc_is_row : defB tc_is_row.N ["thing"] (defScope st_is_row) = true := by decide +kernel
abbrev st_check_row : Stmt := top 12
def tc_check_row : Tc := ⟨["thing"], ["is_row"], [], []⟩
def ir_check_row : List S := [.cond (.not (.call "is_row" [(.var 0)])) [.never] []]
theorem tr_check_row : eqO (trB tc_check_row 60 (defScope st_check_row) 100 (defBody st_check_row)) ir_check_row = true := by decide +kernel
theorem sc_check_row : defB tc_check_row.N ["thing"] (defScope st_check_row) = true := by decide +kernel
abbrev st_marked : Stmt := top 17
def tc_marked : Tc := ⟨["mark", "row", "found", "byte"], [], [], []⟩
def ir_marked : List S := [.set 2 (.var 0), .forS (.one 3) .seq [(.var 1)] [.set 2 (.bin .Mod (.bin .Add (.bin .Add (.bin .Mult (.bor 2) (.glo "MARK_STEP")) (.bor 3)) (.int 1)) (.glo "MARK_PRIME"))], .ret (.var 2)]
theorem tr_marked : eqO (trB tc_marked 60 (defScope st_marked) 100 (defBody st_marked)) ir_marked = true := by decide +kernel
theorem sc_marked : defB tc_marked.N ["mark", "row"] (defScope st_marked) = true := by decide +kernel
abbrev st_mark_of : Stmt := top 18
def tc_mark_of : Tc := ⟨["row"], ["marked"], [], []⟩
def ir_mark_of : List S := [.ret (.call "marked" [(.glo "MARK_BEGIN"), (.var 0)])]
theorem tr_mark_of : eqO (trB tc_mark_of 60 (defScope st_mark_of) 100 (defBody st_mark_of)) ir_mark_of = true := by decide +kernel
theorem sc_mark_of : defB tc_mark_of.N ["row"] (defScope st_mark_of) = true := by decide +kernel
abbrev st_mark : Stmt := top 19
def tc_mark : Tc := ⟨["row"], ["check_row", "mark_of"], [], []⟩
def ir_mark : List S := [.expr (.call "check_row" [(.var 0)]), .ret (.call "mark_of" [(.var 0)])]
theorem tr_mark : eqO (trB tc_mark 60 (defScope st_mark) 100 (defBody st_mark)) ir_mark = true := by decide +kernel
theorem sc_mark : defB tc_mark.N ["row"] (defScope st_mark) = true := by decide +kernel
abbrev st_mark_behind : Stmt := top 20
def tc_mark_behind : Tc := ⟨["number", "row"], ["is_below", "check_row", "marked"], [], []⟩
def ir_mark_behind : List S := [.cond (.not (.call "is_below" [(.var 0), (.glo "MARK_PRIME")])) [.never] [], .expr (.call "check_row" [(.var 1)]), .ret (.call "marked" [(.var 0), (.var 1)])]
theorem tr_mark_behind : eqO (trB tc_mark_behind 60 (defScope st_mark_behind) 100 (defBody st_mark_behind)) ir_mark_behind = true := by decide +kernel
theorem sc_mark_behind : defB tc_mark_behind.N ["number", "row"] (defScope st_mark_behind) = true := by decide +kernel
abbrev st__law_hand : Stmt := top 22
def tc__law_hand : Tc := ⟨["script", ".0", "cell"], [], [], []⟩
def ir__law_hand : List S := [.ret (.lst [(.lc (.blt .int [(.bor 2)]) (.one 2) [1, 2] .seq [(.sli (.bor 0) .skip (.int 63))] []), (.int 0), (.int 0), (.bin .Add (.int 1) (.blt .len [(.sli (.bor 0) .skip (.int 63))])), (.int 0)])]
theorem tr__law_hand : eqO (trB tc__law_hand 60 (defScope st__law_hand) 100 (defBody st__law_hand)) ir__law_hand = true := by decide +kernel
theorem sc__law_hand : defB tc__law_hand.N ["script"] (defScope st__law_hand) = true := by decide +kernel
abbrev st__law_draw : Stmt := top 23
def tc__law_draw : Tc := ⟨["hand", "many", "cell", "digit", "number"], [], [], []⟩
def ir__law_draw : List S := [.cond (.and (.cmp .Eq (.idx (.bor 0) (.int 2)) (.int 0)) (.cmp .Lt (.idx (.bor 0) (.int 1)) (.blt .len [(.idx (.bor 0) (.int 0))]))) [.set 2 (.idx (.idx (.bor 0) (.int 0)) (.idx (.bor 0) (.int 1))), .sidx (.bor 0) (.int 1) (.bin .Add (.idx (.bor 0) (.int 1)) (.int 1)), .sidx (.bor 0) (.int 3) (.bin .Mod (.blt .int [(.bin .Add (.bin .Add (.bin .Mult (.idx (.bor 0) (.int 3)) (.int 69621)) (.bin .Mult (.bor 2) (.int 16))) (.int 11))]) (.int 2147483629)), .cond (.cmp .GtE (.bor 2) (.bin .Pow (.int 10) (.int 18))) [.sidx (.bor 0) (.int 2) (.var 2)] []] [], .cond (.cmp .Gt (.idx (.bor 0) (.int 2)) (.int 0)) [.set 3 (.bin .Mod (.blt .int [(.idx (.bor 0) (.int 2))]) (.bor 1)), .sidx (.bor 0) (.int 2) (.bin .FloorDiv (.idx (.bor 0) (.int 2)) (.bor 1)), .ret (.var 3)] [], .sidx (.bor 0) (.int 4) (.bin .Add (.idx (.bor 0) (.int 4)) (.int 1)), .set 4 (.bin .Mod (.blt .int [(.bin .Mult (.blt .int [(.bin .Add (.idx (.bor 0) (.int 3)) (.bin .Mult (.int 7919) (.idx (.bor 0) (.int 4))))]) (.int 48271))]) (.int 2147483647)), .set 4 (.bin .Mod (.blt .int [(.bin .Mult (.bor 4) (.bin .Add (.bin .FloorDiv (.bor 4) (.int 1009)) (.int 69621)))]) (.int 2147483647)), .set 4 (.bin .Mod (.blt .int [(.bin .Mult (.bor 4) (.bin .Add (.bin .FloorDiv (.bor 4) (.int 2003)) (.int 40692)))]) (.int 2147483399)), .ret (.bin .Mod (.blt .int [(.bin .FloorDiv (.bor 4) (.int 16))]) (.bor 1))]
theorem tr__law_draw : eqO (trB tc__law_draw 60 (defScope st__law_draw) 100 (defBody st__law_draw)) ir__law_draw = true := by decide +kernel
theorem sc__law_draw : defB tc__law_draw.N ["hand", "many"] (defScope st__law_draw) = true := by decide +kernel
abbrev st__law_is : Stmt := top 24
def tc__law_is : Tc := ⟨["told", "due", ".0", "one", "two"], ["_law_is"], [], []⟩
def ir__law_is : List S := [.cond (.isi (.bor 1) ["tuple", "list"]) [.cond (.or (.cmp .NotEq (.isi (.bor 0) ["tuple"]) (.isi (.bor 1) ["tuple"])) (.not (.isi (.bor 0) ["tuple", "list"]))) [.ret (.bl false)] [], .ret (.and (.cmp .Eq (.blt .len [(.bor 0)]) (.blt .len [(.bor 1)])) (.blt .all [(.lc (.call "_law_is" [(.var 3), (.var 4)]) (.many [3, 4]) [2, 3, 4] .zip [(.var 0), (.var 1)] [])]))] [], .ret (.and (.cmp .Eq (.isi (.bor 0) ["bool"]) (.isi (.bor 1) ["bool"])) (.cmp .Eq (.bor 0) (.bor 1)))]
theorem tr__law_is : eqO (trB tc__law_is 60 (defScope st__law_is) 100 (defBody st__law_is)) ir__law_is = true := by decide +kernel
theorem sc__law_is : defB tc__law_is.N ["told", "due"] (defScope st__law_is) = true := by decide +kernel
abbrev st__law_byte : Stmt := top 25
def tc__law_byte : Tc := ⟨["hand"], ["_law_draw"], [], []⟩
def ir__law_byte : List S := [.cond (.cmp .Eq (.call "_law_draw" [(.var 0), (.int 2)]) (.int 0)) [.ret (.idx (.lst [(.int 0), (.int 1), (.int 127), (.int 128), (.int 129), (.int 255)]) (.call "_law_draw" [(.var 0), (.int 6)]))] [], .ret (.call "_law_draw" [(.var 0), (.int 256)])]
theorem tr__law_byte : eqO (trB tc__law_byte 60 (defScope st__law_byte) 100 (defBody st__law_byte)) ir__law_byte = true := by decide +kernel
theorem sc__law_byte : defB tc__law_byte.N ["hand"] (defScope st__law_byte) = true := by decide +kernel
abbrev st__law_bytes : Stmt := top 26
def tc__law_bytes : Tc := ⟨["hand", "most", ".0", "turn"], ["_law_draw", "_law_byte"], [], []⟩
def ir__law_bytes : List S := [.ret (.blt .tuple [(.lc (.call "_law_byte" [(.var 0)]) (.one 3) [2, 3] .rng1 [(.call "_law_draw" [(.var 0), (.bin .Add (.bor 1) (.int 1))])] [])])]
theorem tr__law_bytes : eqO (trB tc__law_bytes 60 (defScope st__law_bytes) 100 (defBody st__law_bytes)) ir__law_bytes = true := by decide +kernel
theorem sc__law_bytes : defB tc__law_bytes.N ["hand", "most"] (defScope st__law_bytes) = true := by decide +kernel
abbrev st__law_sum : Stmt := top 27
def tc__law_sum : Tc := ⟨["begin", "row", "total", "power", "place"], [], [], []⟩
def ir__law_sum : List S := [.set 2 (.int 0), .set 3 (.int 1), .forS (.one 4) .rng3 [(.bin .Sub (.blt .len [(.bor 1)]) (.int 1)), (.neg (.int 1)), (.neg (.int 1))] [.set 2 (.bin .Add (.bor 2) (.bin .Mult (.bin .Add (.idx (.bor 1) (.bor 4)) (.int 1)) (.bor 3))), .set 3 (.bin .Mod (.blt .int [(.bin .Mult (.bor 3) (.int 1000003))]) (.bin .Sub (.bin .Pow (.int 2) (.int 61)) (.int 1)))], .ret (.bin .Mod (.blt .int [(.bin .Add (.bor 2) (.bin .Mult (.bor 0) (.bor 3)))]) (.bin .Sub (.bin .Pow (.int 2) (.int 61)) (.int 1)))]
theorem tr__law_sum : eqO (trB tc__law_sum 60 (defScope st__law_sum) 100 (defBody st__law_sum)) ir__law_sum = true := by decide +kernel
theorem sc__law_sum : defB tc__law_sum.N ["begin", "row"] (defScope st__law_sum) = true := by decide +kernel
abbrev st_law : Stmt := top 28
def tc_law : Tc := ⟨["script", "hand", "times", "number", "one", "other", "due", "at", "cuts", "found", "begin", "end", ".0", "turn"], ["_law_hand", "_law_draw", "_law_bytes", "_law_sum", "_law_is", "mark", "mark_behind"], [], ["hand"]⟩
def ir_law : List S := [.setS 1 (.call "_law_hand" [(.var 0)]), .set 2 (.idx (.lst [(.int 1), (.int 1), (.int 2), (.int 20)]) (.call "_law_draw" [(.var 1), (.int 4)])), .set 3 (.idx (.lst [(.int 0), (.int 1), (.bin .Sub (.bin .Pow (.int 2) (.int 61)) (.int 2)), (.call "_law_draw" [(.var 1), (.bin .Sub (.bin .Pow (.int 2) (.int 61)) (.int 1))])]) (.call "_law_draw" [(.var 1), (.int 4)])), .set 4 (.bin .Mult (.call "_law_bytes" [(.var 1), (.int 30)]) (.bor 2)), .set 5 (.call "_law_bytes" [(.var 1), (.int 30)]), .set 6 (.call "_law_sum" [(.int 1), (.var 4)]), .cond (.or (.not (.call "_law_is" [(.call "mark" [(.var 4)]), (.var 6)])) (.not (.call "_law_is" [(.call "mark" [(.var 5)]), (.call "_law_sum" [(.int 1), (.var 5)])]))) [.ret (.bl false)] [], .cond (.or (.not (.call "_law_is" [(.call "mark" [(.bin .Add (.bor 4) (.bor 5))]), (.call "_law_sum" [(.int 1), (.bin .Add (.bor 4) (.bor 5))])])) (.not (.call "_law_is" [(.call "mark" [(.tup [])]), (.int 1)]))) [.ret (.bl false)] [], .cond (.not (.call "_law_is" [(.call "mark_behind" [(.call "mark" [(.var 4)]), (.var 5)]), (.call "_law_sum" [(.int 1), (.bin .Add (.bor 4) (.bor 5))])])) [.ret (.bl false)] [], .cond (.or (.not (.call "_law_is" [(.call "mark_behind" [(.var 3), (.var 4)]), (.call "_law_sum" [(.var 3), (.var 4)])])) (.not (.call "_law_is" [(.call "mark_behind" [(.var 3), (.tup [])]), (.var 3)]))) [.ret (.bl false)] [], .forS (.one 7) .rng1 [(.blt .min2 [(.int 60), (.bin .Add (.blt .len [(.bor 4)]) (.int 1))])] [.cond (.not (.call "_law_is" [(.call "mark_behind" [(.call "mark" [(.sli (.bor 4) .skip (.var 7))]), (.sli (.bor 4) (.var 7) .skip)]), (.var 6)])) [.ret (.bl false)] []], .set 8 (.blt .sorted [(.lc (.call "_law_draw" [(.var 1), (.bin .Add (.blt .len [(.bor 4)]) (.int 1))]) (.one 13) [12, 13] .rng1 [(.int 3)] [])]), .set 9 (.call "mark" [(.sli (.bor 4) .skip (.idx (.bor 8) (.int 0)))]), .forS (.many [10, 11]) .seq [(.lst [(.tup [(.idx (.bor 8) (.int 0)), (.idx (.bor 8) (.int 1))]), (.tup [(.idx (.bor 8) (.int 1)), (.idx (.bor 8) (.int 2))]), (.tup [(.idx (.bor 8) (.int 2)), (.blt .len [(.bor 4)])])])] [.set 9 (.call "mark_behind" [(.var 9), (.sli (.bor 4) (.var 10) (.var 11))])], .ret (.and (.call "_law_is" [(.var 9), (.var 6)]) (.call "_law_is" [(.call "mark" [(.var 4)]), (.var 6)]))]
theorem tr_law : eqO (trB tc_law 60 (defScope st_law) 100 (defBody st_law)) ir_law = true := by decide +kernel
theorem sc_law : defB tc_law.N ["script"] (defScope st_law) = true := by decide +kernel
end L_k24

set_option autoImplicit true
namespace L_k24
open PySem PySem.Spec PyProof.Rows L2 R
local macro_rules | `(tactic| walk_at "r1") => `(tactic| first
  | ((with_reducible refine' b_cons ?h1 ?_); (case h1 => first | (simp only [List.set_cons_succ, List.set_cons_zero]; done) | (simp only [List.set_cons_succ, List.set_cons_zero]; rfl) | rfl))
  | ((with_reducible refine' g_E ?_); first
    | ((with_reducible refine' e_var ?h1 ?_); (case h1 => first | rfl | trivial | assumption | decide))
    | (with_reducible refine' e_int ?_)
    | (with_reducible refine' e_bin ?_)
    | (with_reducible refine' e_call ?_)
    | (with_reducible refine' e_idx ?_)
    | (with_reducible refine' e_blt ?_)
    | (with_reducible refine' e_cmp ?_)
    | (with_reducible refine' e_sli ?_)
    | (with_reducible refine' e_skip ?_)
    | (with_reducible refine' e_tup ?_)
    | (with_reducible refine' e_lst ?_)
    | (with_reducible refine' e_bl ?_)
    | (with_reducible refine' e_non ?_)
    | (with_reducible refine' e_str ?_)
    | ((with_reducible refine' e_glo ?h1 ?_); (case h1 => first | rfl | trivial | assumption | decide))
    | (with_reducible refine' e_and ?_)
    | (with_reducible refine' e_or ?_)
    | (with_reducible refine' e_not ?_)
    | (with_reducible refine' e_ite ?_)
    | (with_reducible refine' e_isi ?_)
    | (with_reducible refine' e_neg ?_)
    | (with_reducible refine' e_chain ?_)
    | (with_reducible refine' e_lc ?_)
    | ((with_reducible refine' e_varO ?h1 ?_); (case h1 => first | rfl | trivial | assumption | decide)))
  | ((with_reducible refine' g_O ?_); first
    | ((with_reducible refine' o_bor ?h1 ?h2 ?_); (case h1 => first | rfl | trivial | assumption | decide); (case h2 => first | rfl | trivial | assumption | decide))
    | ((with_reducible refine' o_val ?h1 ?_); (case h1 => first | rfl | trivial | assumption | decide)))
  | ((with_reducible refine' g_Ex ?_); first
    | ((with_reducible refine' ⟨_, _, ?h1, ?h2, ?_⟩); (case h1 => first | rfl | ((with_reducible refine' ld_ref ?g1 ?g2); (case g1 => rfl); (case g2 => assumption)) | ((with_reducible refine' ld_refD ?g2); (case g2 => assumption)) | ((with_reducible refine' ld_nr ?g1); (case g1 => assumption)) | ((with_reducible refine' ld_nrS ?g1 ?g2); (case g1 => rfl); (case g2 => assumption))); (case h2 => first | rfl | ((with_reducible refine' ld_ref ?g3 ?g4); (case g3 => rfl); (case g4 => assumption)) | ((with_reducible refine' ld_refD ?g4); (case g4 => assumption)) | ((with_reducible refine' ld_nr ?g3); (case g3 => assumption)) | ((with_reducible refine' ld_nrS ?g3 ?g4); (case g3 => rfl); (case g4 => assumption))))
    | ((with_reducible refine' ⟨_, ?h1, ?_⟩); (case h1 => rfl)))
  | ((with_reducible refine' g_Bin ?_); first
    | (with_reducible refine' b_add ?_)
    | (with_reducible refine' b_sub ?_)
    | ((with_reducible refine' b_mod ?h1 ?_); (first | (case h1 => (first | omega | decide)) | rotate_left))
    | ((with_reducible refine' b_mul ?h1 ?_); (first | (case h1 => (first | exact mul_l (by omega) (by omega) | exact mul_r (by omega) (by omega))) | rotate_left))
    | ((with_reducible refine' b_div ?h1 ?_); (first | (case h1 => (first | exact div_ok (by omega) (by omega))) | rotate_left))
    | ((with_reducible refine' b_addT ?h1 ?_); (first | (case h1 => (first | omega)) | rotate_left))
    | ((with_reducible refine' b_addL ?h1 ?_); (first | (case h1 => (first | omega)) | rotate_left))
    | ((with_reducible refine' b_mulT ?h1 ?h2 ?h3 ?_); (first | (case h1 => (first | omega)) | rotate_left); (first | (case h2 => (first | omega)) | rotate_left); (first | (case h3 => (first | omega)) | rotate_left))
    | ((with_reducible refine' b_pow ?h1 ?_); (first | (case h1 => (first | exact ⟨by omega, by omega, by decide⟩)) | rotate_left))
    | ((with_reducible refine' b_addS ?h1 ?_); (first | (case h1 => (first | omega)) | rotate_left)))
  | ((with_reducible refine' g_Cmp ?_); first
    | (with_reducible refine' c_eqI ?_)
    | (with_reducible refine' c_lt ?_)
    | (with_reducible refine' c_le ?_)
    | (with_reducible refine' c_gt ?_)
    | (with_reducible refine' c_ge ?_)
    | (with_reducible refine' c_neI ?_)
    | (with_reducible refine' c_isN ?_)
    | (with_reducible refine' c_isNotN ?_)
    | ((with_reducible refine' c_eqBt ?h1 ?_); (case h1 => first | rfl | trivial | assumption | decide))
    | ((with_reducible refine' c_eqBf ?h1 ?_); (case h1 => first | rfl | trivial | assumption | decide))
    | ((with_reducible refine' c_neBt ?h1 ?_); (case h1 => first | rfl | trivial | assumption | decide))
    | ((with_reducible refine' c_neBf ?h1 ?_); (case h1 => first | rfl | trivial | assumption | decide))
    | ((with_reducible refine' c_eq ?h1 ?h2 ?_); (first | (case h1 => (first | rfl | exact okD_tupI | exact okD_lstI)) | rotate_left); (first | (case h2 => (first | rfl | exact okD_tupI | exact okD_lstI)) | rotate_left))
    | ((with_reducible refine' c_ne ?h1 ?h2 ?_); (first | (case h1 => (first | rfl | exact okD_tupI | exact okD_lstI)) | rotate_left); (first | (case h2 => (first | rfl | exact okD_tupI | exact okD_lstI)) | rotate_left)))
  | ((with_reducible refine' g_L ?_); first
    | (with_reducible refine' l_cons ?_)
    | (with_reducible refine' l_nil ?_))
  | ((with_reducible refine' g_Os ?_); first
    | (with_reducible refine' os_cons ?_)
    | (with_reducible refine' os_nil ?_))
  | ((with_reducible refine' g_Blt ?_); first
    | (with_reducible refine' f_int ?_)
    | (with_reducible refine' f_lenT ?_)
    | (with_reducible refine' f_lenL ?_)
    | (with_reducible refine' f_lenC ?_)
    | (with_reducible refine' f_tupL ?_)
    | (with_reducible refine' f_tupT ?_)
    | (with_reducible refine' f_lstL ?_)
    | (with_reducible refine' f_lstT ?_)
    | (with_reducible refine' f_lstC ?_)
    | (with_reducible refine' f_abs ?_)
    | (with_reducible refine' f_min ?_)
    | (with_reducible refine' f_max ?_)
    | (with_reducible refine' f_sumC ?_)
    | (with_reducible refine' f_intB ?_)
    | ((with_reducible refine' f_lenS ?h1 ?_); (first | (case h1 => (first | omega)) | rotate_left)))
  | ((with_reducible refine' g_S ?_); first
    | (with_reducible refine' s_set ?_)
    | (with_reducible refine' s_ret ?_)
    | (with_reducible refine' s_cond ?_)
    | (with_reducible refine' s_sidx ?_)
    | (with_reducible refine' s_expr ?_)
    | (with_reducible refine' s_par ?_)
    | (with_reducible refine' s_setS ?_)
    | (with_reducible refine' s_setO ?_)
    | (with_reducible refine' s_for ?_)
    | (with_reducible refine' s_app ?_)
    | (with_reducible refine' s_retN ?_)
    | (with_reducible refine' s_unp ?_)
    | (with_reducible refine' s_pass ?_)
    | (with_reducible refine' s_brk ?_)
    | (with_reducible refine' s_cont ?_)
    | ((with_reducible refine' s_retO ?h1 ?_); (case h1 => first | rfl | trivial | assumption | decide))
    | ((with_reducible refine' s_aug ?h1 ?_); (case h1 => first | rfl | trivial | assumption | decide)))
  | (with_reducible refine' b_nil ?_)
  | ((with_reducible refine' g_T ?_); first
    | ((with_reducible refine' t_bor ?h1 ?h2 ?_); (case h1 => first | rfl | trivial | assumption | decide); (case h2 => first | rfl | trivial | assumption | decide))
    | (with_reducible refine' e_cmp ?_)
    | (with_reducible refine' e_andT ?_)
    | (with_reducible refine' e_orT ?_)
    | (with_reducible refine' e_notT ?_)
    | (with_reducible refine' e_ite ?_)
    | (with_reducible refine' e_chain ?_)
    | ((with_reducible refine' t_fin ?h1 ?_); (case h1 => first | rfl | trivial | assumption | decide)))
  | ((with_reducible refine' i_tup ?h1 ?_); (case h1 => rfl))
  | ((with_reducible refine' i_lst ?h1 ?_); (case h1 => rfl))
  | (with_reducible refine' fg_cons ?_)
  | (with_reducible refine' fg_nil ?_)
  | (with_reducible refine' lcg_cons ?_)
  | (with_reducible refine' lcg_nil ?_)
  | (with_reducible refine' p_nt ?_)
  | (with_reducible refine' p_nf ?_)
  | (with_reducible refine' p_true ?_)
  | (with_reducible refine' p_false ?_)
  | (with_reducible refine' u_tup ?_)
  | (with_reducible refine' u_lst ?_)
  | (with_reducible refine' u_scr ?_)
  | (with_reducible refine' ts_nil ?_)
  | (with_reducible refine' ts_one ?_)
  | ((with_reducible refine' isi_t ?h1 ?h2 ?_); (case h1 => first | rfl | trivial | assumption | decide); (case h2 => first | rfl | trivial | assumption | decide))
  | ((with_reducible refine' isi_f ?h1 ?h2 ?_); (case h1 => first | rfl | trivial | assumption | decide); (case h2 => first | rfl | trivial | assumption | decide))
  | ((with_reducible refine' And.intro ?h1 ?_); (case h1 => first | rfl | exact Nat.le_of_ble_eq_true rfl | trivial))
  | ((with_reducible refine' w_set ?h1 ?h2 ?h3 ?_); (case h1 => rfl); (case h2 => assumption); (case h3 => rfl))
  | (with_reducible refine' g_P ?_; first | (change ifP true _ _; refine p_true ?_) | (change ifP false _ _; refine p_false ?_))
  | walk_at "call1")
local macro_rules | `(tactic| walk_at "r") => `(tactic| repeat (walk_at "r1"))
/-! ### what is said -/
def mk (m : Int) (bs : List Int) : Int := bs.foldl (fun f b => (f * 1000003 + b + 1) % 2305843009213693951) m
def Byt (bs : List Int) : Prop := ∀ b, b ∈ bs → 0 ≤ b ∧ b < 256
@[reducible] def tupI (bs : List Int) : D := .tup (bs.map D.int)
def Gam : Cns := fun x => if x = "MOST_BYTES" then some (.int 300000) else if x = "BYTE" then some (.int 256) else if x = "MARK_PRIME" then some (.int 2305843009213693951) else if x = "MARK_STEP" then some (.int 1000003) else if x = "MARK_BEGIN" then some (.int 1) else none
def isHand (o : VO) : Prop := ∃ (cs : List Int) (a b c d : Int), o = .lst [.lst (cs.map D.int), .int a, .int b, .int c, .int d] ∧ 0 ≤ a
def s_is_integer : VSp := specF (A := Int) (fun i => [.int i]) (fun _ => True) fun _ => .v (.bl true)
def s_is_within : VSp := specF (A := Int × Int × Int) (fun a => [.int a.1, .int a.2.1, .int a.2.2]) (fun _ => True) fun a => .v (.bl (decide (a.2.1 ≤ a.1 ∧ a.1 ≤ a.2.2)))
def s_is_below : VSp := specF (A := Int × Int) (fun a => [.int a.1, .int a.2]) (fun _ => True) fun a => .v (.bl (decide (0 ≤ a.1 ∧ a.1 < a.2)))
def s_is_row : VSp := specF (A := List Int) (fun bs => [tupI bs]) (fun bs => Byt bs ∧ bs.length ≤ 300000) fun _ => .v (.bl true)
def s_check_row : VSp := specF (A := List Int) (fun bs => [tupI bs]) (fun bs => Byt bs ∧ bs.length ≤ 300000) fun _ => .v .non
def s_marked : VSp := specF (A := Int × List Int) (fun a => [.int a.1, tupI a.2]) (fun _ => True) fun a => .v (.int (mk a.1 a.2))
def s_mark_of : VSp := specF (A := List Int) (fun bs => [tupI bs]) (fun _ => True) fun bs => .v (.int (mk 1 bs))
def s_mark : VSp := specF (A := List Int) (fun bs => [tupI bs]) (fun bs => Byt bs ∧ bs.length ≤ 300000) fun bs => .v (.int (mk 1 bs))
def s_mark_behind : VSp := specF (A := Int × List Int) (fun a => [.int a.1, tupI a.2]) (fun a => (0 ≤ a.1 ∧ a.1 < 2305843009213693951) ∧ Byt a.2 ∧ a.2.length ≤ 300000) fun a => .v (.int (mk a.1 a.2))
def s__law_hand : VSp := spec (A := List Int) (fun ns => [.scr ns]) (fun _ _ => True) fun ns vh x vh' => ∃ ds, x = .fr ds ∧ isHand (.lst ds) ∧ vh' = vh
def s__law_draw : VSp := spec (A := Nat × Int) (fun a => [.ref a.1, .int a.2]) (fun a vh => (∃ o, vh[a.1]? = some o ∧ isHand o) ∧ 0 < a.2 ∧ a.2 < 18446744073709551616) fun a vh x vh' => ∃ k o, x = .v (.int k) ∧ 0 ≤ k ∧ k < a.2 ∧ isHand o ∧ vh' = vh.set a.1 o
def s__law_is : VSp := specF (A := Int × Int) (fun a => [.int a.1, .int a.2]) (fun _ => True) fun a => .v (.bl (decide (a.1 = a.2)))
def s__law_byte : VSp := spec (A := Nat) (fun n => [.ref n]) (fun n vh => ∃ o, vh[n]? = some o ∧ isHand o) fun n vh x vh' => ∃ k o, x = .v (.int k) ∧ 0 ≤ k ∧ k < 256 ∧ isHand o ∧ vh' = vh.set n o
def s__law_bytes : VSp := spec (A := Nat × Int) (fun a => [.ref a.1, .int a.2]) (fun a vh => (∃ o, vh[a.1]? = some o ∧ isHand o) ∧ 0 ≤ a.2 ∧ a.2 ≤ 1000) fun a vh x vh' => ∃ (bs : List Int) (o : VO), x = .v (tupI bs) ∧ Byt bs ∧ bs.length ≤ a.2 ∧ isHand o ∧ vh' = vh.set a.1 o
def s__law_sum : VSp := specF (A := Int × List Int) (fun a => [.int a.1, tupI a.2]) (fun a => (0 ≤ a.1 ∧ a.1 < 2305843009213693951) ∧ a.2.length ≤ 300000) fun a => .v (.int (mk a.1 a.2))
def s_law : VSp := spec (A := List Int) (fun ns => [.scr ns]) (fun _ _ => True) fun _ _ x _ => x = .v (.bl true)
def Phi : Fns := fun x => if x = "is_integer" then s_is_integer else if x = "is_within" then s_is_within else if x = "is_below" then s_is_below else if x = "is_row" then s_is_row else if x = "check_row" then s_check_row else if x = "marked" then s_marked
  else if x = "mark_of" then s_mark_of else if x = "mark" then s_mark else if x = "mark_behind" then s_mark_behind
  else if x = "_law_hand" then s__law_hand else if x = "_law_draw" then s__law_draw else if x = "_law_is" then s__law_is else if x = "_law_byte" then s__law_byte else if x = "_law_bytes" then s__law_bytes else if x = "_law_sum" then s__law_sum else if x = "law" then s_law else none_sp
/-- ahead of _law_is: nothing is said of it -/
def Phi0 : Fns := fun x => if x = "_law_is" then none_sp else Phi x
def Hd (n : Nat) (vh : VH) : Prop := ∃ o, vh[n]? = some o ∧ isHand o
theorem byt_app {as bs : List Int} (h1 : Byt as) (h2 : Byt bs) : Byt (as ++ bs) := fun b hb => (List.mem_append.mp hb).elim (h1 b) (h2 b)
theorem byt_cut {as : List Int} {lo hi : Option Int} (h : Byt as) : Byt (cutL as lo hi) := fun b hb => h b (cutL_mem hb)
theorem fx_trans {n : Nat} {a b c : VH} (h1 : Fx n a b) (h2 : Fx n b c) : Fx n a c := ⟨h2.1.trans h1.1, fun j e => (h2.2 j e).trans (h1.2 j e)⟩
theorem vh_eq {n : Nat} {vh vh' : VH} {o u : VO} (h1 : vh[n]? = some u) (h2 : vh'[n]? = some o) (f : Fx n vh vh') : vh' = vh.set n o := by
  apply List.ext_getElem?
  intro j
  by_cases e : j = n
  · subst e
    rw [get_set h1]
    exact h2
  · rw [List.getElem?_set_ne (Ne.symm e)]
    exact f.2 j e
/-! ### calls -/
section
variable {vh : VH} {k : DV → VH → Prop} {kx : Str → List D → VH → Prop}
theorem c_is_integer {i : Int} (q : k (.v (.bl true)) vh) : (Phi "is_integer").run [.int i] vh (callK k kx) := call_specF (A := Int) i rfl trivial q
theorem c_is_within {t l m : Int} (q : k (.v (.bl (decide (l ≤ t ∧ t ≤ m)))) vh) : (Phi "is_within").run [.int t, .int l, .int m] vh (callK k kx) := call_specF (A := Int × Int × Int) (t, l, m) rfl trivial q
theorem c_is_below {t m : Int} (q : k (.v (.bl (decide (0 ≤ t ∧ t < m)))) vh) : (Phi "is_below").run [.int t, .int m] vh (callK k kx) := call_specF (A := Int × Int) (t, m) rfl trivial q
theorem c_is_row {bs : List Int} (h1 : Byt bs ∧ bs.length ≤ 300000) (q : k (.v (.bl true)) vh) : (Phi "is_row").run [tupI bs] vh (callK k kx) := call_specF (A := List Int) bs rfl h1 q
theorem c_check_row {bs : List Int} (h1 : Byt bs ∧ bs.length ≤ 300000) (q : k (.v .non) vh) : (Phi "check_row").run [tupI bs] vh (callK k kx) := call_specF (A := List Int) bs rfl h1 q
theorem c_marked {m : Int} {bs : List Int} (q : k (.v (.int (mk m bs))) vh) : (Phi "marked").run [.int m, tupI bs] vh (callK k kx) := call_specF (A := Int × List Int) (m, bs) rfl trivial q
theorem c_mark_of {bs : List Int} (q : k (.v (.int (mk 1 bs))) vh) : (Phi "mark_of").run [tupI bs] vh (callK k kx) := call_specF (A := List Int) bs rfl trivial q
theorem c_mark {bs : List Int} (h1 : Byt bs ∧ bs.length ≤ 300000) (q : k (.v (.int (mk 1 bs))) vh) : (Phi "mark").run [tupI bs] vh (callK k kx) := call_specF (A := List Int) bs rfl h1 q
theorem c_mark_behind {m : Int} {bs : List Int} (h1 : (0 ≤ m ∧ m < 2305843009213693951) ∧ Byt bs ∧ bs.length ≤ 300000) (q : k (.v (.int (mk m bs))) vh) : (Phi "mark_behind").run [.int m, tupI bs] vh (callK k kx) := call_specF (A := Int × List Int) (m, bs) rfl h1 q
theorem c__law_is {a b : Int} (q : k (.v (.bl (decide (a = b)))) vh) : (Phi "_law_is").run [.int a, .int b] vh (callK k kx) := call_specF (A := Int × Int) (a, b) rfl trivial q
theorem c__law_sum {m : Int} {bs : List Int} (h1 : (0 ≤ m ∧ m < 2305843009213693951) ∧ bs.length ≤ 300000) (q : k (.v (.int (mk m bs))) vh) : (Phi "_law_sum").run [.int m, tupI bs] vh (callK k kx) := call_specF (A := Int × List Int) (m, bs) rfl h1 q
theorem c__law_hand {ns : List Int} (q : ∀ ds, isHand (.lst ds) → k (.fr ds) vh) : (Phi "_law_hand").run [.scr ns] vh (callK k kx) := call_spec (A := List Int) ns rfl trivial (by
  rintro _ _ ⟨ds, rfl, h, rfl⟩
  exact q ds h)
theorem c__law_draw {n : Nat} {m : Int} (h : Hd n vh) (h3 : 0 < m ∧ m < 18446744073709551616) (q : ∀ (u : Int) (vh' : VH), 0 ≤ u → u < m → Hd n vh' → Fx n vh vh' → k (.v (.int u)) vh') : (Phi "_law_draw").run [.ref n, .int m] vh (callK k kx) := by
  obtain ⟨o0, h1, h2⟩ := h
  refine call_spec (A := Nat × Int) (n, m) rfl ⟨⟨o0, h1, h2⟩, h3⟩ ?_
  rintro _ _ ⟨u, o, rfl, a1, a2, a3, rfl⟩
  exact q u _ a1 a2 ⟨o, get_set h1, a3⟩ fx_set
theorem c__law_byte {n : Nat} (h : Hd n vh) (q : ∀ (u : Int) (vh' : VH), 0 ≤ u → u < 256 → Hd n vh' → Fx n vh vh' → k (.v (.int u)) vh') : (Phi "_law_byte").run [.ref n] vh (callK k kx) := by
  obtain ⟨o0, h1, h2⟩ := h
  refine call_spec (A := Nat) n rfl ⟨o0, h1, h2⟩ ?_
  rintro _ _ ⟨u, o, rfl, a1, a2, a3, rfl⟩
  exact q u _ a1 a2 ⟨o, get_set h1, a3⟩ fx_set
theorem c__law_bytes {n : Nat} {m : Int} (h : Hd n vh) (h3 : 0 ≤ m ∧ m ≤ 1000) (q : ∀ (bs : List Int) (vh' : VH), Byt bs → bs.length ≤ m → Hd n vh' → Fx n vh vh' → k (.v (tupI bs)) vh') : (Phi "_law_bytes").run [.ref n, .int m] vh (callK k kx) := by
  obtain ⟨o0, h1, h2⟩ := h
  refine call_spec (A := Nat × Int) (n, m) rfl ⟨⟨o0, h1, h2⟩, h3⟩ ?_
  rintro _ _ ⟨bs, o, rfl, a1, a2, a3, rfl⟩
  exact q bs _ a1 a2 ⟨o, get_set h1, a3⟩ fx_set
end
local macro_rules | `(tactic| walk_at "call1") => `(tactic| first
  | (with_reducible refine' c_is_integer ?_) | (with_reducible refine' c_is_within ?_) | (with_reducible refine' c_is_below ?_) | (with_reducible refine' c_marked ?_) | (with_reducible refine' c_mark_of ?_) | (with_reducible refine' c__law_is ?_))
/-! ### each def keeps its promise -/
theorem k_is_integer : Sat Phi Gam ir_is_integer tc_is_integer.N ["thing"] s_is_integer := by
  refine sat_specF (fun _ => rfl) fun i vh R _ q => ?_
  show wpB Phi Gam ir_is_integer _ _ [.val (.int i)] vh
  unfold ir_is_integer
  walk_at "r"
  exact q
theorem k_is_within : Sat Phi Gam ir_is_within tc_is_within.N ["thing", "least", "most"] s_is_within := by
  refine sat_specF (fun _ => rfl) ?_
  rintro ⟨t, l, m⟩ vh R _ q
  show wpB Phi Gam ir_is_within _ _ [.val (.int t), .val (.int l), .val (.int m)] vh
  unfold ir_is_within
  walk_at "r"
  refine p_dec (fun h1 => ?_) (fun h1 => ?_)
  · walk_at "r"
    simpa [h1] using q
  · simpa [h1] using q
theorem k_is_below : Sat Phi Gam ir_is_below tc_is_below.N ["thing", "many"] s_is_below := by
  refine sat_specF (fun _ => rfl) ?_
  rintro ⟨t, m⟩ vh R _ q
  show wpB Phi Gam ir_is_below _ _ [.val (.int t), .val (.int m)] vh
  unfold ir_is_below
  walk_at "r"
  have e : decide (0 ≤ t ∧ t ≤ m - 1) = decide (0 ≤ t ∧ t < m) := by
    apply decide_eq_decide.mpr
    omega
  (rw [e]; try rfl)
  exact q
theorem k_is_row : Sat Phi Gam ir_is_row tc_is_row.N ["thing"] s_is_row := by
  refine sat_specF (fun _ => rfl) ?_
  rintro bs vh R ⟨hb, hl⟩ q
  show wpB Phi Gam ir_is_row _ _ [.val (tupI bs), .no, .no] vh
  unfold ir_is_row
  walk_at "r"
  refine p_dec (fun h1 => ?_) (fun h1 => ?_)
  · walk_at "r"
    refine lc_map (fun _ => .bl true) _ _ _ (fun d hd R q => ?_) ?_ ?_
    · obtain ⟨b, hbm, rfl⟩ := List.mem_map.mp hd
      walk_at "r"
      rw [decide_eq_true (hb b hbm)]
      exact q
    · rw [List.length_map]
      simp
      omega
    · walk_at "r"
      refine f_all (bs := bs.map fun _ => true) (by simp) ?_
      have e : (bs.map fun _ => true).all id = true := by simp
      (rw [e]; try rfl)
      exact q
  · rw [List.length_map] at h1
    omega
theorem k_check_row : Sat Phi Gam ir_check_row tc_check_row.N ["thing"] s_check_row := by
  refine sat_specF (fun _ => rfl) ?_
  rintro bs vh R h q
  show wpB Phi Gam ir_check_row _ _ [.val (tupI bs)] vh
  unfold ir_check_row
  walk_at "r"
  refine c_is_row h ?_
  walk_at "r"
  exact q
theorem k_marked : Sat Phi Gam ir_marked tc_marked.N ["mark", "row"] s_marked := by
  refine sat_specF (fun _ => rfl) ?_
  rintro ⟨m, bs⟩ vh R _ q
  show wpB Phi Gam ir_marked _ _ [.val (.int m), .val (tupI bs), .no, .no] vh
  unfold ir_marked
  walk_at "r"
  refine for_rule (fun rest e h => h = vh ∧ ∃ (f : Int) (sl : Slot) (cs : List Int), rest = cs.map D.int ∧ mk f cs = mk m bs ∧ e = [.val (.int m), .val (tupI bs), .val (.int f), sl]) ?_ ?_ _ _ _ ⟨rfl, m, .no, bs, rfl, rfl, rfl⟩
  · rintro _ _ ⟨rfl, f, sl, cs, hc, hm, rfl⟩
    cases cs with
    | cons c cs => cases hc
    | nil =>
      walk_at "r"
      rw [show f = mk m bs from hm]
      exact q
  · rintro d ds _ _ ⟨rfl, f, sl, cs, hc, hm, rfl⟩ ih
    cases cs with
    | nil => cases hc
    | cons c cs =>
      cases hc
      walk_at "r"
      exact ih _ _ ⟨rfl, _, _, cs, rfl, hm, rfl⟩
theorem k_mark_of : Sat Phi Gam ir_mark_of tc_mark_of.N ["row"] s_mark_of := by
  refine sat_specF (fun _ => rfl) ?_
  rintro bs vh R _ q
  show wpB Phi Gam ir_mark_of _ _ [.val (tupI bs)] vh
  unfold ir_mark_of
  walk_at "r"
  exact q
theorem k_mark : Sat Phi Gam ir_mark tc_mark.N ["row"] s_mark := by
  refine sat_specF (fun _ => rfl) ?_
  rintro bs vh R h q
  show wpB Phi Gam ir_mark _ _ [.val (tupI bs)] vh
  unfold ir_mark
  walk_at "r"
  refine c_check_row h ?_
  walk_at "r"
  exact q
theorem k_mark_behind : Sat Phi Gam ir_mark_behind tc_mark_behind.N ["number", "row"] s_mark_behind := by
  refine sat_specF (fun _ => rfl) ?_
  rintro ⟨m, bs⟩ vh R ⟨hm, h⟩ q
  show wpB Phi Gam ir_mark_behind _ _ [.val (.int m), .val (tupI bs)] vh
  unfold ir_mark_behind
  walk_at "r"
  dsimp only at hm
  rw [decide_eq_true hm]
  walk_at "r"
  refine c_check_row h ?_
  walk_at "r"
  exact q
theorem k_law_hand : Sat Phi Gam ir__law_hand tc__law_hand.N ["script"] s__law_hand := by
  refine sat_spec (fun _ => rfl) ?_
  rintro ns vh R _ q
  show wpB Phi Gam ir__law_hand _ _ [.val (.scr ns), .no, .no] vh
  unfold ir__law_hand
  walk_at "r"
  refine lc_map (fun d => d) _ _ _ (fun d hd R q => ?_) ?_ ?_
  · obtain ⟨b, hbm, rfl⟩ := List.mem_map.mp hd
    walk_at "r"
    exact q
  · rw [List.length_map, cut_take (by omega), List.length_take]
    simp
    omega
  · walk_at "r"
    refine q _ _ ⟨_, rfl, ⟨cutL ns none (some 63), 0, 0, 1 + ((cutL ns none (some 63)).length : Int), 0, ?_, by omega⟩, rfl⟩
    simp
theorem k_law_draw : Sat Phi Gam ir__law_draw tc__law_draw.N ["hand", "many"] s__law_draw := by
  refine sat_spec (fun _ => rfl) ?_
  rintro ⟨n, m⟩ vh R ⟨⟨o, ho, cs, a, b, c, d, rfl, ha⟩, m0, m1⟩ q
  dsimp only at ho m0 m1 q
  show wpB Phi Gam ir__law_draw _ _ [.val (.ref n), .val (.int m), .no, .no, .no] vh
  unfold ir__law_draw
  refine b_cut (fun e h => ∃ (sl : Slot) (cs : List Int) (a b c d : Int), e = [.val (.ref n), .val (.int m), sl, .no, .no] ∧ h[n]? = some (.lst [.lst (cs.map D.int), .int a, .int b, .int c, .int d]) ∧ 0 ≤ a ∧ ∀ o, h.set n o = vh.set n o) ?_ ?_
  · walk_at "r"
    refine p_dec (fun h1 => ?_) (fun h1 => ?_)
    · walk_at "r"
      refine p_dec (fun h1 => ?_) (fun h1 => ?_)
      · obtain ⟨u, hu, _⟩ := atI_int (xs := cs) ha (by rw [List.length_map] at h1; exact h1)
        walk_at "r"
        refine i_lst hu ?_
        walk_at "r"
        intro vh1 g1 g2
        walk_at "r"
        intro vh2 g3 g4
        walk_at "r"
        refine p_dec (fun h1 => ?_) (fun h1 => ?_)
        · walk_at "r"
          intro vh3 g5 g6
          walk_at "r"
          refine hold ⟨_, _, _, _, _, _, rfl, g5, by omega, fun o => by rw [g6, g4, g2]⟩
        · walk_at "r"
          refine hold ⟨_, _, _, _, _, _, rfl, g3, by omega, fun o => by rw [g4, g2]⟩
      · walk_at "r"
        refine hold ⟨_, _, _, _, _, _, rfl, ho, ha, fun _ => rfl⟩
    · walk_at "r"
      refine hold ⟨_, _, _, _, _, _, rfl, ho, ha, fun _ => rfl⟩
  · rintro _ vh1 ⟨sl, cs, a, b, c, d, rfl, ho1, ha, hs⟩
    walk_at "r"
    refine p_dec (fun h1 => ?_) (fun h1 => ?_)
    · walk_at "r"
      intro vh2 g1 g2
      walk_at "r"
      refine' q _ _ ⟨_, _, rfl, Int.emod_nonneg _ (by omega), Int.emod_lt_of_pos _ m0, ?_, set_eq g1 fun o => by rw [g2, hs]⟩
      exact ⟨_, _, _, _, _, rfl, ha⟩
    · walk_at "r"
      intro vh2 g1 g2
      walk_at "r"
      refine' q _ _ ⟨_, _, rfl, Int.emod_nonneg _ (by omega), Int.emod_lt_of_pos _ m0, ?_, set_eq g1 fun o => by rw [g2, hs]⟩
      exact ⟨_, _, _, _, _, rfl, ha⟩
theorem k_law_is : Sat Phi0 Gam ir__law_is tc__law_is.N ["told", "due"] s__law_is := by
  refine sat_specF (fun _ => rfl) ?_
  rintro ⟨a, b⟩ vh R _ q
  show wpB Phi0 Gam ir__law_is _ _ [.val (.int a), .val (.int b), .no, .no, .no] vh
  unfold ir__law_is
  walk_at "r"
  exact q
theorem k_law_byte : Sat Phi Gam ir__law_byte tc__law_byte.N ["hand"] s__law_byte := by
  refine sat_spec (fun _ => rfl) ?_
  rintro n vh R ⟨o, ho, hh⟩ q
  show wpB Phi Gam ir__law_byte _ _ [.val (.ref n)] vh
  unfold ir__law_byte
  walk_at "r"
  refine c__law_draw ⟨o, ho, hh⟩ (by decide) fun u vh1 h2 h3 hh1 hf => ?_
  walk_at "r"
  refine p_dec (fun h1 => ?_) (fun h1 => ?_)
  · walk_at "r"
    refine c__law_draw hh1 (by decide) fun u2 vh2 g2 g3 hh2 hf2 => ?_
    obtain ⟨d, hd, hm⟩ := atI_ok (xs := [D.int 0, .int 1, .int 127, .int 128, .int 129, .int 255]) g2 g3
    walk_at "r"
    refine i_lst hd ?_
    obtain ⟨o2, e1, e2⟩ := hh2
    obtain ⟨z, rfl, z1, z2⟩ : ∃ z : Int, d = .int z ∧ 0 ≤ z ∧ z < 256 := by
      simp only [List.mem_cons, List.not_mem_nil, or_false] at hm
      rcases hm with rfl | rfl | rfl | rfl | rfl | rfl <;> exact ⟨_, rfl, by omega, by omega⟩
    exact q _ _ ⟨z, o2, rfl, z1, z2, e2, vh_eq ho e1 (fx_trans hf hf2)⟩
  · walk_at "r"
    refine c__law_draw hh1 (by decide) fun u2 vh2 g2 g3 hh2 hf2 => ?_
    obtain ⟨o2, e1, e2⟩ := hh2
    exact q _ _ ⟨u2, o2, rfl, g2, g3, e2, vh_eq ho e1 (fx_trans hf hf2)⟩
theorem k_law_bytes : Sat Phi Gam ir__law_bytes tc__law_bytes.N ["hand", "most"] s__law_bytes := by
  refine sat_spec (fun _ => rfl) ?_
  rintro ⟨n, m⟩ vh R ⟨⟨o, ho, hh⟩, h0, h1⟩ q
  show wpB Phi Gam ir__law_bytes _ _ [.val (.ref n), .val (.int m), .no, .no] vh
  unfold ir__law_bytes
  dsimp only at h0 h1
  walk_at "r"
  refine c__law_draw ⟨o, ho, hh⟩ ⟨by omega, by omega⟩ fun u vh1 h2 h3 hh1 hf => ?_
  walk_at "r"
  refine ⟨_, items_r1 h2 (by omega), ?_⟩
  walk_at "r"
  refine lc_rule (fun rest h acc => Hd n h ∧ Fx n vh h ∧ ∃ bs : List Int, acc = bs.map D.int ∧ Byt bs ∧ bs.length + rest.length = u.toNat) ?_ ?_ _ _ _ ⟨hh1, hf, [], rfl, fun _ h => (by cases h), by simp⟩
  · rintro vh3 _ ⟨⟨o3, g1, g2⟩, f3, bs, rfl, hb, hl⟩
    walk_at "r"
    exact q _ _ ⟨bs, o3, rfl, hb, by simp at hl; dsimp only; omega, g2, vh_eq ho g1 f3⟩
  · rintro d2 ds2 vh3 _ ⟨h3', f3, bs, rfl, hb, hl⟩ ih2
    walk_at "r"
    refine c__law_byte h3' fun w vh4 g1 g2 h4 f4 => ?_
    walk_at "r"
    refine ⟨?_, ih2 _ _ ⟨h4, fx_trans f3 f4, bs ++ [w], by simp, byt_app hb (fun x hx => ?_), ?_⟩⟩
    · rw [List.length_map]
      simp at hl
      omega
    · simp at hx
      omega
    · simp at hl ⊢
      omega
/-! the mark from behind -/
abbrev MP : Int := 2305843009213693951
theorem em_add {a b c d : Int} (h1 : a % MP = b % MP) (h2 : c % MP = d % MP) : (a + c) % MP = (b + d) % MP := by rw [Int.add_emod, h1, h2, ← Int.add_emod]
theorem em_mul {a b c d : Int} (h1 : a % MP = b % MP) (h2 : c % MP = d % MP) : (a * c) % MP = (b * d) % MP := by rw [Int.mul_emod, h1, h2, ← Int.mul_emod]
theorem em_mod {a : Int} : (a % MP) % MP = a % MP := Int.emod_emod_of_dvd a (Int.dvd_refl MP)
theorem mk_lin : ∀ (s : List Int) (m : Int), mk m s % MP = (m * 1000003 ^ s.length + mk 0 s) % MP
  | [], m => by simp [mk]
  | x :: s, m => by
    have h1 := mk_lin s ((m * 1000003 + x + 1) % MP)
    have h2 := mk_lin s ((0 * 1000003 + x + 1) % MP)
    have e1 : mk m (x :: s) = mk ((m * 1000003 + x + 1) % MP) s := rfl
    have e2 : mk 0 (x :: s) = mk ((0 * 1000003 + x + 1) % MP) s := rfl
    rw [e1, e2, h1]
    have a1 : ((m * 1000003 + x + 1) % MP * 1000003 ^ s.length + mk 0 s) % MP = ((m * 1000003 + x + 1) * 1000003 ^ s.length + mk 0 s) % MP := em_add (em_mul em_mod rfl) rfl
    have a2 : (m * 1000003 ^ (x :: s).length + mk ((0 * 1000003 + x + 1) % MP) s) % MP = (m * 1000003 ^ (x :: s).length + ((0 * 1000003 + x + 1) * 1000003 ^ s.length + mk 0 s)) % MP := em_add rfl (h2.trans (em_add (em_mul em_mod rfl) rfl))
    rw [a1, a2, List.length_cons]
    congr 1
    rw [Int.pow_succ]
    grind
theorem mk_small : ∀ (s : List Int) (m : Int), 0 ≤ m → m < MP → 0 ≤ mk m s ∧ mk m s < MP
  | [], m, h0, h1 => ⟨h0, h1⟩
  | x :: s, m, h0, h1 => mk_small s _ (Int.emod_nonneg _ (by decide)) (Int.emod_lt_of_pos _ (by decide))
theorem k_law_sum : Sat Phi Gam ir__law_sum tc__law_sum.N ["begin", "row"] s__law_sum := by
  refine sat_specF (fun _ => rfl) ?_
  rintro ⟨m, bs⟩ vh R ⟨hm, hl⟩ q
  dsimp only at hm hl q
  show wpB Phi Gam ir__law_sum _ _ [.val (.int m), .val (tupI bs), .no, .no, .no] vh
  unfold ir__law_sum
  have hlm : (List.map D.int bs).length = bs.length := List.length_map _
  have hP : (2 : Int) ^ (Int.toNat 61) - 1 = 2305843009213693951 := by decide
  walk_at "r"
  refine ⟨_, items_r3 (by omega) (by omega) (by omega) (by omega), ?_⟩
  refine for_rule (fun rest e h => h = vh ∧ ∃ (k : Nat) (t p : Int) (sl : Slot), k ≤ bs.length ∧ rest = ((List.range bs.length).drop k).map (fun (i : Nat) => D.int (((List.map D.int bs).length : Int) - 1 - (i : Int))) ∧ e = [.val (.int m), .val (tupI bs), .val (.int t), .val (.int p), sl] ∧ (0 ≤ p ∧ p < MP) ∧ p % MP = 1000003 ^ k % MP ∧ t % MP = mk 0 (bs.drop (bs.length - k)) % MP) ?_ ?_ _ _ _ ⟨rfl, 0, 0, 1, .no, by omega, ?_, rfl, by decide, rfl, ?_⟩
  · rintro _ _ ⟨rfl, k, t, p, sl, hk, hr, rfl, hp, hp2, ht⟩
    have ek : k = bs.length := by
      have := congrArg List.length hr
      simp at this
      omega
    subst ek
    walk_at "r"
    rw [hP]
    have e : (t + m * p) % 2305843009213693951 = mk m bs := by
      have h1 := mk_lin bs m
      rw [Nat.sub_self, List.drop_zero] at ht
      have h2 : (t + m * p) % MP = (mk 0 bs + m * 1000003 ^ bs.length) % MP := em_add ht (em_mul rfl hp2)
      rw [Int.add_comm (mk 0 bs), ← h1] at h2
      have h3 := mk_small bs m hm.1 hm.2
      rw [Int.emod_eq_of_lt h3.1 h3.2] at h2
      exact h2
    rw [e]
    exact q
  · rintro d ds _ _ ⟨rfl, k, t, p, sl, hk, hr, rfl, ⟨hp0, hp1⟩, hp2, ht⟩ ih
    have hkn : k < bs.length := by
      have := congrArg List.length hr
      simp at this
      omega
    rw [List.drop_eq_getElem_cons (by simpa using hkn), List.map_cons] at hr
    cases hr
    have hidx : bs.length - 1 - k < bs.length := by omega
    have hp3 : p < 2305843009213693951 := hp1
    have hat : atI (List.map D.int bs) (((List.map D.int bs).length : Int) - 1 - ((List.range bs.length)[k]'(by simpa using hkn) : Nat)) = some (D.int (bs[bs.length - 1 - k])) := by
      rw [List.getElem_range]
      unfold atI ixN
      rw [if_pos (by omega), if_pos (by omega)]
      have e : (((List.map D.int bs).length : Int) - 1 - (k : Int)).toNat = bs.length - 1 - k := by omega
      rw [e]
      simp [hidx]
    walk_at "r"
    refine i_tup hat ?_
    walk_at "r"
    · rw [hP]
      refine ih _ _ ⟨rfl, k + 1, _, _, _, hkn, rfl, rfl, ⟨Int.emod_nonneg _ (by decide), Int.emod_lt_of_pos _ (by decide)⟩, ?_, ?_⟩
      · rw [Int.pow_succ]
        exact em_mod.trans (em_mul hp2 rfl)
      · have e : bs.drop (bs.length - (k + 1)) = bs[bs.length - 1 - k] :: bs.drop (bs.length - k) := by
          have e1 : bs.length - (k + 1) = bs.length - 1 - k := by omega
          have e2 : bs.length - k = bs.length - 1 - k + 1 := by omega
          rw [e1, e2]
          exact List.drop_eq_getElem_cons hidx
        rw [e]
        have h1 := mk_lin (bs.drop (bs.length - k)) ((0 * 1000003 + bs[bs.length - 1 - k] + 1) % MP)
        have e2 : mk 0 (bs[bs.length - 1 - k] :: bs.drop (bs.length - k)) = mk ((0 * 1000003 + bs[bs.length - 1 - k] + 1) % MP) (bs.drop (bs.length - k)) := rfl
        have e3 : (bs.drop (bs.length - k)).length = k := by rw [List.length_drop]; omega
        rw [e2, h1, e3, Int.add_comm]
        refine em_add (em_mul ?_ hp2) ht
        rw [em_mod]
        congr 1
        omega
  · have e : (((List.map D.int bs).length : Int) - 1 - -1).toNat = bs.length := by omega
    rw [e, List.drop_zero]
  · rw [Nat.sub_zero, List.drop_length]
    rfl
theorem mk_app (m : Int) (a b : List Int) : mk m (a ++ b) = mk (mk m a) b := List.foldl_append ..
theorem mk_mid {one : List Int} {a b : Int} (h0 : 0 ≤ a) (h1 : a ≤ b) (h2 : b ≤ one.length) : mk (mk 1 (one.take a.toNat)) (cutL one (some a) (some b)) = mk 1 (one.take b.toNat) := by
  rw [← mk_app]
  have e : cutL one (some a) (some b) = (one.drop a.toNat).take (b.toNat - a.toNat) := by
    unfold cutL HT.sIx
    dsimp only
    rw [if_neg (by omega), if_neg (by omega), Nat.min_eq_left (by omega), Nat.min_eq_left (by omega)]
  rw [e]
  have e2 : b.toNat = a.toNat + (b.toNat - a.toNat) := by omega
  conv => rhs; rw [e2, List.take_add]
local macro_rules | `(tactic| walk_at "call1") => `(tactic| first
  | ((with_reducible refine' c_mark ?h1 ?_); (case h1 => exact ⟨by assumption, by omega⟩))
  | ((with_reducible refine' c__law_sum ?h1 ?_); (case h1 => exact ⟨by decide, by omega⟩))
  | ((with_reducible refine' c_mark_behind ?h1 ?_); (case h1 => exact ⟨by assumption, by assumption, by omega⟩)))
theorem k_law : Sat Phi Gam ir_law tc_law.N ["script"] s_law := by
  refine sat_spec (fun _ => rfl) ?_
  rintro ns vh R _ q
  show wpB Phi Gam ir_law _ _ [.val (.scr ns), .no, .no, .no, .no, .no, .no, .no, .no, .no, .no, .no, .no, .no] vh
  unfold ir_law
  walk_at "r"
  refine c__law_hand fun ds hh => ?_
  walk_at "r"
  have h0 : Hd vh.length (vh ++ [.lst ds]) := ⟨_, by simp, hh⟩
  generalize vh ++ [.lst ds] = vh0 at h0
  generalize vh.length = n at h0
  refine c__law_draw h0 (by decide) fun u1 vh1 a0 a1 h1 _ => ?_
  obtain ⟨d, hd, hm⟩ := atI_ok (xs := [D.int 1, .int 1, .int 2, .int 20]) a0 a1
  obtain ⟨t, rfl, t0, t1⟩ : ∃ z : Int, d = .int z ∧ 1 ≤ z ∧ z ≤ 20 := by
    simp only [List.mem_cons, List.not_mem_nil, or_false] at hm
    rcases hm with rfl | rfl | rfl | rfl <;> exact ⟨_, rfl, by omega, by omega⟩
  walk_at "r"
  refine i_lst hd ?_
  walk_at "r"
  refine c__law_draw h1 (by decide) fun u2 vh2 b0 b1 h2 _ => ?_
  walk_at "r"
  refine c__law_draw h2 (by decide) fun u3 vh3 c0 c1 h3 _ => ?_
  obtain ⟨d2, hd2, hm2⟩ := atI_ok (xs := [D.int 0, .int 1, .int (2 ^ (Int.toNat 61) - 2), .int u2]) c0 c1
  have hP : (2 : Int) ^ (Int.toNat 61) - 1 = 2305843009213693951 := by decide
  have hP2 : (2 : Int) ^ (Int.toNat 61) - 2 = 2305843009213693950 := by decide
  obtain ⟨z, rfl, hz⟩ : ∃ z : Int, d2 = .int z ∧ (0 ≤ z ∧ z < 2305843009213693951) := by
    rw [hP] at b1
    simp only [List.mem_cons, List.not_mem_nil, or_false, hP2] at hm2
    rcases hm2 with rfl | rfl | rfl | rfl <;> exact ⟨_, rfl, by omega, by omega⟩
  walk_at "r"
  refine i_lst hd2 ?_
  walk_at "r"
  refine c__law_bytes h3 (by decide) fun bs vh4 hb hl h4 _ => ?_
  have hlm : (List.map D.int bs).length = bs.length := List.length_map _
  walk_at "r"
  have e1 : (List.replicate t.toNat (bs.map D.int)).flatten = ((List.replicate t.toNat bs).flatten).map D.int := by
    rw [List.map_flatten, List.map_replicate]
  rw [e1]
  obtain ⟨one, ho⟩ : ∃ one, one = (List.replicate t.toNat bs).flatten := ⟨_, rfl⟩
  have hb1 : Byt one := fun x hx => by
    rw [ho] at hx
    obtain ⟨l, h4, h5⟩ := List.mem_flatten.mp hx
    rw [List.eq_of_mem_replicate h4] at h5
    exact hb x h5
  have hl1 : one.length ≤ 600 := by
    rw [ho, List.length_flatten, List.map_replicate, List.sum_replicate_nat]
    exact Nat.mul_le_mul (by omega : t.toNat ≤ 20) (by omega : bs.length ≤ 30)
  rw [← ho]
  clear ho e1
  refine c__law_bytes h4 (by decide) fun other vh5 hb2 hl2 h5 _ => ?_
  have hlo : (List.map D.int one).length = one.length := List.length_map _
  have hlp : (List.map D.int other).length = other.length := List.length_map _
  have hlq : (one ++ other).length = one.length + other.length := List.length_append
  have hb3 : Byt (one ++ other) := byt_app hb1 hb2
  walk_at "r"
  refine p_nd rfl ?_
  walk_at "r"
  refine p_nd rfl ?_
  walk_at "r"
  rw [← List.map_append]
  walk_at "r"
  rw [← List.map_append]
  walk_at "r"
  refine p_nd rfl ?_
  walk_at "r"
  refine c_mark (bs := []) ⟨fun _ h => (by cases h), by simp⟩ ?_
  walk_at "r"
  refine p_nd rfl ?_
  have hm1 : 0 ≤ mk 1 one ∧ mk 1 one < 2305843009213693951 := mk_small one 1 (by decide) (by decide)
  walk_at "r"
  rw [← List.map_append]
  walk_at "r"
  refine p_nd (mk_app 1 one other).symm ?_
  walk_at "r"
  refine c__law_sum ⟨hz, by omega⟩ ?_
  walk_at "r"
  refine p_nd rfl ?_
  walk_at "r"
  refine c_mark_behind (bs := []) ⟨hz, fun _ h => (by cases h), by simp⟩ ?_
  walk_at "r"
  refine p_nd rfl ?_
  walk_at "r"
  refine ⟨_, items_r1 (by split <;> omega) (by split <;> omega), ?_⟩
  refine for_rule (fun rest e h => Hd n h ∧ (∀ d, d ∈ rest → ∃ i : Int, d = .int i ∧ 0 ≤ i) ∧ ∃ s7 : Slot, e = [.val (.scr ns), .val (.ref n), .val (.int t), .val (.int z), .val (tupI one), .val (tupI other), .val (.int (mk 1 one)), s7, .no, .no, .no, .no, .no, .no]) ?_ ?_ _ _ _ ⟨h5, fun d hd => ?_, _, rfl⟩
  · rintro _ vh6 ⟨h6, _, s7, rfl⟩
    walk_at "r"
    refine lc_rule (fun rest h acc => Hd n h ∧ ∃ cs : List Int, acc = cs.map D.int ∧ (∀ c, c ∈ cs → 0 ≤ c ∧ c ≤ one.length) ∧ cs.length + rest.length = 3) ?_ ?_ _ _ _ ⟨h6, [], rfl, fun _ h => (by cases h), by simp⟩
    · rintro vh7 _ ⟨h7, cs, rfl, hc, hcl⟩
      walk_at "r"
      refine ⟨cs, rfl, fun ns' hp hw => ?_⟩
      have hl3 : ns'.length = 3 := by rw [hp.length_eq]; simpa using hcl
      obtain ⟨a, b, c, rfl⟩ : ∃ a b c, ns' = [a, b, c] := by
        match ns', hl3 with
        | [a, b, c], _ => exact ⟨a, b, c, rfl⟩
      have ha := hc a (hp.mem_iff.mp (by simp))
      have hbb := hc b (hp.mem_iff.mp (by simp))
      have hcc := hc c (hp.mem_iff.mp (by simp))
      have hab : a ≤ b := (List.pairwise_cons.mp hw).1 b (by simp)
      have hbc : b ≤ c := (List.pairwise_cons.mp (List.pairwise_cons.mp hw).2).1 c (by simp)
      have sm : ∀ l : List Int, 0 ≤ mk 1 l ∧ mk 1 l < 2305843009213693951 := fun l => mk_small l 1 (by decide) (by decide)
      have ct : ∀ lo hi, Byt (cutL one lo hi) ∧ (cutL one lo hi).length ≤ 300000 := fun lo hi => ⟨byt_cut hb1, Nat.le_trans cutL_len (by omega)⟩
      walk_at "r"
      rw [cutL_map]
      refine c_mark (ct _ _) ?_
      rw [cut_take ha.1]
      walk_at "r"
      rw [cutL_map]
      refine c_mark_behind ⟨sm _, ct _ _⟩ ?_
      rw [mk_mid ha.1 hab hbb.2]
      walk_at "r"
      rw [cutL_map]
      refine c_mark_behind ⟨sm _, ct _ _⟩ ?_
      rw [mk_mid hbb.1 hbc hcc.2]
      walk_at "r"
      rw [cutL_map]
      refine c_mark_behind ⟨sm _, ct _ _⟩ ?_
      rw [List.length_map, mk_mid hcc.1 hcc.2 (Int.le_refl _)]
      have e : one.take ((one.length : Nat) : Int).toNat = one := by rw [Int.toNat_natCast, List.take_length]
      rw [e]
      walk_at "r"
      refine p_d rfl ?_
      walk_at "r"
      refine q _ _ ?_
      rw [decide_eq_true rfl]
    · rintro d2 ds2 vh7 _ ⟨h7, cs, rfl, hc, hcl⟩ ih2
      walk_at "r"
      refine c__law_draw h7 (by omega) fun u vh8 g1 g2 h8 _ => ?_
      walk_at "r"
      refine ⟨?_, ih2 _ _ ⟨h8, cs ++ [u], by simp, fun x hx => ?_, ?_⟩⟩
      · rw [List.length_map]
        simp at hcl
        omega
      · rcases List.mem_append.mp hx with hx | hx
        · exact hc x hx
        · simp at hx
          omega
      · simp at hcl ⊢
        omega
  · rintro d ds2 _ vh6 ⟨h6, hd, s7, rfl⟩ ih
    obtain ⟨i, rfl, hi⟩ := hd _ List.mem_cons_self
    walk_at "r"
    rw [cutL_map, cut_take hi]
    have x1 : Byt (one.take i.toNat) := fun b hb => hb1 b (List.mem_of_mem_take hb)
    have x2 : Byt (one.drop i.toNat) := fun b hb => hb1 b (List.mem_of_mem_drop hb)
    have x3 : (one.take i.toNat).length ≤ one.length := by rw [List.length_take]; omega
    have x4 : (one.drop i.toNat).length ≤ one.length := by rw [List.length_drop]; omega
    have x5 : 0 ≤ mk 1 (one.take i.toNat) ∧ mk 1 (one.take i.toNat) < 2305843009213693951 := mk_small _ 1 (by decide) (by decide)
    walk_at "r"
    rw [cutL_map, cut_drop hi]
    walk_at "r"
    refine p_nd (by rw [← mk_app, List.take_append_drop]) ?_
    walk_at "r"
    exact ih _ _ ⟨h6, fun d hdm => hd d (List.mem_cons_of_mem _ hdm), _, rfl⟩
  · obtain ⟨i, _, rfl⟩ := List.mem_map.mp hd
    exact ⟨_, rfl, by omega⟩
theorem law_run (ns : List Int) (_ : ns.length ≤ 63) (_ : ∀ z ∈ ns, Builtin.Int.intBits z ≤ 1048576) : s_law.run [.scr ns] [] fun o _ => o = .ok (.v (.bl true)) := ⟨ns, rfl, trivial, fun x vh' h => by rw [show x = _ from h]⟩
/-! ### what the top has written -/
theorem all_mk {P : Program} {w : World} {K : PySem.W.Frag} {h : Heap} {mg : Str → Option Value} {fa : Addr} (X : K.In h) (G : h.Ns mainGlobals mg) (hfa : mg "law" = some (.ref fa))
    {f0 : Addr} {od0 an0 : Option Addr} {sl0 : Array (Option Value)} {oc0 kV0 dc0 pm0 cd0 ct0 : Value}
    {f1 : Addr} {od1 an1 : Option Addr} {sl1 : Array (Option Value)} {oc1 kV1 dc1 pm1 cd1 ct1 : Value}
    {f2 : Addr} {od2 an2 : Option Addr} {sl2 : Array (Option Value)} {oc2 kV2 dc2 pm2 cd2 ct2 : Value}
    {f3 : Addr} {od3 an3 : Option Addr} {sl3 : Array (Option Value)} {oc3 kV3 dc3 pm3 cd3 ct3 : Value}
    {f4 : Addr} {od4 an4 : Option Addr} {sl4 : Array (Option Value)} {oc4 kV4 dc4 pm4 cd4 ct4 : Value}
    {f5 : Addr} {od5 an5 : Option Addr} {sl5 : Array (Option Value)} {oc5 kV5 dc5 pm5 cd5 ct5 : Value}
    {f6 : Addr} {od6 an6 : Option Addr} {sl6 : Array (Option Value)} {oc6 kV6 dc6 pm6 cd6 ct6 : Value}
    {f7 : Addr} {od7 an7 : Option Addr} {sl7 : Array (Option Value)} {oc7 kV7 dc7 pm7 cd7 ct7 : Value}
    {f8 : Addr} {od8 an8 : Option Addr} {sl8 : Array (Option Value)} {oc8 kV8 dc8 pm8 cd8 ct8 : Value}
    {f9 : Addr} {od9 an9 : Option Addr} {sl9 : Array (Option Value)} {oc9 kV9 dc9 pm9 cd9 ct9 : Value}
    {f10 : Addr} {od10 an10 : Option Addr} {sl10 : Array (Option Value)} {oc10 kV10 dc10 pm10 cd10 ct10 : Value}
    {f11 : Addr} {od11 an11 : Option Addr} {sl11 : Array (Option Value)} {oc11 kV11 dc11 pm11 cd11 ct11 : Value}
    {f12 : Addr} {od12 an12 : Option Addr} {sl12 : Array (Option Value)} {oc12 kV12 dc12 pm12 cd12 ct12 : Value}
    {f13 : Addr} {od13 an13 : Option Addr} {sl13 : Array (Option Value)} {oc13 kV13 dc13 pm13 cd13 ct13 : Value}
    {f14 : Addr} {od14 an14 : Option Addr} {sl14 : Array (Option Value)} {oc14 kV14 dc14 pm14 cd14 ct14 : Value}
    {f15 : Addr} {od15 an15 : Option Addr} {sl15 : Array (Option Value)} {oc15 kV15 dc15 pm15 cd15 ct15 : Value}
    {t_MOST_BYTES : Tok}
    {t_BYTE : Tok}
    {t_MARK_PRIME : Tok}
    {t_MARK_STEP : Tok}
    {t_MARK_BEGIN : Tok}
    (a0 : PySem.W.nsIn K mainGlobals "is_integer" = some (some (.ref f0))) (l0 : K.lookup f0 = some ⟨oc0, od0, .func (PySem.W.fnOf "is_integer" "is_integer" (defArgs st_is_integer) (defBody st_is_integer) (defScope st_is_integer) .none kV0 dc0 pm0 an0 cd0 ct0), sl0⟩) (c0 : PySem.W.codeIn K cd0 "is_integer" = true) (k0 : PySem.W.keepIn K (.ref f0) = true)
    (a1 : PySem.W.nsIn K mainGlobals "is_within" = some (some (.ref f1))) (l1 : K.lookup f1 = some ⟨oc1, od1, .func (PySem.W.fnOf "is_within" "is_within" (defArgs st_is_within) (defBody st_is_within) (defScope st_is_within) .none kV1 dc1 pm1 an1 cd1 ct1), sl1⟩) (c1 : PySem.W.codeIn K cd1 "is_within" = true) (k1 : PySem.W.keepIn K (.ref f1) = true)
    (a2 : PySem.W.nsIn K mainGlobals "is_below" = some (some (.ref f2))) (l2 : K.lookup f2 = some ⟨oc2, od2, .func (PySem.W.fnOf "is_below" "is_below" (defArgs st_is_below) (defBody st_is_below) (defScope st_is_below) .none kV2 dc2 pm2 an2 cd2 ct2), sl2⟩) (c2 : PySem.W.codeIn K cd2 "is_below" = true) (k2 : PySem.W.keepIn K (.ref f2) = true)
    (a3 : PySem.W.nsIn K mainGlobals "is_row" = some (some (.ref f3))) (l3 : K.lookup f3 = some ⟨oc3, od3, .func (PySem.W.fnOf "is_row" "is_row" (defArgs st_is_row) (defBody st_is_row) (defScope st_is_row) .none kV3 dc3 pm3 an3 cd3 ct3), sl3⟩) (c3 : PySem.W.codeIn K cd3 "is_row" = true) (k3 : PySem.W.keepIn K (.ref f3) = true)
    (a4 : PySem.W.nsIn K mainGlobals "check_row" = some (some (.ref f4))) (l4 : K.lookup f4 = some ⟨oc4, od4, .func (PySem.W.fnOf "check_row" "check_row" (defArgs st_check_row) (defBody st_check_row) (defScope st_check_row) .none kV4 dc4 pm4 an4 cd4 ct4), sl4⟩) (c4 : PySem.W.codeIn K cd4 "check_row" = true) (k4 : PySem.W.keepIn K (.ref f4) = true)
    (a5 : PySem.W.nsIn K mainGlobals "marked" = some (some (.ref f5))) (l5 : K.lookup f5 = some ⟨oc5, od5, .func (PySem.W.fnOf "marked" "marked" (defArgs st_marked) (defBody st_marked) (defScope st_marked) .none kV5 dc5 pm5 an5 cd5 ct5), sl5⟩) (c5 : PySem.W.codeIn K cd5 "marked" = true) (k5 : PySem.W.keepIn K (.ref f5) = true)
    (a6 : PySem.W.nsIn K mainGlobals "mark_of" = some (some (.ref f6))) (l6 : K.lookup f6 = some ⟨oc6, od6, .func (PySem.W.fnOf "mark_of" "mark_of" (defArgs st_mark_of) (defBody st_mark_of) (defScope st_mark_of) .none kV6 dc6 pm6 an6 cd6 ct6), sl6⟩) (c6 : PySem.W.codeIn K cd6 "mark_of" = true) (k6 : PySem.W.keepIn K (.ref f6) = true)
    (a7 : PySem.W.nsIn K mainGlobals "mark" = some (some (.ref f7))) (l7 : K.lookup f7 = some ⟨oc7, od7, .func (PySem.W.fnOf "mark" "mark" (defArgs st_mark) (defBody st_mark) (defScope st_mark) .none kV7 dc7 pm7 an7 cd7 ct7), sl7⟩) (c7 : PySem.W.codeIn K cd7 "mark" = true) (k7 : PySem.W.keepIn K (.ref f7) = true)
    (a8 : PySem.W.nsIn K mainGlobals "mark_behind" = some (some (.ref f8))) (l8 : K.lookup f8 = some ⟨oc8, od8, .func (PySem.W.fnOf "mark_behind" "mark_behind" (defArgs st_mark_behind) (defBody st_mark_behind) (defScope st_mark_behind) .none kV8 dc8 pm8 an8 cd8 ct8), sl8⟩) (c8 : PySem.W.codeIn K cd8 "mark_behind" = true) (k8 : PySem.W.keepIn K (.ref f8) = true)
    (a9 : PySem.W.nsIn K mainGlobals "_law_hand" = some (some (.ref f9))) (l9 : K.lookup f9 = some ⟨oc9, od9, .func (PySem.W.fnOf "_law_hand" "_law_hand" (defArgs st__law_hand) (defBody st__law_hand) (defScope st__law_hand) .none kV9 dc9 pm9 an9 cd9 ct9), sl9⟩) (c9 : PySem.W.codeIn K cd9 "_law_hand" = true) (k9 : PySem.W.keepIn K (.ref f9) = true)
    (a10 : PySem.W.nsIn K mainGlobals "_law_draw" = some (some (.ref f10))) (l10 : K.lookup f10 = some ⟨oc10, od10, .func (PySem.W.fnOf "_law_draw" "_law_draw" (defArgs st__law_draw) (defBody st__law_draw) (defScope st__law_draw) .none kV10 dc10 pm10 an10 cd10 ct10), sl10⟩) (c10 : PySem.W.codeIn K cd10 "_law_draw" = true) (k10 : PySem.W.keepIn K (.ref f10) = true)
    (a11 : PySem.W.nsIn K mainGlobals "_law_is" = some (some (.ref f11))) (l11 : K.lookup f11 = some ⟨oc11, od11, .func (PySem.W.fnOf "_law_is" "_law_is" (defArgs st__law_is) (defBody st__law_is) (defScope st__law_is) .none kV11 dc11 pm11 an11 cd11 ct11), sl11⟩) (c11 : PySem.W.codeIn K cd11 "_law_is" = true) (k11 : PySem.W.keepIn K (.ref f11) = true)
    (a12 : PySem.W.nsIn K mainGlobals "_law_byte" = some (some (.ref f12))) (l12 : K.lookup f12 = some ⟨oc12, od12, .func (PySem.W.fnOf "_law_byte" "_law_byte" (defArgs st__law_byte) (defBody st__law_byte) (defScope st__law_byte) .none kV12 dc12 pm12 an12 cd12 ct12), sl12⟩) (c12 : PySem.W.codeIn K cd12 "_law_byte" = true) (k12 : PySem.W.keepIn K (.ref f12) = true)
    (a13 : PySem.W.nsIn K mainGlobals "_law_bytes" = some (some (.ref f13))) (l13 : K.lookup f13 = some ⟨oc13, od13, .func (PySem.W.fnOf "_law_bytes" "_law_bytes" (defArgs st__law_bytes) (defBody st__law_bytes) (defScope st__law_bytes) .none kV13 dc13 pm13 an13 cd13 ct13), sl13⟩) (c13 : PySem.W.codeIn K cd13 "_law_bytes" = true) (k13 : PySem.W.keepIn K (.ref f13) = true)
    (a14 : PySem.W.nsIn K mainGlobals "_law_sum" = some (some (.ref f14))) (l14 : K.lookup f14 = some ⟨oc14, od14, .func (PySem.W.fnOf "_law_sum" "_law_sum" (defArgs st__law_sum) (defBody st__law_sum) (defScope st__law_sum) .none kV14 dc14 pm14 an14 cd14 ct14), sl14⟩) (c14 : PySem.W.codeIn K cd14 "_law_sum" = true) (k14 : PySem.W.keepIn K (.ref f14) = true)
    (a15 : PySem.W.nsIn K mainGlobals "law" = some (some (.ref f15))) (l15 : K.lookup f15 = some ⟨oc15, od15, .func (PySem.W.fnOf "law" "law" (defArgs st_law) (defBody st_law) (defScope st_law) .none kV15 dc15 pm15 an15 cd15 ct15), sl15⟩) (c15 : PySem.W.codeIn K cd15 "law" = true) (k15 : PySem.W.keepIn K (.ref f15) = true)
    (z_len : PySem.W.nsIn K mainGlobals "len" = some none)
    (z_int : PySem.W.nsIn K mainGlobals "int" = some none)
    (z_bool : PySem.W.nsIn K mainGlobals "bool" = some none)
    (z_str : PySem.W.nsIn K mainGlobals "str" = some none)
    (z_tuple : PySem.W.nsIn K mainGlobals "tuple" = some none)
    (z_list : PySem.W.nsIn K mainGlobals "list" = some none)
    (z_abs : PySem.W.nsIn K mainGlobals "abs" = some none)
    (z_min : PySem.W.nsIn K mainGlobals "min" = some none)
    (z_max : PySem.W.nsIn K mainGlobals "max" = some none)
    (z_sum : PySem.W.nsIn K mainGlobals "sum" = some none)
    (z_all : PySem.W.nsIn K mainGlobals "all" = some none)
    (z_any : PySem.W.nsIn K mainGlobals "any" = some none)
    (z_range : PySem.W.nsIn K mainGlobals "range" = some none)
    (z_zip : PySem.W.nsIn K mainGlobals "zip" = some none)
    (z_enumerate : PySem.W.nsIn K mainGlobals "enumerate" = some none)
    (z_reversed : PySem.W.nsIn K mainGlobals "reversed" = some none)
    (z_isinstance : PySem.W.nsIn K mainGlobals "isinstance" = some none)
    (z_dict : PySem.W.nsIn K mainGlobals "dict" = some none)
    (z_sorted : PySem.W.nsIn K mainGlobals "sorted" = some none)
    (z_set : PySem.W.nsIn K mainGlobals "set" = some none)
    (z_repr : PySem.W.nsIn K mainGlobals "repr" = some none)
    (m_MOST_BYTES : PySem.W.nsIn K mainGlobals "MOST_BYTES" = some (some (.int 300000 t_MOST_BYTES)))
    (m_BYTE : PySem.W.nsIn K mainGlobals "BYTE" = some (some (.int 256 t_BYTE)))
    (m_MARK_PRIME : PySem.W.nsIn K mainGlobals "MARK_PRIME" = some (some (.int 2305843009213693951 t_MARK_PRIME)))
    (m_MARK_STEP : PySem.W.nsIn K mainGlobals "MARK_STEP" = some (some (.int 1000003 t_MARK_STEP)))
    (m_MARK_BEGIN : PySem.W.nsIn K mainGlobals "MARK_BEGIN" = some (some (.int 1 t_MARK_BEGIN))) :
    ∃ fd : FuncData, (∀ (s : Shared) (v : Value), BindsTo s fd ⟨[v], []⟩ [("script", v)]) ∧ ∀ base : Heap, K.In base → base.Ns mainGlobals mg → FnOk P w K mg base (L2.CX P w) 7 fa fd ["script"] (spV ⟨K, fun _ => none⟩ s_law) := by
  have e := hfa.symm.trans (PySem.W.mg_of X G a15)
  cases e
  have gd : Gnd K mg ⟨K, fun _ => none⟩ Gam := by
    refine ⟨rfl, fun x d hx => ?_, fun x hx => ?_⟩
    · unfold Gam at hx
      split at hx
      · rename_i hc
        subst hc
        cases hx
        exact ⟨_, .int 300000, PySem.W.mg_of X G m_MOST_BYTES, ⟨t_MOST_BYTES, rfl⟩, fun _ _ _ => rfl, by decide +kernel⟩
      split at hx
      · rename_i hc
        subst hc
        cases hx
        exact ⟨_, .int 256, PySem.W.mg_of X G m_BYTE, ⟨t_BYTE, rfl⟩, fun _ _ _ => rfl, by decide +kernel⟩
      split at hx
      · rename_i hc
        subst hc
        cases hx
        exact ⟨_, .int 2305843009213693951, PySem.W.mg_of X G m_MARK_PRIME, ⟨t_MARK_PRIME, rfl⟩, fun _ _ _ => rfl, by decide +kernel⟩
      split at hx
      · rename_i hc
        subst hc
        cases hx
        exact ⟨_, .int 1000003, PySem.W.mg_of X G m_MARK_STEP, ⟨t_MARK_STEP, rfl⟩, fun _ _ _ => rfl, by decide +kernel⟩
      split at hx
      · rename_i hc
        subst hc
        cases hx
        exact ⟨_, .int 1, PySem.W.mg_of X G m_MARK_BEGIN, ⟨t_MARK_BEGIN, rfl⟩, fun _ _ _ => rfl, by decide +kernel⟩
      cases hx
    · simp only [bltNames, List.mem_cons, List.not_mem_nil, or_false] at hx
      rcases hx with rfl | rfl | rfl | rfl | rfl | rfl | rfl | rfl | rfl | rfl | rfl | rfl | rfl | rfl | rfl | rfl | rfl | rfl | rfl | rfl | rfl
      · exact PySem.W.mg_none_of X G z_len
      · exact PySem.W.mg_none_of X G z_int
      · exact PySem.W.mg_none_of X G z_bool
      · exact PySem.W.mg_none_of X G z_str
      · exact PySem.W.mg_none_of X G z_tuple
      · exact PySem.W.mg_none_of X G z_list
      · exact PySem.W.mg_none_of X G z_abs
      · exact PySem.W.mg_none_of X G z_min
      · exact PySem.W.mg_none_of X G z_max
      · exact PySem.W.mg_none_of X G z_sum
      · exact PySem.W.mg_none_of X G z_all
      · exact PySem.W.mg_none_of X G z_any
      · exact PySem.W.mg_none_of X G z_range
      · exact PySem.W.mg_none_of X G z_zip
      · exact PySem.W.mg_none_of X G z_enumerate
      · exact PySem.W.mg_none_of X G z_reversed
      · exact PySem.W.mg_none_of X G z_isinstance
      · exact PySem.W.mg_none_of X G z_dict
      · exact PySem.W.mg_none_of X G z_sorted
      · exact PySem.W.mg_none_of X G z_set
      · exact PySem.W.mg_none_of X G z_repr
  refine ⟨PySem.W.fnOf "law" "law" (defArgs st_law) (defBody st_law) (defScope st_law) .none kV15 dc15 pm15 an15 cd15 ct15, fun s v => .of_eq rfl, fun base _ _ => ?_⟩
  have F0 := fun_mk (st := st_is_integer) l0 c0 k0
  have h0 : ∀ g, g ∈ tc_is_integer.fs → Df P w K mg base ⟨K, fun _ => none⟩ 0 g (Phi g) := by
    intro g hg
    cases hg
  have D0 : Df P w K mg base ⟨K, fun _ => none⟩ 1 "is_integer" (Phi "is_integer") := df_ok (Φ := Phi) (Γ := Gam) (c := tc_is_integer) (m := 60) (n := 100) F0 (PySem.W.mg_of X G a0) (F0.binds (ps := ["thing"]) fun _ _ _ _ _ _ us hl => match us, hl with | [_], _ => rfl) (by decide +kernel) sc_is_integer tr_is_integer h0 gd k_is_integer
  have F5 := fun_mk (st := st_marked) l5 c5 k5
  have h5 : ∀ g, g ∈ tc_marked.fs → Df P w K mg base ⟨K, fun _ => none⟩ 0 g (Phi g) := by
    intro g hg
    cases hg
  have D5 : Df P w K mg base ⟨K, fun _ => none⟩ 1 "marked" (Phi "marked") := df_ok (Φ := Phi) (Γ := Gam) (c := tc_marked) (m := 60) (n := 100) F5 (PySem.W.mg_of X G a5) (F5.binds (ps := ["mark", "row"]) fun _ _ _ _ _ _ us hl => match us, hl with | [_, _], _ => rfl) (by decide +kernel) sc_marked tr_marked h5 gd k_marked
  have F9 := fun_mk (st := st__law_hand) l9 c9 k9
  have h9 : ∀ g, g ∈ tc__law_hand.fs → Df P w K mg base ⟨K, fun _ => none⟩ 0 g (Phi g) := by
    intro g hg
    cases hg
  have D9 : Df P w K mg base ⟨K, fun _ => none⟩ 1 "_law_hand" (Phi "_law_hand") := df_ok (Φ := Phi) (Γ := Gam) (c := tc__law_hand) (m := 60) (n := 100) F9 (PySem.W.mg_of X G a9) (F9.binds (ps := ["script"]) fun _ _ _ _ _ _ us hl => match us, hl with | [_], _ => rfl) (by decide +kernel) sc__law_hand tr__law_hand h9 gd k_law_hand
  have F10 := fun_mk (st := st__law_draw) l10 c10 k10
  have h10 : ∀ g, g ∈ tc__law_draw.fs → Df P w K mg base ⟨K, fun _ => none⟩ 0 g (Phi g) := by
    intro g hg
    cases hg
  have D10 : Df P w K mg base ⟨K, fun _ => none⟩ 1 "_law_draw" (Phi "_law_draw") := df_ok (Φ := Phi) (Γ := Gam) (c := tc__law_draw) (m := 60) (n := 100) F10 (PySem.W.mg_of X G a10) (F10.binds (ps := ["hand", "many"]) fun _ _ _ _ _ _ us hl => match us, hl with | [_, _], _ => rfl) (by decide +kernel) sc__law_draw tr__law_draw h10 gd k_law_draw
  have F11 := fun_mk (st := st__law_is) l11 c11 k11
  have Z11 : Df P w K mg base ⟨K, fun _ => none⟩ 0 "_law_is" (Phi0 "_law_is") := df_none F11 (PySem.W.mg_of X G a11) (F11.binds (ps := ["told", "due"]) fun _ _ _ _ _ _ us hl => match us, hl with | [_, _], _ => rfl) (by decide +kernel) fun _ _ _ h => h
  have h11 : ∀ g, g ∈ tc__law_is.fs → Df P w K mg base ⟨K, fun _ => none⟩ 0 g (Phi0 g) := by
    intro g hg
    simp only [tc__law_is, List.mem_cons, List.not_mem_nil, or_false] at hg
    subst hg
    exact Z11
  have D11 : Df P w K mg base ⟨K, fun _ => none⟩ 1 "_law_is" (Phi "_law_is") := df_ok (Φ := Phi0) (Γ := Gam) (c := tc__law_is) (m := 60) (n := 100) F11 (PySem.W.mg_of X G a11) (F11.binds (ps := ["told", "due"]) fun _ _ _ _ _ _ us hl => match us, hl with | [_, _], _ => rfl) (by decide +kernel) sc__law_is tr__law_is h11 gd k_law_is
  have F14 := fun_mk (st := st__law_sum) l14 c14 k14
  have h14 : ∀ g, g ∈ tc__law_sum.fs → Df P w K mg base ⟨K, fun _ => none⟩ 0 g (Phi g) := by
    intro g hg
    cases hg
  have D14 : Df P w K mg base ⟨K, fun _ => none⟩ 1 "_law_sum" (Phi "_law_sum") := df_ok (Φ := Phi) (Γ := Gam) (c := tc__law_sum) (m := 60) (n := 100) F14 (PySem.W.mg_of X G a14) (F14.binds (ps := ["begin", "row"]) fun _ _ _ _ _ _ us hl => match us, hl with | [_, _], _ => rfl) (by decide +kernel) sc__law_sum tr__law_sum h14 gd k_law_sum
  have F1 := fun_mk (st := st_is_within) l1 c1 k1
  have h1 : ∀ g, g ∈ tc_is_within.fs → Df P w K mg base ⟨K, fun _ => none⟩ 1 g (Phi g) := by
    intro g hg
    simp only [tc_is_within, List.mem_cons, List.not_mem_nil, or_false] at hg
    subst hg
    exact D0.mono (by decide)
  have D1 : Df P w K mg base ⟨K, fun _ => none⟩ 2 "is_within" (Phi "is_within") := df_ok (Φ := Phi) (Γ := Gam) (c := tc_is_within) (m := 60) (n := 100) F1 (PySem.W.mg_of X G a1) (F1.binds (ps := ["thing", "least", "most"]) fun _ _ _ _ _ _ us hl => match us, hl with | [_, _, _], _ => rfl) (by decide +kernel) sc_is_within tr_is_within h1 gd k_is_within
  have F6 := fun_mk (st := st_mark_of) l6 c6 k6
  have h6 : ∀ g, g ∈ tc_mark_of.fs → Df P w K mg base ⟨K, fun _ => none⟩ 1 g (Phi g) := by
    intro g hg
    simp only [tc_mark_of, List.mem_cons, List.not_mem_nil, or_false] at hg
    subst hg
    exact D5.mono (by decide)
  have D6 : Df P w K mg base ⟨K, fun _ => none⟩ 2 "mark_of" (Phi "mark_of") := df_ok (Φ := Phi) (Γ := Gam) (c := tc_mark_of) (m := 60) (n := 100) F6 (PySem.W.mg_of X G a6) (F6.binds (ps := ["row"]) fun _ _ _ _ _ _ us hl => match us, hl with | [_], _ => rfl) (by decide +kernel) sc_mark_of tr_mark_of h6 gd k_mark_of
  have F12 := fun_mk (st := st__law_byte) l12 c12 k12
  have h12 : ∀ g, g ∈ tc__law_byte.fs → Df P w K mg base ⟨K, fun _ => none⟩ 1 g (Phi g) := by
    intro g hg
    simp only [tc__law_byte, List.mem_cons, List.not_mem_nil, or_false] at hg
    subst hg
    exact D10.mono (by decide)
  have D12 : Df P w K mg base ⟨K, fun _ => none⟩ 2 "_law_byte" (Phi "_law_byte") := df_ok (Φ := Phi) (Γ := Gam) (c := tc__law_byte) (m := 60) (n := 100) F12 (PySem.W.mg_of X G a12) (F12.binds (ps := ["hand"]) fun _ _ _ _ _ _ us hl => match us, hl with | [_], _ => rfl) (by decide +kernel) sc__law_byte tr__law_byte h12 gd k_law_byte
  have F2 := fun_mk (st := st_is_below) l2 c2 k2
  have h2 : ∀ g, g ∈ tc_is_below.fs → Df P w K mg base ⟨K, fun _ => none⟩ 2 g (Phi g) := by
    intro g hg
    simp only [tc_is_below, List.mem_cons, List.not_mem_nil, or_false] at hg
    subst hg
    exact D1.mono (by decide)
  have D2 : Df P w K mg base ⟨K, fun _ => none⟩ 3 "is_below" (Phi "is_below") := df_ok (Φ := Phi) (Γ := Gam) (c := tc_is_below) (m := 60) (n := 100) F2 (PySem.W.mg_of X G a2) (F2.binds (ps := ["thing", "many"]) fun _ _ _ _ _ _ us hl => match us, hl with | [_, _], _ => rfl) (by decide +kernel) sc_is_below tr_is_below h2 gd k_is_below
  have F13 := fun_mk (st := st__law_bytes) l13 c13 k13
  have h13 : ∀ g, g ∈ tc__law_bytes.fs → Df P w K mg base ⟨K, fun _ => none⟩ 2 g (Phi g) := by
    intro g hg
    simp only [tc__law_bytes, List.mem_cons, List.not_mem_nil, or_false] at hg
    rcases hg with rfl | rfl
    · exact D10.mono (by decide)
    · exact D12.mono (by decide)
  have D13 : Df P w K mg base ⟨K, fun _ => none⟩ 3 "_law_bytes" (Phi "_law_bytes") := df_ok (Φ := Phi) (Γ := Gam) (c := tc__law_bytes) (m := 60) (n := 100) F13 (PySem.W.mg_of X G a13) (F13.binds (ps := ["hand", "most"]) fun _ _ _ _ _ _ us hl => match us, hl with | [_, _], _ => rfl) (by decide +kernel) sc__law_bytes tr__law_bytes h13 gd k_law_bytes
  have F3 := fun_mk (st := st_is_row) l3 c3 k3
  have h3 : ∀ g, g ∈ tc_is_row.fs → Df P w K mg base ⟨K, fun _ => none⟩ 3 g (Phi g) := by
    intro g hg
    simp only [tc_is_row, List.mem_cons, List.not_mem_nil, or_false] at hg
    subst hg
    exact D2.mono (by decide)
  have D3 : Df P w K mg base ⟨K, fun _ => none⟩ 4 "is_row" (Phi "is_row") := df_ok (Φ := Phi) (Γ := Gam) (c := tc_is_row) (m := 60) (n := 100) F3 (PySem.W.mg_of X G a3) (F3.binds (ps := ["thing"]) fun _ _ _ _ _ _ us hl => match us, hl with | [_], _ => rfl) (by decide +kernel) sc_is_row tr_is_row h3 gd k_is_row
  have F4 := fun_mk (st := st_check_row) l4 c4 k4
  have h4 : ∀ g, g ∈ tc_check_row.fs → Df P w K mg base ⟨K, fun _ => none⟩ 4 g (Phi g) := by
    intro g hg
    simp only [tc_check_row, List.mem_cons, List.not_mem_nil, or_false] at hg
    subst hg
    exact D3.mono (by decide)
  have D4 : Df P w K mg base ⟨K, fun _ => none⟩ 5 "check_row" (Phi "check_row") := df_ok (Φ := Phi) (Γ := Gam) (c := tc_check_row) (m := 60) (n := 100) F4 (PySem.W.mg_of X G a4) (F4.binds (ps := ["thing"]) fun _ _ _ _ _ _ us hl => match us, hl with | [_], _ => rfl) (by decide +kernel) sc_check_row tr_check_row h4 gd k_check_row
  have F7 := fun_mk (st := st_mark) l7 c7 k7
  have h7 : ∀ g, g ∈ tc_mark.fs → Df P w K mg base ⟨K, fun _ => none⟩ 5 g (Phi g) := by
    intro g hg
    simp only [tc_mark, List.mem_cons, List.not_mem_nil, or_false] at hg
    rcases hg with rfl | rfl
    · exact D4.mono (by decide)
    · exact D6.mono (by decide)
  have D7 : Df P w K mg base ⟨K, fun _ => none⟩ 6 "mark" (Phi "mark") := df_ok (Φ := Phi) (Γ := Gam) (c := tc_mark) (m := 60) (n := 100) F7 (PySem.W.mg_of X G a7) (F7.binds (ps := ["row"]) fun _ _ _ _ _ _ us hl => match us, hl with | [_], _ => rfl) (by decide +kernel) sc_mark tr_mark h7 gd k_mark
  have F8 := fun_mk (st := st_mark_behind) l8 c8 k8
  have h8 : ∀ g, g ∈ tc_mark_behind.fs → Df P w K mg base ⟨K, fun _ => none⟩ 5 g (Phi g) := by
    intro g hg
    simp only [tc_mark_behind, List.mem_cons, List.not_mem_nil, or_false] at hg
    rcases hg with rfl | rfl | rfl
    · exact D2.mono (by decide)
    · exact D4.mono (by decide)
    · exact D5.mono (by decide)
  have D8 : Df P w K mg base ⟨K, fun _ => none⟩ 6 "mark_behind" (Phi "mark_behind") := df_ok (Φ := Phi) (Γ := Gam) (c := tc_mark_behind) (m := 60) (n := 100) F8 (PySem.W.mg_of X G a8) (F8.binds (ps := ["number", "row"]) fun _ _ _ _ _ _ us hl => match us, hl with | [_, _], _ => rfl) (by decide +kernel) sc_mark_behind tr_mark_behind h8 gd k_mark_behind
  have F15 := fun_mk (st := st_law) l15 c15 k15
  have h15 : ∀ g, g ∈ tc_law.fs → Df P w K mg base ⟨K, fun _ => none⟩ 6 g (Phi g) := by
    intro g hg
    simp only [tc_law, List.mem_cons, List.not_mem_nil, or_false] at hg
    rcases hg with rfl | rfl | rfl | rfl | rfl | rfl | rfl
    · exact D9.mono (by decide)
    · exact D10.mono (by decide)
    · exact D13.mono (by decide)
    · exact D14.mono (by decide)
    · exact D11.mono (by decide)
    · exact D7.mono (by decide)
    · exact D8.mono (by decide)
  exact fn_ok (Φ := Phi) (Γ := Gam) (c := tc_law) (m := 60) (n := 100) F15 sc_law tr_law h15 gd k_law
theorem walk {l : PySem.W.OpenLaw} {q : Program} {loose : List Str} {XP : (Str → Option Value) → Heap → Prop} {YP : World → Heap → Prop} {d : DefRec} {K : Params → PySem.W.Frag} (hn : l.most = some 63) (hdf : d.params.defaults = [])
    (hY : ∀ (w : World) (h : Heap), YP w h → (K w.params).In h)
    (F : ∀ (w : World) (mg : Str → Option Value) (fa : Addr) (h : Heap), (K w.params).In h → h.Ns mainGlobals mg → mg d.name = some (.ref fa) →
      ∃ fd : FuncData, (∀ (s : Shared) (u : Value), BindsTo s fd ⟨[u], []⟩ [("script", u)]) ∧ ∀ base : Heap, (K w.params).In base → base.Ns mainGlobals mg → FnOk l.prog w (K w.params) mg base (L2.CX l.prog w) 7 fa fd ["script"] (spV ⟨K w.params, fun _ => none⟩ s_law)) :
    PySem.W.WalkO q loose XP YP l.row.toRowW d [] (fun f vs => PySem.call f vs) :=
  L2.walk_ofB (n := 63) (k := 7) (x := "script") (CX := fun w => L2.CX l.prog w) (sp := fun w => spV ⟨K w.params, fun _ => none⟩ s_law) hn (by decide) hdf ⟨rfl, by decide, by decide⟩ hY F (fun w H a ns hl hb ho hs => law_end ho hs (law_run ns hl hb))
    fun w H s e s' ⟨_, _, _, _, _, _, _, _, _, _, _, _, z⟩ => z
end L_k24
open PySem PySem.W PyProof.Rows in
set_option maxRecDepth 100000 in
set_option maxHeartbeats 0 in
theorem PySem.Challenge.cw_swornworlds_k24_marks_holds : PySem.Challenge.rw_swornworlds_k24_marks.Holds := by
  w_on; o_law; k_head; (case hw => w_witness2)
  k_fill
  refine L_k24.walk (l := PySem.Challenge.rw_swornworlds_k24_marks) rfl rfl (fun w h Y => PySem.W.kIn_of Y) ?F
  case F =>
    intro w mg fa h KX G hmg
    refine' L_k24.all_mk KX G hmg ?a0 ?l0 ?c0 ?k0 ?a1 ?l1 ?c1 ?k1 ?a2 ?l2 ?c2 ?k2 ?a3 ?l3 ?c3 ?k3 ?a4 ?l4 ?c4 ?k4 ?a5 ?l5 ?c5 ?k5 ?a6 ?l6 ?c6 ?k6 ?a7 ?l7 ?c7 ?k7 ?a8 ?l8 ?c8 ?k8 ?a9 ?l9 ?c9 ?k9 ?a10 ?l10 ?c10 ?k10 ?a11 ?l11 ?c11 ?k11 ?a12 ?l12 ?c12 ?k12 ?a13 ?l13 ?c13 ?k13 ?a14 ?l14 ?c14 ?k14 ?a15 ?l15 ?c15 ?k15 ?z_len ?z_int ?z_bool ?z_str ?z_tuple ?z_list ?z_abs ?z_min ?z_max ?z_sum ?z_all ?z_any ?z_range ?z_zip ?z_enumerate ?z_reversed ?z_isinstance ?z_dict ?z_sorted ?z_set ?z_repr ?m_MOST_BYTES ?m_BYTE ?m_MARK_PRIME ?m_MARK_STEP ?m_MARK_BEGIN
    (case a0 => k_is)
    (case l0 => k_is)
    (case c0 => k_is)
    (case k0 => k_is)
    (case a1 => k_is)
    (case l1 => k_is)
    (case c1 => k_is)
    (case k1 => k_is)
    (case a2 => k_is)
    (case l2 => k_is)
    (case c2 => k_is)
    (case k2 => k_is)
    (case a3 => k_is)
    (case l3 => k_is)
    (case c3 => k_is)
    (case k3 => k_is)
    (case a4 => k_is)
    (case l4 => k_is)
    (case c4 => k_is)
    (case k4 => k_is)
    (case a5 => k_is)
    (case l5 => k_is)
    (case c5 => k_is)
    (case k5 => k_is)
    (case a6 => k_is)
    (case l6 => k_is)
    (case c6 => k_is)
    (case k6 => k_is)
    (case a7 => k_is)
    (case l7 => k_is)
    (case c7 => k_is)
    (case k7 => k_is)
    (case a8 => k_is)
    (case l8 => k_is)
    (case c8 => k_is)
    (case k8 => k_is)
    (case a9 => k_is)
    (case l9 => k_is)
    (case c9 => k_is)
    (case k9 => k_is)
    (case a10 => k_is)
    (case l10 => k_is)
    (case c10 => k_is)
    (case k10 => k_is)
    (case a11 => k_is)
    (case l11 => k_is)
    (case c11 => k_is)
    (case k11 => k_is)
    (case a12 => k_is)
    (case l12 => k_is)
    (case c12 => k_is)
    (case k12 => k_is)
    (case a13 => k_is)
    (case l13 => k_is)
    (case c13 => k_is)
    (case k13 => k_is)
    (case a14 => k_is)
    (case l14 => k_is)
    (case c14 => k_is)
    (case k14 => k_is)
    (case a15 => k_is)
    (case l15 => k_is)
    (case c15 => k_is)
    (case k15 => k_is)
    (case z_len => k_is)
    (case z_int => k_is)
    (case z_bool => k_is)
    (case z_str => k_is)
    (case z_tuple => k_is)
    (case z_list => k_is)
    (case z_abs => k_is)
    (case z_min => k_is)
    (case z_max => k_is)
    (case z_sum => k_is)
    (case z_all => k_is)
    (case z_any => k_is)
    (case z_range => k_is)
    (case z_zip => k_is)
    (case z_enumerate => k_is)
    (case z_reversed => k_is)
    (case z_isinstance => k_is)
    (case z_dict => k_is)
    (case z_sorted => k_is)
    (case z_set => k_is)
    (case z_repr => k_is)
    (case m_MOST_BYTES => k_is)
    (case m_BYTE => k_is)
    (case m_MARK_PRIME => k_is)
    (case m_MARK_STEP => k_is)
    (case m_MARK_BEGIN => k_is)
