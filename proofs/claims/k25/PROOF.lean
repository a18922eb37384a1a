import PyProof.Rows.All
import Wide.All
import OpenK.AllK
import Wide.FinOn
import HandS.ForMost
import HandS.ForExc
import HandS.EndBits
import HandS.TupAny
import HandS.Wide
import HandS.Flow
import HandS.Style
import HandS.CallSlots
import HandS.SortInts
import HandS.Zip
import HandS.ExcField
import HandS.TryMany
import HandS.Small
import HandS.ExcInit
import KE.OsGo
import HandS.TupMul
import HandS.IsInst
import PySem.Challenge.RW_swornworlds_k25_whole_changes_of_rows
set_option Elab.async false
set_option linter.all false
set_option maxRecDepth 100000
set_option maxHeartbeats 4000000
set_option autoImplicit false
set_option autoImplicit false
namespace R
open PySem PySem.Spec PyProof.Rows L2

/-! ## R0: data, slots, the virtual heap, and how they stand for the layer's values -/

/-- data: what a value of the program is, without addresses; ref n: the n-th shared object -/
inductive D where
  | non | bl (b : Bool) | int (i : Int) | str (x : Str) | ty (n : String)
  | tup (xs : List D) | lst (xs : List D) | dct (ks : List Key) (xs : List D) | obj (c : Str) (ns : List Str) (xs : List D)
  | ref (n : Nat) | scr (ns : List Int) | adr (a : Addr)

/-- an expression's value: data, or a list that nobody else holds -/
inductive DV where
  | v (d : D) | fr (ds : List D)
@[reducible] def DV.d : DV → D
  | .v d => d
  | .fr ds => .lst ds

/-- a name's slot: nothing, data, or a list that this slot alone holds -/
inductive Slot where
  | no | val (d : D) | own (ds : List D)

/-- a shared object -/
inductive VO where
  | lst (xs : List D) | dct (ks : List Key) (xs : List D) | ins (c : Str) (ns : List Str) (xs : List D)

/-- what of the program the relation wants: the written part, the classes' addresses -/
structure Wd where
  K : PySem.W.Frag
  cl : Str → Option Addr
  fl : Str → List Str

def KL (K : PySem.W.Frag) (a : Addr) (xs : List V) : Prop :=
  ∃ (o : Obj) (its : Array Value) (n : Nat), K.lookup a = some o ∧ o.cls = .type "list" ∧ o.dict = none ∧ o.data = .seq its n ∧ its.size ≤ sizeLine ∧ Vals xs its.toList
def SqV (K : PySem.W.Frag) (Z : Addr → Prop) (H : Hp) (a : Addr) (xs : List V) : Prop := (¬ Z a ∧ Rd H a (.lst xs)) ∨ KL K a xs
theorem SqV.sq {K : PySem.W.Frag} {Z : Addr → Prop} {H : Hp} {a : Addr} {xs : List V} (h : SqV K Z H a xs) : SqL K H a xs := by
  rcases h with ⟨_, h⟩ | h
  · exact .inl h
  · exact .inr h

mutual
def RD (G : Wd) (Z : Addr → Prop) (ρ : List Addr) (H : Hp) : D → V → Prop
  | .non, v => v = .non
  | .bl b, v => v = .bl b
  | .int i, v => v = .int i
  | .str x, v => v = .str x
  | .ty n, v => v = .ty n
  | .tup xs, v => ∃ a vs, v = .ref a ∧ SqT G.K H a vs ∧ RDs G Z ρ H xs vs
  | .lst xs, v => ∃ a vs, v = .ref a ∧ ¬ Z a ∧ H a = some (.lst vs) ∧ RDs G Z ρ H xs vs
  | .dct ks xs, v => ∃ a ws vs, v = .ref a ∧ ¬ Z a ∧ H a = some (.dK ws) ∧ ws.map (·.1) = ks ∧ ws.map (·.2) = vs ∧ RDs G Z ρ H xs vs
  | .obj c ns xs, v => ∃ a C dx ws vs, v = .ref a ∧ ¬ Z a ∧ G.cl c = some C ∧ H a = some (.ins C dx ws) ∧ ws.map (·.1) = ns ∧ ws.map (·.2) = vs ∧ RDs G Z ρ H xs vs
  | .ref n, v => ∃ a, ρ[n]? = some a ∧ v = .ref a
  | .scr ns, v => ∃ a, v = .ref a ∧ SqV G.K Z H a (ns.map V.int)
  | .adr a, v => v = .ref a
def RDs (G : Wd) (Z : Addr → Prop) (ρ : List Addr) (H : Hp) : List D → List V → Prop
  | [], vs => vs = []
  | d :: ds, vs => ∃ v r, vs = v :: r ∧ RD G Z ρ H d v ∧ RDs G Z ρ H ds r
end

/-- how the ground may move under data -/
structure Mv (Z : Addr → Prop) (ρ : List Addr) (H : Hp) (Z' : Addr → Prop) (ρ' : List Addr) (H' : Hp) : Prop where
  pre : ∀ (n : Nat) (a : Addr), ρ[n]? = some a → ρ'[n]? = some a
  keep : ∀ a u, ¬ Z a → H a = some u → ¬ Z' a ∧ H' a = some u
  tup : ∀ a xs, Rd H a (.tup xs) → Rd H' a (.tup xs)

theorem Mv.sqv {K : PySem.W.Frag} {Z Z' : Addr → Prop} {ρ ρ' : List Addr} {H H' : Hp} (m : Mv Z ρ H Z' ρ' H') {a : Addr} {xs : List V} (h : SqV K Z H a xs) : SqV K Z' H' a xs := by
  rcases h with ⟨nz, h | ⟨o, h⟩⟩ | h
  · obtain ⟨n1, h1⟩ := m.keep a _ nz h
    exact .inl ⟨n1, .inl h1⟩
  · obtain ⟨n1, h1⟩ := m.keep a _ nz h
    exact .inl ⟨n1, .inr ⟨o, h1⟩⟩
  · exact .inr h
theorem Mv.sqt {K : PySem.W.Frag} {Z Z' : Addr → Prop} {ρ ρ' : List Addr} {H H' : Hp} (m : Mv Z ρ H Z' ρ' H') {a : Addr} {xs : List V} (h : SqT K H a xs) : SqT K H' a xs := by
  rcases h with h | h
  · exact .inl (m.tup a xs h)
  · exact .inr h

mutual
theorem RD.move {G : Wd} {Z Z' : Addr → Prop} {ρ ρ' : List Addr} {H H' : Hp} (m : Mv Z ρ H Z' ρ' H') : ∀ (d : D) (v : V), RD G Z ρ H d v → RD G Z' ρ' H' d v
  | .non, v, h => h
  | .bl b, v, h => h
  | .int i, v, h => h
  | .str x, v, h => h
  | .ty n, v, h => h
  | .adr _, v, h => h
  | .tup xs, v, h => by
    obtain ⟨a, vs, e, h1, h2⟩ := h
    exact ⟨a, vs, e, m.sqt h1, RDs.move m xs vs h2⟩
  | .lst xs, v, h => by
    obtain ⟨a, vs, e, nz, h1, h2⟩ := h
    obtain ⟨n1, h3⟩ := m.keep a _ nz h1
    exact ⟨a, vs, e, n1, h3, RDs.move m xs vs h2⟩
  | .scr ns, v, h => by
    obtain ⟨a, e, h1⟩ := h
    exact ⟨a, e, m.sqv h1⟩
  | .dct ks xs, v, h => by
    obtain ⟨a, ws, vs, e, nz, h1, e1, e2, h2⟩ := h
    obtain ⟨n1, h3⟩ := m.keep a _ nz h1
    exact ⟨a, ws, vs, e, n1, h3, e1, e2, RDs.move m xs vs h2⟩
  | .obj c ns xs, v, h => by
    obtain ⟨a, C, dx, ws, vs, e, nz, hc, h1, e1, e2, h2⟩ := h
    obtain ⟨n1, h3⟩ := m.keep a _ nz h1
    exact ⟨a, C, dx, ws, vs, e, n1, hc, h3, e1, e2, RDs.move m xs vs h2⟩
  | .ref n, v, h => by
    obtain ⟨a, h1, e⟩ := h
    exact ⟨a, m.pre n a h1, e⟩
theorem RDs.move {G : Wd} {Z Z' : Addr → Prop} {ρ ρ' : List Addr} {H H' : Hp} (m : Mv Z ρ H Z' ρ' H') : ∀ (ds : List D) (vs : List V), RDs G Z ρ H ds vs → RDs G Z' ρ' H' ds vs
  | [], vs, h => h
  | d :: ds, vs, h => by
    obtain ⟨v, r, e, h1, h2⟩ := h
    exact ⟨v, r, e, RD.move m d v h1, RDs.move m ds r h2⟩
end

section
variable {G : Wd} {Z : Addr → Prop} {ρ : List Addr} {H : Hp}
theorem RDs.length : ∀ {ds : List D} {vs : List V}, RDs G Z ρ H ds vs → ds.length = vs.length
  | [], vs, h => by cases (show vs = [] from h); rfl
  | d :: ds, vs, h => by
    obtain ⟨v, r, rfl, _, h2⟩ := h
    rw [List.length_cons, List.length_cons, RDs.length h2]
theorem RDs.get : ∀ {ds : List D} {vs : List V} {i : Nat} {d : D}, RDs G Z ρ H ds vs → ds[i]? = some d → ∃ v, vs[i]? = some v ∧ RD G Z ρ H d v
  | [], _, _, _, _, e => by simp at e
  | d :: ds, vs, 0, x, h, e => by
    obtain ⟨v, r, rfl, h1, _⟩ := h
    simp at e
    subst e
    exact ⟨v, rfl, h1⟩
  | d :: ds, vs, i + 1, x, h, e => by
    obtain ⟨v, r, rfl, _, h2⟩ := h
    obtain ⟨w, h3, h4⟩ := RDs.get (i := i) h2 (by simpa using e)
    exact ⟨w, by simpa using h3, h4⟩
theorem RDs.getV : ∀ {ds : List D} {vs : List V} {i : Nat} {v : V}, RDs G Z ρ H ds vs → vs[i]? = some v → ∃ d, ds[i]? = some d ∧ RD G Z ρ H d v
  | [], vs, i, v, h, e => by cases (show vs = [] from h); simp at e
  | d :: ds, vs, 0, x, h, e => by
    obtain ⟨v, r, rfl, h1, _⟩ := h
    simp at e
    subst e
    exact ⟨d, rfl, h1⟩
  | d :: ds, vs, i + 1, x, h, e => by
    obtain ⟨v, r, rfl, _, h2⟩ := h
    obtain ⟨w, h3, h4⟩ := RDs.getV (i := i) h2 (by simpa using e)
    exact ⟨w, by simpa using h3, h4⟩
theorem RDs.append : ∀ {ds es : List D} {vs ws : List V}, RDs G Z ρ H ds vs → RDs G Z ρ H es ws → RDs G Z ρ H (ds ++ es) (vs ++ ws)
  | [], es, vs, ws, h, h' => by cases (show vs = [] from h); exact h'
  | d :: ds, es, vs, ws, h, h' => by
    obtain ⟨v, r, rfl, h1, h2⟩ := h
    exact ⟨v, r ++ ws, rfl, h1, RDs.append h2 h'⟩
theorem RDs.take : ∀ {ds : List D} {vs : List V} (n : Nat), RDs G Z ρ H ds vs → RDs G Z ρ H (ds.take n) (vs.take n)
  | _, _, 0, _ => rfl
  | [], vs, n + 1, h => by cases (show vs = [] from h); rfl
  | d :: ds, vs, n + 1, h => by
    obtain ⟨v, r, rfl, h1, h2⟩ := h
    exact ⟨v, r.take n, rfl, h1, RDs.take n h2⟩
theorem RDs.drop : ∀ {ds : List D} {vs : List V} (n : Nat), RDs G Z ρ H ds vs → RDs G Z ρ H (ds.drop n) (vs.drop n)
  | _, _, 0, h => h
  | [], vs, n + 1, h => by cases (show vs = [] from h); rfl
  | d :: ds, vs, n + 1, h => by
    obtain ⟨v, r, rfl, h1, h2⟩ := h
    exact RDs.drop n h2
theorem RDs.set : ∀ {ds : List D} {vs : List V} {d : D} {v : V} (n : Nat), RDs G Z ρ H ds vs → RD G Z ρ H d v → RDs G Z ρ H (ds.set n d) (vs.set n v)
  | [], vs, d, v, n, h, _ => by cases (show vs = [] from h); rfl
  | d' :: ds, vs, d, v, 0, h, q => by
    obtain ⟨v', r, rfl, h1, h2⟩ := h
    exact ⟨v, r, rfl, q, h2⟩
  | d' :: ds, vs, d, v, n + 1, h, q => by
    obtain ⟨v', r, rfl, h1, h2⟩ := h
    exact ⟨v', r.set n v, rfl, h1, RDs.set n h2 q⟩
theorem RDs.reverse : ∀ {ds : List D} {vs : List V}, RDs G Z ρ H ds vs → RDs G Z ρ H ds.reverse vs.reverse
  | [], vs, h => by cases (show vs = [] from h); rfl
  | d :: ds, vs, h => by
    obtain ⟨v, r, rfl, h1, h2⟩ := h
    rw [List.reverse_cons, List.reverse_cons]
    exact RDs.append (RDs.reverse h2) ⟨v, [], rfl, h1, rfl⟩
theorem RDs.erase : ∀ {ds : List D} {vs : List V} (n : Nat), RDs G Z ρ H ds vs → RDs G Z ρ H (ds.eraseIdx n) (vs.eraseIdx n)
  | [], vs, n, h => by cases (show vs = [] from h); rfl
  | d :: ds, vs, 0, h => by
    obtain ⟨v, r, rfl, h1, h2⟩ := h
    exact h2
  | d :: ds, vs, n + 1, h => by
    obtain ⟨v, r, rfl, h1, h2⟩ := h
    exact ⟨v, r.eraseIdx n, rfl, h1, RDs.erase n h2⟩
theorem RDs.one {d : D} {v : V} (h : RD G Z ρ H d v) : RDs G Z ρ H [d] [v] := ⟨v, [], rfl, h, rfl⟩
theorem RDs.ints : ∀ ns : List Int, RDs G Z ρ H (ns.map D.int) (ns.map V.int)
  | [] => rfl
  | n :: ns => ⟨.int n, ns.map V.int, rfl, rfl, RDs.ints ns⟩
theorem RDs.ints_of : ∀ {ns : List Int} {vs : List V}, RDs G Z ρ H (ns.map D.int) vs → vs = ns.map V.int
  | [], vs, h => h
  | n :: ns, vs, h => by
    obtain ⟨v, r, rfl, h1, h2⟩ := h
    rw [RDs.ints_of h2, show v = .int n from h1]
    rfl
theorem RDs.bls_of : ∀ {ns : List Bool} {vs : List V}, RDs G Z ρ H (ns.map D.bl) vs → vs = ns.map V.bl
  | [], vs, h => h
  | n :: ns, vs, h => by
    obtain ⟨v, r, rfl, h1, h2⟩ := h
    rw [RDs.bls_of h2, show v = .bl n from h1]
    rfl
end

/-- the slot holds it alone -/
def Own (env : List Slot) (σ : L2.St) (a : Addr) (i : Nat) : Prop := ∃ ds, env[i]? = some (.own ds) ∧ σ[i]? = some (some (.ref a))
/-- what may be written here -/
def MZ (T ρ : List Addr) (env : List Slot) (σ : L2.St) (a : Addr) : Prop := a ∈ T ∨ a ∈ ρ ∨ ∃ i, Own env σ a i
/-- what stays: F the callers' own lists; mu what may be written since H0 -/
structure Base where
  F : Addr → Prop
  mu : Addr → Prop
  H0 : Hp
  r0 : List Addr
def ZZ (F : Addr → Prop) (T ρ : List Addr) (env : List Slot) (σ : L2.St) (a : Addr) : Prop := F a ∨ MZ T ρ env σ a
/-- an object of a kind that is written -/
def Mt : HO → Prop
  | .lst _ => True
  | .dK _ => True
  | .ins _ _ _ => True
  | _ => False
def RO (G : Wd) (Z : Addr → Prop) (ρ : List Addr) (H : Hp) (a : Addr) : VO → Prop
  | .lst xs => ∃ vs, H a = some (.lst vs) ∧ RDs G Z ρ H xs vs
  | .dct ks xs => ∃ ws vs, H a = some (.dK ws) ∧ ws.map (·.1) = ks ∧ ws.map (·.2) = vs ∧ RDs G Z ρ H xs vs
  | .ins c ns xs => ∃ C dx ws vs, G.cl c = some C ∧ H a = some (.ins C dx ws) ∧ ws.map (·.1) = ns ∧ ws.map (·.2) = vs ∧ RDs G Z ρ H xs vs
def RSl (G : Wd) (Z : Addr → Prop) (ρ : List Addr) (H : Hp) (o : Option (Option V)) : Slot → Prop
  | .no => True
  | .val d => ∃ v, o = some (some v) ∧ RD G Z ρ H d v
  | .own ds => ∃ a vs, o = some (some (.ref a)) ∧ H a = some (.lst vs) ∧ RDs G Z ρ H ds vs

structure Rel (G : Wd) (B : Base) (T ρ : List Addr) (env : List Slot) (vh : List VO) (σ : L2.St) (H : Hp) : Prop where
  vl : vh.length = ρ.length
  rn : ρ.Nodup
  tn : T.Nodup
  tr : ∀ a, a ∈ T → a ∉ ρ
  ot : ∀ i a, Own env σ a i → a ∉ T ∧ a ∉ ρ
  oi : ∀ i j a, Own env σ a i → Own env σ a j → i = j
  fm : ∀ a, B.F a → ¬ MZ T ρ env σ a
  tk : ∀ a, ZZ B.F T ρ env σ a → ∃ u, H a = some u ∧ Mt u
  ob : ∀ (n : Nat) (o : VO) (a : Addr), vh[n]? = some o → ρ[n]? = some a → RO G (ZZ B.F T ρ env σ) ρ H a o
  sl : σ.length = env.length
  st : ∀ (i : Nat) (s : Slot), env[i]? = some s → RSl G (ZZ B.F T ρ env σ) ρ H σ[i]? s
  kp : ∀ a u, B.H0 a = some u → ¬ B.mu a → H a = some u
  tp : ∀ a xs, Rd B.H0 a (.tup xs) → Rd H a (.tup xs)
  zn : ∀ a, MZ T ρ env σ a → B.mu a ∨ B.H0 a = none
  pr : ∀ (n : Nat) (a : Addr), B.r0[n]? = some a → ρ[n]? = some a

theorem RO.move {G : Wd} {Z Z' : Addr → Prop} {ρ ρ' : List Addr} {H H' : Hp} (m : Mv Z ρ H Z' ρ' H') {a : Addr} {o : VO} (h : RO G Z ρ H a o) (e : H' a = H a) : RO G Z' ρ' H' a o := by
  cases o with
  | lst xs => obtain ⟨vs, h1, h2⟩ := h; exact ⟨vs, e.trans h1, RDs.move m _ _ h2⟩
  | dct ks xs => obtain ⟨ws, vs, h1, e1, e2, h2⟩ := h; exact ⟨ws, vs, e.trans h1, e1, e2, RDs.move m _ _ h2⟩
  | ins c ns xs => obtain ⟨C, dx, ws, vs, hc, h1, e1, e2, h2⟩ := h; exact ⟨C, dx, ws, vs, hc, e.trans h1, e1, e2, RDs.move m _ _ h2⟩
theorem RO.mt {G : Wd} {Z : Addr → Prop} {ρ : List Addr} {H : Hp} {a : Addr} {o : VO} (h : RO G Z ρ H a o) : ∃ u, H a = some u ∧ Mt u := by
  cases o with
  | lst xs => obtain ⟨vs, h1, h2⟩ := h; exact ⟨_, h1, trivial⟩
  | dct ks xs => obtain ⟨ws, vs, h1, e1, e2, h2⟩ := h; exact ⟨_, h1, trivial⟩
  | ins c ns xs => obtain ⟨C, dx, ws, vs, hc, h1, e1, e2, h2⟩ := h; exact ⟨_, h1, trivial⟩
theorem RSl.move {G : Wd} {Z Z' : Addr → Prop} {ρ ρ' : List Addr} {H H' : Hp} (m : Mv Z ρ H Z' ρ' H') {o : Option (Option V)} {s : Slot} (h : RSl G Z ρ H o s) (e : ∀ a ds, s = .own ds → o = some (some (.ref a)) → H' a = H a) : RSl G Z' ρ' H' o s := by
  cases s with
  | no => trivial
  | val d => obtain ⟨v, h1, h2⟩ := h; exact ⟨v, h1, RD.move m _ _ h2⟩
  | own ds => obtain ⟨a, vs, h1, h2, h3⟩ := h; exact ⟨a, vs, h1, (e a ds rfl h1).trans h2, RDs.move m _ _ h3⟩

theorem mt_tup {H : Hp} {a : Addr} {u : HO} {xs : List V} (h : H a = some u) (m : Mt u) : ¬ Rd H a (.tup xs) := by
  rintro (q | ⟨o, q⟩)
  · rw [h] at q; cases q; exact m
  · rw [h] at q; cases q; exact m
end R

set_option autoImplicit false
namespace R
open PySem PySem.Spec PyProof.Rows L2
/-! ## R1: how the relation goes on -/
section
variable {G : Wd} {B : Base} {T ρ : List Addr} {env : List Slot} {vh : List VO} {σ : L2.St} {H : Hp}

theorem Mv.same {Z : Addr → Prop} {H' : Hp} (s : Same H H') : Mv Z ρ H Z ρ H' :=
  ⟨fun _ _ h => h, fun a u nz h => ⟨nz, s a u h⟩, fun a xs h => by
    rcases h with h | ⟨o, h⟩
    · exact .inl (s _ _ h)
    · exact .inr ⟨o, s _ _ h⟩⟩
theorem Mv.less {Z Z' : Addr → Prop} (h : ∀ a, Z' a → Z a) : Mv Z ρ H Z' ρ H :=
  ⟨fun _ _ h => h, fun a u nz e => ⟨fun z => nz (h a z), e⟩, fun a xs e => e⟩
theorem Mv.fresh {Z Z' : Addr → Prop} {H' : Hp} (s : Same H H') (h : ∀ a, Z' a → Z a ∨ H a = none) : Mv Z ρ H Z' ρ H' :=
  ⟨fun _ _ h => h, fun a u nz e => ⟨fun z => (h a z).elim nz fun q => (by rw [e] at q; cases q), s a u e⟩, (Mv.same (Z := Z) (ρ := ρ) s).tup⟩
theorem Mv.upd {Z : Addr → Prop} {x : Addr} {o u : HO} (hx : Z x) (e : H x = some o) (mo : Mt o) : Mv Z ρ H Z ρ (upd H x u) :=
  ⟨fun _ _ h => h, fun a w nz h => ⟨nz, (upd_ne (fun z => nz (by rw [z]; exact hx))).trans h⟩, fun a xs h => by
    have ne : a ≠ x := fun z => by subst z; exact mt_tup e mo h
    rcases h with h | ⟨o, h⟩
    · exact .inl (by rw [upd_ne ne]; exact h)
    · exact .inr ⟨o, by rw [upd_ne ne]; exact h⟩⟩
theorem same_new {p : Addr} {o : HO} (h : H p = none) : Same H (upd H p o) := fun b x e => by
  rw [upd_ne (ne_of_none e h)]
  exact e

theorem Rel.grow {H' : Hp} (R : Rel G B T ρ env vh σ H) (s : Same H H') : Rel G B T ρ env vh σ H' := by
  have m : Mv (ZZ B.F T ρ env σ) ρ H (ZZ B.F T ρ env σ) ρ H' := Mv.same s
  refine ⟨R.vl, R.rn, R.tn, R.tr, R.ot, R.oi, R.fm, fun a z => ?_, fun n o a h1 h2 => ?_, R.sl, fun i x h => ?_, fun a u h1 h2 => s _ _ (R.kp a u h1 h2), fun a xs h => m.tup a xs (R.tp a xs h), R.zn, R.pr⟩
  · obtain ⟨u, h, q⟩ := R.tk a z
    exact ⟨u, s _ _ h, q⟩
  · have q := R.ob n o a h1 h2
    obtain ⟨u, h, _⟩ := q.mt
    exact q.move m ((s _ _ h).trans h.symm)
  · refine (R.st i x h).move m fun a ds e e2 => ?_
    subst e
    obtain ⟨u, h', _⟩ := R.tk a (.inr (.inr (.inr ⟨i, ds, h, e2⟩)))
    exact (s _ _ h').trans h'.symm
theorem Rel.grown {d : D} {v : V} {H' : Hp} (s : Same H H') (h : RD G (ZZ B.F T ρ env σ) ρ H d v) : RD G (ZZ B.F T ρ env σ) ρ H' d v := RD.move (Mv.same s) _ _ h

/-- a new list (or other object) of ours -/
theorem Rel.tmp {p : Addr} {o : HO} (R : Rel G B T ρ env vh σ H) (hp : H p = none) (mo : Mt o) : Rel G B (p :: T) ρ env vh σ (upd H p o) := by
  have s := same_new (o := o) hp
  have np : ∀ a, ZZ B.F T ρ env σ a → a ≠ p := fun a z e => by
    obtain ⟨u, h, _⟩ := R.tk a z
    rw [e, hp] at h; cases h
  have m : Mv (ZZ B.F T ρ env σ) ρ H (ZZ B.F (p :: T) ρ env σ) ρ (upd H p o) := Mv.fresh s fun a z => by
    rcases z with z | z | z
    · exact .inl (.inl z)
    · rcases List.mem_cons.mp z with e | z
      · exact .inr (by rw [e]; exact hp)
      · exact .inl (.inr (.inl z))
    · exact .inl (.inr (.inr z))
  refine ⟨R.vl, R.rn, List.nodup_cons.mpr ⟨fun z => np p (.inr (.inl z)) rfl, R.tn⟩, fun a z => ?_, fun i a z => ⟨fun q => ?_, (R.ot i a z).2⟩, R.oi, fun a z q => ?_, fun a z => ?_, fun n o a h1 h2 => ?_, R.sl, fun i x h => ?_, fun a u h1 h2 => s _ _ (R.kp a u h1 h2), fun a xs h => m.tup a xs (R.tp a xs h), fun a z => ?_, R.pr⟩
  · rcases List.mem_cons.mp z with e | z
    · intro q; exact np a (.inr (.inr (.inl q))) e
    · exact R.tr a z
  · rcases List.mem_cons.mp q with e | q
    · exact np a (.inr (.inr (.inr ⟨i, z⟩))) e
    · exact (R.ot i a z).1 q
  · rcases q with q | q
    · rcases List.mem_cons.mp q with e | q
      · exact np a (.inl z) e
      · exact R.fm a z (.inl q)
    · exact R.fm a z (.inr q)
  · rcases z with z | z | z
    · obtain ⟨u, h, q⟩ := R.tk a (.inl z)
      exact ⟨u, s _ _ h, q⟩
    · rcases List.mem_cons.mp z with e | z
      · exact ⟨o, by rw [e]; exact upd_same, mo⟩
      · obtain ⟨u, h, q⟩ := R.tk a (.inr (.inl z))
        exact ⟨u, s _ _ h, q⟩
    · obtain ⟨u, h, q⟩ := R.tk a (.inr (.inr z))
      exact ⟨u, s _ _ h, q⟩
  · have q := R.ob n o a h1 h2
    obtain ⟨u, h, _⟩ := q.mt
    exact q.move m ((s _ _ h).trans h.symm)
  · refine (R.st i x h).move m fun a ds e e2 => ?_
    subst e
    obtain ⟨u, h', _⟩ := R.tk a (.inr (.inr (.inr ⟨i, ds, h, e2⟩)))
    exact (s _ _ h').trans h'.symm
  · rcases z with z | z
    · rcases List.mem_cons.mp z with e | z
      · by_cases mu : B.mu a
        · exact .inl mu
        · refine .inr ?_
          cases q : B.H0 a with
          | none => rfl
          | some u =>
            have := R.kp a u q mu
            rw [e, hp] at this; cases this
      · exact R.zn a (.inl z)
    · exact R.zn a (.inr z)

theorem Own.of_set {i j : Nat} {s : Slot} {v : Option V} {a : Addr} (h : Own (env.set i s) (σ.set i v) a j) : (j = i ∧ ∃ ds, s = .own ds ∧ v = some (.ref a)) ∨ (j ≠ i ∧ Own env σ a j) := by
  obtain ⟨ds, h1, h2⟩ := h
  by_cases e : j = i
  · subst e
    refine .inl ⟨rfl, ds, ?_, ?_⟩
    · by_cases hl : j < env.length
      · rw [List.getElem?_set_self hl] at h1; exact Option.some.inj h1
      · rw [List.getElem?_eq_none (by simpa using hl)] at h1; cases h1
    · by_cases hl : j < σ.length
      · rw [List.getElem?_set_self hl] at h2; exact Option.some.inj h2
      · rw [List.getElem?_eq_none (by simpa using hl)] at h2; cases h2
  · rw [List.getElem?_set_ne (Ne.symm e)] at h1 h2
    exact .inr ⟨e, ds, h1, h2⟩
theorem Own.of_setE {i j : Nat} {s : Slot} {a : Addr} (h : Own (env.set i s) σ a j) : (j = i ∧ ∃ ds, s = .own ds ∧ σ[i]? = some (some (.ref a))) ∨ (j ≠ i ∧ Own env σ a j) := by
  obtain ⟨ds, h1, h2⟩ := h
  by_cases e : j = i
  · subst e
    refine .inl ⟨rfl, ds, ?_, h2⟩
    by_cases hl : j < env.length
    · rw [List.getElem?_set_self hl] at h1; exact Option.some.inj h1
    · rw [List.getElem?_eq_none (by simpa using hl)] at h1; cases h1
  · rw [List.getElem?_set_ne (Ne.symm e)] at h1
    exact .inr ⟨e, ds, h1, h2⟩
theorem set_getE {α : Type} {l : List α} {i j : Nat} {s x : α} (h : (l.set i s)[j]? = some x) : (j = i ∧ x = s) ∨ (j ≠ i ∧ l[j]? = some x) := by
  by_cases e : j = i
  · subst e
    by_cases hl : j < l.length
    · rw [List.getElem?_set_self hl] at h; exact .inl ⟨rfl, (Option.some.inj h).symm⟩
    · rw [List.getElem?_eq_none (by simpa using hl)] at h; cases h
  · rw [List.getElem?_set_ne (Ne.symm e)] at h
    exact .inr ⟨e, h⟩

/-- fewer things that may be written: T, slots made less -/
theorem Rel.weak {T' : List Addr} {env' : List Slot} {σ' : L2.St} (R : Rel G B T ρ env vh σ H) (hT : ∀ a, a ∈ T' → a ∈ T) (nT : T'.Nodup) (hO : ∀ i a, Own env' σ' a i → Own env σ a i)
    (hl : σ'.length = env'.length) (hs : ∀ (i : Nat) (s : Slot), env'[i]? = some s → RSl G (ZZ B.F T' ρ env' σ') ρ H σ'[i]? s) : Rel G B T' ρ env' vh σ' H := by
  have less : ∀ a, MZ T' ρ env' σ' a → MZ T ρ env σ a := fun a z => by
    rcases z with z | z | ⟨i, z⟩
    · exact .inl (hT a z)
    · exact .inr (.inl z)
    · exact .inr (.inr ⟨i, hO i a z⟩)
  have lessZ : ∀ a, ZZ B.F T' ρ env' σ' a → ZZ B.F T ρ env σ a := fun a z => z.elim .inl fun z => .inr (less a z)
  have m : Mv (ZZ B.F T ρ env σ) ρ H (ZZ B.F T' ρ env' σ') ρ H := Mv.less lessZ
  exact ⟨R.vl, R.rn, nT, fun a z => R.tr a (hT a z), fun i a z => ⟨fun q => (R.ot i a (hO i a z)).1 (hT a q), (R.ot i a (hO i a z)).2⟩, fun i j a p q => R.oi i j a (hO i a p) (hO j a q),
    fun a f z => R.fm a f (less a z), fun a z => R.tk a (lessZ a z), fun n o a h1 h2 => (R.ob n o a h1 h2).move m rfl, hl, hs, R.kp, R.tp, fun a z => R.zn a (less a z), R.pr⟩

theorem Rel.dropT {a : Addr} (R : Rel G B (a :: T) ρ env vh σ H) : Rel G B T ρ env vh σ H :=
  R.weak (fun b h => List.mem_cons_of_mem _ h) (List.nodup_cons.mp R.tn).2 (fun _ _ h => h) R.sl fun i s h => (R.st i s h).move (Mv.less fun b z => by
    rcases z with z | z | z
    · exact .inl z
    · exact .inr (.inl (List.mem_cons_of_mem _ z))
    · exact .inr (.inr z)) fun _ _ _ _ => rfl
theorem Rel.dropT_d {a : Addr} {d : D} {v : V} (h : RD G (ZZ B.F (a :: T) ρ env σ) ρ H d v) : RD G (ZZ B.F T ρ env σ) ρ H d v := RD.move (Mv.less fun b z => by
    rcases z with z | z | z
    · exact .inl z
    · exact .inr (.inl (List.mem_cons_of_mem _ z))
    · exact .inr (.inr z)) _ _ h
theorem Rel.dropT_ds {a : Addr} {ds : List D} {vs : List V} (h : RDs G (ZZ B.F (a :: T) ρ env σ) ρ H ds vs) : RDs G (ZZ B.F T ρ env σ) ρ H ds vs := RDs.move (Mv.less fun b z => by
    rcases z with z | z | z
    · exact .inl z
    · exact .inr (.inl (List.mem_cons_of_mem _ z))
    · exact .inr (.inr z)) _ _ h
/-- a list of ours is let go: it is data then -/
theorem Rel.let_go {a : Addr} {ds : List D} {vs : List V} (R : Rel G B (a :: T) ρ env vh σ H) (e : H a = some (.lst vs)) (h : RDs G (ZZ B.F (a :: T) ρ env σ) ρ H ds vs) : RD G (ZZ B.F T ρ env σ) ρ H (.lst ds) (.ref a) := by
  refine ⟨a, vs, rfl, ?_, e, Rel.dropT_ds h⟩
  rintro (z | z | z | ⟨i, z⟩)
  · exact R.fm a z (.inl List.mem_cons_self)
  · exact (List.nodup_cons.mp R.tn).1 z
  · exact R.tr a List.mem_cons_self z
  · exact (R.ot i a z).1 List.mem_cons_self

/-- a name is stored -/
theorem Rel.setVal {i : Nat} {d : D} {v : V} (R : Rel G B T ρ env vh σ H) (h : RD G (ZZ B.F T ρ env σ) ρ H d v) : Rel G B T ρ (env.set i (.val d)) vh (σ.set i (some v)) H := by
  have hO : ∀ j a, Own (env.set i (.val d)) (σ.set i (some v)) a j → Own env σ a j := fun j a z => by
    rcases Own.of_set z with ⟨_, ds, e, _⟩ | ⟨_, q⟩
    · cases e
    · exact q
  have m : Mv (ZZ B.F T ρ env σ) ρ H (ZZ B.F T ρ (env.set i (.val d)) (σ.set i (some v))) ρ H := Mv.less fun a z => by
    rcases z with z | z | z | ⟨j, z⟩
    · exact .inl z
    · exact .inr (.inl z)
    · exact .inr (.inr (.inl z))
    · exact .inr (.inr (.inr ⟨j, hO j a z⟩))
  refine R.weak (fun _ h => h) R.tn hO (by simpa using R.sl) fun j s hj => ?_
  rcases set_getE hj with ⟨e, e2⟩ | ⟨ne, q⟩
  · subst e e2
    have hl : j < σ.length := by
      have := (List.getElem?_eq_some_iff.mp hj).1
      rw [List.length_set] at this
      rw [R.sl]; exact this
    exact ⟨v, by rw [List.getElem?_set_self hl], RD.move m _ _ h⟩
  · rw [List.getElem?_set_ne (Ne.symm ne)]
    exact (R.st j s q).move m fun _ _ _ _ => rfl
theorem Rel.setOwn {i : Nat} {a : Addr} {ds : List D} {vs : List V} (R : Rel G B (a :: T) ρ env vh σ H) (e : H a = some (.lst vs)) (h : RDs G (ZZ B.F (a :: T) ρ env σ) ρ H ds vs) :
    Rel G B T ρ (env.set i (.own ds)) vh (σ.set i (some (.ref a))) H := by
  have hO : ∀ j b, Own (env.set i (.own ds)) (σ.set i (some (.ref a))) b j → (j = i ∧ b = a) ∨ (j ≠ i ∧ Own env σ b j) := fun j b z => by
    rcases Own.of_set z with ⟨e, _, _, e2⟩ | q
    · cases e2; exact .inl ⟨e, rfl⟩
    · exact .inr q
  have less : ∀ b, MZ T ρ (env.set i (.own ds)) (σ.set i (some (.ref a))) b → MZ (a :: T) ρ env σ b := fun b z => by
    rcases z with z | z | ⟨j, z⟩
    · exact .inl (List.mem_cons_of_mem _ z)
    · exact .inr (.inl z)
    · rcases hO j b z with ⟨_, e⟩ | ⟨_, q⟩
      · exact .inl (by rw [e]; exact List.mem_cons_self)
      · exact .inr (.inr ⟨j, q⟩)
  have lessZ : ∀ b, ZZ B.F T ρ (env.set i (.own ds)) (σ.set i (some (.ref a))) b → ZZ B.F (a :: T) ρ env σ b := fun b z => z.elim .inl fun z => .inr (less b z)
  have m : Mv (ZZ B.F (a :: T) ρ env σ) ρ H (ZZ B.F T ρ (env.set i (.own ds)) (σ.set i (some (.ref a)))) ρ H := Mv.less lessZ
  have aT := (List.nodup_cons.mp R.tn).1
  refine ⟨R.vl, R.rn, (List.nodup_cons.mp R.tn).2, fun b z => R.tr b (List.mem_cons_of_mem _ z), fun j b z => ?_, fun j k b z q => ?_, fun b f z => R.fm b f (less b z), fun b z => R.tk b (lessZ b z),
    fun n o b h1 h2 => (R.ob n o b h1 h2).move m rfl, by simpa using R.sl, fun j s hj => ?_, R.kp, R.tp, fun b z => R.zn b (less b z), R.pr⟩
  · rcases hO j b z with ⟨_, e⟩ | ⟨_, q⟩
    · rw [e]; exact ⟨aT, R.tr a List.mem_cons_self⟩
    · exact ⟨fun z => (R.ot j b q).1 (List.mem_cons_of_mem _ z), (R.ot j b q).2⟩
  · rcases hO j b z with ⟨e1, e2⟩ | ⟨n1, q1⟩
    · rcases hO k b q with ⟨e3, e4⟩ | ⟨n2, q2⟩
      · rw [e1, e3]
      · rw [e2] at q2
        exact absurd List.mem_cons_self (R.ot k a q2).1
    · rcases hO k b q with ⟨e3, e4⟩ | ⟨n2, q2⟩
      · rw [e4] at q1
        exact absurd List.mem_cons_self (R.ot j a q1).1
      · exact R.oi j k b q1 q2
  · rcases set_getE hj with ⟨e1, e2⟩ | ⟨ne, q⟩
    · subst e1 e2
      have hl : j < σ.length := by
        have := (List.getElem?_eq_some_iff.mp hj).1
        rw [List.length_set] at this
        rw [R.sl]; exact this
      exact ⟨a, vs, by rw [List.getElem?_set_self hl], e, RDs.move m _ _ h⟩
    · rw [List.getElem?_set_ne (Ne.symm ne)]
      exact (R.st j s q).move m fun _ _ _ _ => rfl
/-- a slot lets its list go -/
theorem Rel.freeze {i : Nat} {ds : List D} (R : Rel G B T ρ env vh σ H) (hi : env[i]? = some (.own ds)) : Rel G B T ρ (env.set i (.val (.lst ds))) vh σ H := by
  obtain ⟨a, vs, ha, e, h⟩ := R.st i _ hi
  have hO : ∀ j b, Own (env.set i (.val (.lst ds))) σ b j → j ≠ i ∧ Own env σ b j := fun j b z => by
    rcases Own.of_setE z with ⟨_, _, e, _⟩ | q
    · cases e
    · exact q
  have m : Mv (ZZ B.F T ρ env σ) ρ H (ZZ B.F T ρ (env.set i (.val (.lst ds))) σ) ρ H := Mv.less fun b z => by
    rcases z with z | z | z | ⟨j, z⟩
    · exact .inl z
    · exact .inr (.inl z)
    · exact .inr (.inr (.inl z))
    · exact .inr (.inr (.inr ⟨j, (hO j b z).2⟩))
  have own : Own env σ a i := ⟨ds, hi, ha⟩
  refine R.weak (fun _ h => h) R.tn (fun j b z => (hO j b z).2) (by rw [List.length_set]; exact R.sl) fun j s hj => ?_
  rcases set_getE hj with ⟨e1, e2⟩ | ⟨ne, q⟩
  · subst e1 e2
    refine ⟨.ref a, ha, a, vs, rfl, ?_, e, RDs.move m _ _ h⟩
    rintro (z | z | z | ⟨k, z⟩)
    · exact R.fm a z (.inr (.inr ⟨j, own⟩))
    · exact (R.ot j a own).1 z
    · exact (R.ot j a own).2 z
    · obtain ⟨n, q⟩ := hO k a z
      exact n (R.oi k j a q own)
  · exact (R.st j s q).move m fun _ _ _ _ => rfl

/-- an object of ours is written; what else stands, stands -/
theorem Rel.write {x : Addr} {o u : HO} {env' : List Slot} {vh' : List VO} (R : Rel G B T ρ env vh σ H) (hx : MZ T ρ env σ x) (e : H x = some o) (mo : Mt o) (mu : Mt u) (hl : vh'.length = vh.length) (hle : env'.length = env.length)
    (hO : ∀ i a, Own env' σ a i ↔ Own env σ a i)
    (hob : ∀ (n : Nat) (o : VO) (a : Addr), vh'[n]? = some o → ρ[n]? = some a → (a ≠ x → vh[n]? = some o) ∧ (a = x → RO G (ZZ B.F T ρ env σ) ρ (upd H x u) x o))
    (hst : ∀ (i : Nat) (s : Slot), env'[i]? = some s → (env[i]? = some s ∧ ∀ ds, s = .own ds → σ[i]? ≠ some (some (.ref x))) ∨ RSl G (ZZ B.F T ρ env σ) ρ (upd H x u) σ[i]? s) : Rel G B T ρ env' vh' σ (upd H x u) := by
  have hM : ∀ a, MZ T ρ env' σ a ↔ MZ T ρ env σ a := fun a =>
    ⟨fun z => z.imp id (Or.imp id fun ⟨i, z⟩ => ⟨i, (hO i a).mp z⟩), fun z => z.imp id (Or.imp id fun ⟨i, z⟩ => ⟨i, (hO i a).mpr z⟩)⟩
  have hZ : ∀ a, ZZ B.F T ρ env' σ a ↔ ZZ B.F T ρ env σ a := fun a => ⟨fun z => z.imp id (hM a).mp, fun z => z.imp id (hM a).mpr⟩
  have eZ : ZZ B.F T ρ env' σ = ZZ B.F T ρ env σ := funext fun a => propext (hZ a)
  have m : Mv (ZZ B.F T ρ env σ) ρ H (ZZ B.F T ρ env σ) ρ (upd H x u) := Mv.upd (.inr hx) e mo
  refine ⟨hl.trans R.vl, R.rn, R.tn, R.tr, fun i a z => R.ot i a ((hO i a).mp z), fun i j a z q => R.oi i j a ((hO i a).mp z) ((hO j a).mp q), fun a f z => R.fm a f ((hM a).mp z), fun a z => ?_, fun n o a h1 h2 => ?_, R.sl.trans hle.symm, fun i s h => ?_, fun a w h1 h2 => ?_, fun a xs h => m.tup a xs (R.tp a xs h), fun a z => R.zn a ((hM a).mp z), R.pr⟩
  · by_cases ea : a = x
    · exact ⟨u, by rw [ea]; exact upd_same, mu⟩
    · obtain ⟨w, h, q⟩ := R.tk a ((hZ a).mp z)
      exact ⟨w, by rw [upd_ne ea]; exact h, q⟩
  · rw [eZ]
    obtain ⟨q1, q2⟩ := hob n o a h1 h2
    by_cases ea : a = x
    · rw [ea]; exact q2 ea
    · exact (R.ob n o a (q1 ea) h2).move m (upd_ne ea)
  · rw [eZ]
    rcases hst i s h with ⟨q, nx⟩ | q
    · refine (R.st i s q).move m fun a ds es e2 => upd_ne fun z => nx ds es ?_
      rw [e2, z]
    · exact q
  · have n : a ≠ x := fun z => by
      rcases R.zn x hx with q | q
      · rw [z] at h2; exact h2 q
      · rw [z, q] at h1; cases h1
    rw [upd_ne n]
    exact R.kp a w h1 h2
/-- an own list is written -/
theorem Rel.ownUpd {i : Nat} {ds ds' : List D} {a : Addr} {vs vs' : List V} (R : Rel G B T ρ env vh σ H) (hi : env[i]? = some (.own ds)) (ha : σ[i]? = some (some (.ref a))) (e : H a = some (.lst vs)) (h : RDs G (ZZ B.F T ρ env σ) ρ H ds' vs') :
    Rel G B T ρ (env.set i (.own ds')) vh σ (upd H a (.lst vs')) := by
  have own : Own env σ a i := ⟨ds, hi, ha⟩
  have li : i < env.length := (List.getElem?_eq_some_iff.mp hi).1
  have m : Mv (ZZ B.F T ρ env σ) ρ H (ZZ B.F T ρ env σ) ρ (upd H a (.lst vs')) := Mv.upd (.inr (.inr (.inr ⟨i, own⟩))) e trivial
  refine R.write (.inr (.inr ⟨i, own⟩)) e trivial trivial rfl (by simp) (fun j b => ⟨fun z => ?_, fun z => ?_⟩) (fun n o b h1 h2 => ⟨fun _ => h1, fun eb => ?_⟩) fun j s hj => ?_
  · rcases Own.of_setE z with ⟨e1, _, _, e3⟩ | ⟨_, q⟩
    · rw [e1]; exact ⟨ds, hi, e3⟩
    · exact q
  · obtain ⟨es, h1, h2⟩ := z
    by_cases ej : j = i
    · rw [ej] at h2 ⊢
      exact ⟨ds', by rw [List.getElem?_set_self li], h2⟩
    · exact ⟨es, by rw [List.getElem?_set_ne (Ne.symm ej)]; exact h1, h2⟩
  · rw [eb] at h2
    exact absurd (List.mem_of_getElem? h2) (R.ot i a own).2
  · rcases set_getE hj with ⟨e1, e2⟩ | ⟨ne, q⟩
    · subst e1 e2
      exact .inr ⟨a, vs', ha, upd_same, RDs.move m _ _ h⟩
    · exact .inl ⟨q, fun es e1 e2 => ne (R.oi j i a ⟨es, by rw [q, e1], e2⟩ own)⟩
/-- a shared object is written -/
theorem Rel.shUpd {n : Nat} {a : Addr} {o o' : VO} {u : HO} (R : Rel G B T ρ env vh σ H) (hn : vh[n]? = some o) (ha : ρ[n]? = some a) (mu : Mt u) (h : RO G (ZZ B.F T ρ env σ) ρ (upd H a u) a o') :
    Rel G B T ρ env (vh.set n o') σ (upd H a u) := by
  obtain ⟨w, e, mo⟩ := (R.ob n o a hn ha).mt
  have hx : MZ T ρ env σ a := .inr (.inl (List.mem_of_getElem? ha))
  refine R.write hx e mo mu (by simp) rfl (fun _ _ => Iff.rfl) (fun k p b h1 h2 => ⟨fun nb => ?_, fun eb => ?_⟩) fun j s hj => .inl ⟨hj, fun ds e1 e2 => ?_⟩
  · rcases set_getE h1 with ⟨e1, _⟩ | ⟨_, q⟩
    · rw [e1, ha] at h2
      exact absurd (Option.some.inj h2).symm nb
    · exact q
  · have ek : k = n := by
      rw [eb] at h2
      obtain ⟨l1, e1⟩ := List.getElem?_eq_some_iff.mp h2
      obtain ⟨l2, e2⟩ := List.getElem?_eq_some_iff.mp ha
      exact (List.getElem_inj R.rn).mp (e1.trans e2.symm)
    rcases set_getE h1 with ⟨_, e2⟩ | ⟨ne, _⟩
    · rw [e2]; exact h
    · exact absurd ek ne
  · exact (R.ot j a ⟨ds, by rw [hj, e1], e2⟩).2 (List.mem_of_getElem? ha)
/-- what is ours becomes shared -/
theorem Rel.share {a : Addr} {o : VO} (R : Rel G B (a :: T) ρ env vh σ H) (h : RO G (ZZ B.F (a :: T) ρ env σ) ρ H a o) : Rel G B T (ρ ++ [a]) env (vh ++ [o]) σ H := by
  have ar : a ∉ ρ := R.tr a List.mem_cons_self
  have aT := (List.nodup_cons.mp R.tn).1
  have hM : ∀ b, MZ T (ρ ++ [a]) env σ b ↔ MZ (a :: T) ρ env σ b := fun b => by
    unfold MZ
    rw [List.mem_append, List.mem_singleton, List.mem_cons]
    constructor
    · rintro (z | (z | z) | z)
      · exact .inl (.inr z)
      · exact .inr (.inl z)
      · exact .inl (.inl z)
      · exact .inr (.inr z)
    · rintro ((z | z) | z | z)
      · exact .inr (.inl (.inr z))
      · exact .inl z
      · exact .inr (.inl (.inl z))
      · exact .inr (.inr z)
  have eZ : ZZ B.F T (ρ ++ [a]) env σ = ZZ B.F (a :: T) ρ env σ := funext fun b => propext ⟨fun z => z.imp id (hM b).mp, fun z => z.imp id (hM b).mpr⟩
  have pre : ∀ (n : Nat) (b : Addr), ρ[n]? = some b → (ρ ++ [a])[n]? = some b := fun n b e => by
    rw [List.getElem?_append_left (List.getElem?_eq_some_iff.mp e).1]; exact e
  have m : Mv (ZZ B.F (a :: T) ρ env σ) ρ H (ZZ B.F (a :: T) ρ env σ) (ρ ++ [a]) H := ⟨pre, fun b u nz e => ⟨nz, e⟩, fun _ _ e => e⟩
  refine ⟨by rw [List.length_append, List.length_append, R.vl]; rfl, ?_, (List.nodup_cons.mp R.tn).2, fun b z q => ?_, fun i b z => ⟨fun q => (R.ot i b z).1 (List.mem_cons_of_mem _ q), fun q => ?_⟩, R.oi, fun b f z => R.fm b f ((hM b).mp z), fun b z => R.tk b (by rw [← eZ]; exact z),
    fun n p b h1 h2 => ?_, R.sl, fun i s hi => ?_, R.kp, R.tp, fun b z => R.zn b ((hM b).mp z), fun n b e => pre n b (R.pr n b e)⟩
  · refine List.nodup_append.mpr ⟨R.rn, List.nodup_cons.mpr ⟨fun z => (by cases z), List.nodup_nil⟩, fun x hx y hy e => ?_⟩
    rw [List.mem_singleton.mp hy] at e
    rw [e] at hx
    exact ar hx
  · rcases List.mem_append.mp q with q | q
    · exact R.tr b (List.mem_cons_of_mem _ z) q
    · rw [List.mem_singleton.mp q] at z; exact aT z
  · rcases List.mem_append.mp q with q | q
    · exact (R.ot i b z).2 q
    · rw [List.mem_singleton.mp q] at z
      exact (R.ot i a z).1 List.mem_cons_self
  · rw [eZ]
    by_cases hl : n < ρ.length
    · rw [List.getElem?_append_left hl] at h2
      rw [List.getElem?_append_left (by rw [R.vl]; exact hl)] at h1
      exact (R.ob n p b h1 h2).move m rfl
    · rw [List.getElem?_append_right (by omega)] at h2
      rw [List.getElem?_append_right (by rw [R.vl]; omega), R.vl] at h1
      have z : n - ρ.length = 0 := by
        have := (List.getElem?_eq_some_iff.mp h2).1
        rw [List.length_singleton] at this
        omega
      rw [z] at h1 h2
      have e1 : o = p := Option.some.inj h1
      have e2 : a = b := Option.some.inj h2
      rw [← e1, ← e2]
      exact h.move m rfl
  · rw [eZ]
    exact (R.st i s hi).move m fun _ _ _ _ => rfl

/-- the frame is left -/
theorem Rel.ret (R : Rel G B T ρ env vh σ H) : Rel G B T ρ [] vh [] H :=
  R.weak (fun _ h => h) R.tn (fun i a z => by obtain ⟨_, h, _⟩ := z; simp at h) rfl fun i s h => by simp at h
theorem Rel.ret_d {d : D} {v : V} (h : RD G (ZZ B.F T ρ env σ) ρ H d v) : RD G (ZZ B.F T ρ [] []) ρ H d v := RD.move (Mv.less fun b z => by
    rcases z with z | z | z | ⟨i, _, h, _⟩
    · exact .inl z
    · exact .inr (.inl z)
    · exact .inr (.inr (.inl z))
    · simp at h) _ _ h
theorem Rel.ret_ds {ds : List D} {vs : List V} (h : RDs G (ZZ B.F T ρ env σ) ρ H ds vs) : RDs G (ZZ B.F T ρ [] []) ρ H ds vs := RDs.move (Mv.less fun b z => by
    rcases z with z | z | z | ⟨i, _, h, _⟩
    · exact .inl z
    · exact .inr (.inl z)
    · exact .inr (.inr (.inl z))
    · simp at h) _ _ h
/-- a slot gives its list out of hand: it is a list of ours then -/
theorem Rel.take {i : Nat} {ds : List D} (R : Rel G B T ρ env vh σ H) (hi : env[i]? = some (.own ds)) :
    ∃ a vs, σ[i]? = some (some (.ref a)) ∧ H a = some (.lst vs) ∧ Rel G B (a :: T) ρ (env.set i .no) vh σ H ∧ RDs G (ZZ B.F (a :: T) ρ (env.set i .no) σ) ρ H ds vs := by
  obtain ⟨a, vs, ha, e, h⟩ := R.st i _ hi
  have own : Own env σ a i := ⟨ds, hi, ha⟩
  have hO : ∀ j b, Own (env.set i .no) σ b j → j ≠ i ∧ Own env σ b j := fun j b z => by
    rcases Own.of_setE z with ⟨_, _, e, _⟩ | q
    · cases e
    · exact q
  have hM : ∀ b, MZ (a :: T) ρ (env.set i .no) σ b → MZ T ρ env σ b := fun b z => by
    rcases z with z | z | ⟨j, z⟩
    · rcases List.mem_cons.mp z with q | q
      · exact .inr (.inr ⟨i, by rw [q]; exact own⟩)
      · exact .inl q
    · exact .inr (.inl z)
    · exact .inr (.inr ⟨j, (hO j b z).2⟩)
  have hZ : ∀ b, ZZ B.F (a :: T) ρ (env.set i .no) σ b → ZZ B.F T ρ env σ b := fun b z => z.elim .inl fun z => .inr (hM b z)
  have m : Mv (ZZ B.F T ρ env σ) ρ H (ZZ B.F (a :: T) ρ (env.set i .no) σ) ρ H := Mv.less hZ
  refine ⟨a, vs, ha, e, ⟨R.vl, R.rn, List.nodup_cons.mpr ⟨(R.ot i a own).1, R.tn⟩, fun b z => ?_, fun j b z => ⟨fun q => ?_, (R.ot j b (hO j b z).2).2⟩, fun j k b z q => R.oi j k b (hO j b z).2 (hO k b q).2, fun b f z => R.fm b f (hM b z), fun b z => R.tk b (hZ b z),
    fun n o b h1 h2 => (R.ob n o b h1 h2).move m rfl, by rw [List.length_set]; exact R.sl, fun j s hj => ?_, R.kp, R.tp, fun b z => R.zn b (hM b z), R.pr⟩, RDs.move m _ _ h⟩
  · rcases List.mem_cons.mp z with q | q
    · rw [q]; exact (R.ot i a own).2
    · exact R.tr b q
  · obtain ⟨nj, z⟩ := hO j b z
    rcases List.mem_cons.mp q with q | q
    · rw [q] at z; exact nj (R.oi j i a z own)
    · exact (R.ot j b z).1 q
  · rcases set_getE hj with ⟨e1, e2⟩ | ⟨ne, q⟩
    · rw [e2]; trivial
    · exact (R.st j s q).move m fun _ _ _ _ => rfl

/-- what is from here on -/
def Base.now (B : Base) (T ρ : List Addr) (env : List Slot) (σ : L2.St) (H : Hp) : Base := ⟨B.F, MZ T ρ env σ, H, ρ⟩
theorem Rel.rebase (R : Rel G B T ρ env vh σ H) : Rel G (B.now T ρ env σ H) T ρ env vh σ H :=
  ⟨R.vl, R.rn, R.tn, R.tr, R.ot, R.oi, R.fm, R.tk, R.ob, R.sl, R.st, fun _ _ h _ => h, fun _ _ h => h, fun _ z => .inl z, fun _ _ h => h⟩
theorem Rel.unbase {T' ρ' : List Addr} {env' : List Slot} {vh' : List VO} {σ' : L2.St} {H' : Hp} (R : Rel G B T ρ env vh σ H) (S : Rel G (B.now T ρ env σ H) T' ρ' env' vh' σ' H') : Rel G B T' ρ' env' vh' σ' H' :=
  ⟨S.vl, S.rn, S.tn, S.tr, S.ot, S.oi, S.fm, S.tk, S.ob, S.sl, S.st, fun a u h nm => S.kp a u (R.kp a u h nm) fun z => (R.zn a z).elim nm fun q => (by rw [h] at q; cases q), fun a xs h => S.tp a xs (R.tp a xs h), fun a z => (by
    rcases S.zn a z with q | q
    · exact R.zn a q
    · refine (Classical.em (B.mu a)).elim .inl fun nm => .inr ?_
      cases e : B.H0 a with
      | none => rfl
      | some u =>
        have := R.kp a u e nm
        rw [show (B.now T ρ env σ H).H0 a = H a from rfl] at q
        rw [q] at this
        cases this), fun n a h => S.pr n a (R.pr n a h)⟩
theorem Rel.moved {T' ρ' : List Addr} {env' : List Slot} {vh' : List VO} {σ' : L2.St} {H' : Hp} (R : Rel G B T ρ env vh σ H) (S : Rel G (B.now T ρ env σ H) T' ρ' env' vh' σ' H') : Mv (ZZ B.F T ρ env σ) ρ H (ZZ B.F T' ρ' env' σ') ρ' H' :=
  ⟨S.pr, fun a u nz h => ⟨fun z => (by
    rcases z with z | z
    · exact nz (.inl z)
    · rcases S.zn a z with q | q
      · exact nz (.inr q)
      · rw [show (B.now T ρ env σ H).H0 a = H a from rfl] at q
        rw [h] at q
        cases q), S.kp a u h fun z => nz (.inr z)⟩, S.tp⟩

/-- at a call: the callee's ground -/
def Base.callee (B : Base) (T ρ : List Addr) (env : List Slot) (σ : L2.St) (H : Hp) : Base := ⟨fun a => B.F a ∨ a ∈ T ∨ ∃ i, Own env σ a i, fun a => a ∈ ρ, H, ρ⟩
theorem calleeZ : ZZ (B.callee T ρ env σ H).F [] ρ [] [] = ZZ B.F T ρ env σ := funext fun a => propext ⟨fun z => (by
    rcases z with (z | z | z) | z | z | ⟨i, _, h, _⟩
    · exact .inl z
    · exact .inr (.inl z)
    · exact .inr (.inr (.inr z))
    · cases z
    · exact .inr (.inr (.inl z))
    · simp at h), fun z => by
    rcases z with z | z | z | z
    · exact .inl (.inl z)
    · exact .inl (.inr (.inl z))
    · exact .inr (.inr (.inl z))
    · exact .inl (.inr (.inr z))⟩
theorem no_own {a : Addr} {i : Nat} : ¬ Own [] [] a i := fun ⟨_, h, _⟩ => by simp at h
theorem Rel.enter (R : Rel G B T ρ env vh σ H) : Rel G (B.callee T ρ env σ H) [] ρ [] vh [] H := by
  refine ⟨R.vl, R.rn, List.nodup_nil, fun a z => (by cases z), fun i a z => absurd z no_own, fun i j a z => absurd z no_own, fun a f z => ?_, fun a z => R.tk a (by rw [← calleeZ (B := B) (H := H)]; exact z), fun n o a h1 h2 => ?_, rfl, fun i s h => (by simp at h), fun _ _ h _ => h, fun _ _ h => h, fun a z => ?_, fun _ _ h => h⟩
  · have ar : a ∈ ρ := by
      rcases z with z | z | ⟨i, z⟩
      · cases z
      · exact z
      · exact absurd z no_own
    rcases f with f | f | ⟨i, f⟩
    · exact R.fm a f (.inr (.inl ar))
    · exact R.tr a f ar
    · exact (R.ot i a f).2 ar
  · rw [calleeZ]; exact R.ob n o a h1 h2
  · rcases z with z | z | ⟨i, z⟩
    · cases z
    · exact .inl z
    · exact absurd z no_own
/-- behind a call -/
theorem Rel.backMv {T' ρ' : List Addr} {vh' : List VO} {H' : Hp} (R : Rel G B T ρ env vh σ H) (S : Rel G (B.callee T ρ env σ H) T' ρ' [] vh' [] H') : Mv (ZZ B.F T ρ env σ) ρ H (ZZ B.F (T' ++ T) ρ' env σ) ρ' H' := by
  have kp : ∀ a u, H a = some u → a ∉ ρ → H' a = some u := fun a u h n => S.kp a u h n
  refine ⟨S.pr, fun a u nz h => ⟨fun z => ?_, kp a u h fun z => nz (.inr (.inr (.inl z)))⟩, S.tp⟩
  have new : MZ T' ρ' [] [] a → False := fun z => by
    rcases S.zn a z with q | q
    · exact nz (.inr (.inr (.inl q)))
    · rw [show (B.callee T ρ env σ H).H0 a = H a from rfl] at q
      rw [h] at q; cases q
  rcases z with z | z | z | z
  · exact nz (.inl z)
  · rcases List.mem_append.mp z with z | z
    · exact new (.inl z)
    · exact nz (.inr (.inl z))
  · exact new (.inr (.inl z))
  · exact nz (.inr (.inr (.inr z)))
theorem Rel.backZ {T' ρ' : List Addr} {H' : Hp} : ZZ (B.callee T ρ env σ H).F T' ρ' [] [] = ZZ B.F (T' ++ T) ρ' env σ := funext fun a => propext ⟨fun z => (by
    rcases z with (z | z | z) | z | z | ⟨i, z⟩
    · exact .inl z
    · exact .inr (.inl (List.mem_append_right _ z))
    · exact .inr (.inr (.inr z))
    · exact .inr (.inl (List.mem_append_left _ z))
    · exact .inr (.inr (.inl z))
    · exact absurd z no_own), fun z => by
    rcases z with z | z | z | z
    · exact .inl (.inl z)
    · rcases List.mem_append.mp z with z | z
      · exact .inr (.inl z)
      · exact .inl (.inr (.inl z))
    · exact .inr (.inr (.inl z))
    · exact .inl (.inr (.inr z))⟩
theorem Rel.back {T' ρ' : List Addr} {vh' : List VO} {H' : Hp} (R : Rel G B T ρ env vh σ H) (S : Rel G (B.callee T ρ env σ H) T' ρ' [] vh' [] H') : Rel G B (T' ++ T) ρ' env vh' σ H' := by
  have m := R.backMv S
  have kp : ∀ a u, H a = some u → a ∉ ρ → H' a = some u := fun a u h n => S.kp a u h n
  have cut : ∀ a, MZ (T' ++ T) ρ' env σ a → MZ T' ρ' [] [] a ∨ a ∈ T ∨ ∃ i, Own env σ a i := fun a z => by
    rcases z with z | z | z
    · rcases List.mem_append.mp z with z | z
      · exact .inl (.inl z)
      · exact .inr (.inl z)
    · exact .inl (.inr (.inl z))
    · exact .inr (.inr z)
  refine ⟨S.vl, S.rn, ?_, fun a z q => ?_, fun i a z => ⟨fun q => ?_, fun q => ?_⟩, R.oi, fun a f z => ?_, fun a z => S.tk a (by rw [Rel.backZ (H' := H')]; exact z), fun n o a h1 h2 => ?_, R.sl, fun i s hi => ?_, fun a u h nm => ?_, fun a xs h => S.tp a xs (R.tp a xs h), fun a z => ?_, fun n a h => S.pr n a (R.pr n a h)⟩
  · refine List.nodup_append.mpr ⟨S.tn, R.tn, fun x hx y hy e => ?_⟩
    rw [← e] at hy
    exact S.fm x (.inr (.inl hy)) (.inl hx)
  · rcases List.mem_append.mp z with z | z
    · exact S.tr a z q
    · exact S.fm a (.inr (.inl z)) (.inr (.inl q))
  · rcases List.mem_append.mp q with q | q
    · exact S.fm a (.inr (.inr ⟨i, z⟩)) (.inl q)
    · exact (R.ot i a z).1 q
  · exact S.fm a (.inr (.inr ⟨i, z⟩)) (.inr (.inl q))
  · rcases cut a z with z | z | z
    · exact S.fm a (.inl f) z
    · exact R.fm a f (.inl z)
    · exact R.fm a f (.inr (.inr z))
  · rw [← Rel.backZ (B := B) (H := H) (H' := H')]
    exact S.ob n o a h1 h2
  · refine (R.st i s hi).move m fun a ds e1 e2 => ?_
    subst e1
    have own : Own env σ a i := ⟨ds, hi, e2⟩
    obtain ⟨u, h, _⟩ := R.tk a (.inr (.inr (.inr ⟨i, own⟩)))
    exact (kp a u h (R.ot i a own).2).trans h.symm
  · have h1 := R.kp a u h nm
    refine kp a u h1 fun z => ?_
    rcases R.zn a (.inr (.inl z)) with q | q
    · exact nm q
    · rw [h] at q; cases q
  · rcases cut a z with z | z | z
    · rcases S.zn a z with q | q
      · exact R.zn a (.inr (.inl q))
      · refine (Classical.em (B.mu a)).elim .inl fun nm => .inr ?_
        cases e : B.H0 a with
        | none => rfl
        | some u =>
          have := R.kp a u e nm
          rw [show (B.callee T ρ env σ H).H0 a = H a from rfl] at q
          rw [q] at this; cases this
    · exact R.zn a (.inl z)
    · exact R.zn a (.inr (.inr z))
end
end R

set_option autoImplicit true
namespace R
open PySem PySem.Spec PySem.W PySem.Calls PyProof.Rows PySem.HandSPX
/-! ### the text of __init__ -/
@[reducible] def iA (fd : Str) (p1 p2 : Pos) : Arguments := { posonlyargs := [], args := [{ arg := "self", annotation := none, pos := p1 }, { arg := fd, annotation := none, pos := p2 }], vararg := none, kwonlyargs := [], kw_defaults := [], kwarg := none, defaults := [] }
@[reducible] def iB (fd : Str) (q1 q2 q3 q4 : Pos) : List Stmt := [.Assign [.Attribute (.Name "self" q1) fd q2] (.Name fd q3) q4]
@[reducible] def iS (fd : Str) : Scope := { kind := .function, names := [(PySem.Str.ofString "self", .local), (fd, .local)], isGenerator := false, isCoroutine := false, more := [] }
/-- what the written part says of Low, at C, and of its __init__, at fI -/
structure Ex1 (K : Frag) (mg : Str → Option Value) (xn fd : Str) (C fI : Addr) : Prop where
  hs : (fd == ("self" : Str)) = false
  hd : (fd == ("__debug__" : Str)) = false
  hx : (xn == ("__debug__" : Str)) = false
  gC : mg xn = some (.ref C)
  cls : ∃ nm q N bs bm sn sub ab col dd k0 k1 k2 k3 k5, K.lookup C = some (excClassObj nm q C N bs bm true sn sub ab col dd k0 k1 k2 k3 k5 "ValueError.__new__") ∧ refsVE bm = true
  sa : findIn K (.ref C) "__setattr__" = some (some (.builtin "object.__setattr__"))
  ga : findIn K (.ref C) "__getattribute__" = some (some (.builtin "BaseException.__getattribute__"))
  gg : findIn K (.ref C) "__getattr__" = some none
  noN : findIn K (.ref C) fd = some none
  iC : findIn K (.ref C) "__init__" = some (some (.ref fI))
  tC : typeIn K (.ref fI) = some (.type "function")
  kC : keepIn K (.ref C) = true
  exC : subIn K (.ref C) (.type "BaseException") = some true
  tyC : typeIn K (.ref C) = some (.type "type")
  hdC : hasDictIn K C = true
  fn : ∃ (qn : Str) (oc : Value) (od : Option Addr) (doc pm : Value) (an : Option Addr) (cdv ct : Value) (osl : Array (Option Value)) (p1 p2 q1 q2 q3 q4 : Pos),
    K.lookup fI = some ⟨oc, od, .func (fnOf "__init__" qn (iA fd p1 p2) (iB fd q1 q2 q3 q4) (iS fd) .none .none doc pm an cdv ct), osl⟩ ∧ codeIn K cdv qn = true ∧ (∀ (s : Shared) (a b : Value), BindsTo s (fnOf "__init__" qn (iA fd p1 p2) (iB fd q1 q2 q3 q4) (iS fd) .none .none doc pm an cdv ct) ⟨[a, b], []⟩ [("self", a), (fd, b)])
theorem iS_self {fd qn : Str} {L a : Addr} {cd : Value} : (envOfC qn (iS fd) L a cd).kindOf "self" = some .local := rfl
theorem iS_fd {fd qn : Str} {L a : Addr} {cd : Value} (h : (fd == ("self" : Str)) = false) : (envOfC qn (iS fd) L a cd).kindOf fd = some .local := by
  show List.lookup fd [(("self" : Str), NameKind.local), (fd, NameKind.local)] = some .local
  rw [List.lookup_cons, h]
  simp
theorem iS_bind {fd qn : Str} {L a : Addr} {cd : Value} (h : (fd == ("self" : Str)) = false) (u v : Value) : bindL (envOfC qn (iS fd) L a cd).kindOf [("self", u), (fd, v)] (fun _ => none) = fun y => if y = fd then some v else if y = ("self" : Str) then some u else none := by
  show (if _ then _ else _) = _
  rw [if_pos (iS_fd h), if_pos iS_self]
theorem one_size (v : Value) : [v].length ≤ sizeLine := by
  rw [sizeLine_eq]
  exact (by decide : 1 ≤ 16777216)
theorem kept_but {K : Frag} {h h' : Heap} {x : Addr} (X : K.In h) (hx : K.lookup x = none) (k : ∀ b o, b ≠ x → h.get? b = some o → h'.get? b = some o) : K.In h' := fun a o e =>
  k a o (fun z => by rw [z, hx] at e; cases e) (X a o e)
theorem ldC {M : Model} {s : Shared} {name : Str} {scope : Scope} {L a : Addr} {cd : Value} {m : Str → Option Value} {x : Str} {pos : Pos} {v : Value} {Q : Value → Shared → Prop} {A : Around} {E : Value → Shared → Prop} (hn : s.heap.Ns L m) (hv : m x = some v) (h : Q v s)
    (hk : scope.kind = .function := by rfl) (hl : (envOfC name scope L a cd).kindOf x = some .local := by rfl) (hd : (x == ("__debug__" : Str)) = false := by decide) :
    wpAny M A (eval (.Name x pos) (envOfC name scope L a cd)) Q E s := wpAny_Name (wpAny_loadName_local hk hl hn hv h) hd
/-- what __init__ leaves of a fresh exception at x -/
structure InitEnd (fd : Str) (h h' : Heap) (x C dx t1 : Addr) (v : Value) : Prop where
  keep : ∀ b o, b ≠ x → h.get? b = some o → h'.get? b = some o
  obj : h'.get? x = some { cls := .ref C, dict := some dx, data := .fields #[.ref t1, .none, .none, .none, .bool false, .none] }
  dbig : h.objs.size ≤ dx
  dne : dx ≠ x
  ns : h'.Ns1 dx (fun y => if y = fd then some v else none)
/-- a made Low -/
structure OwnMade (fd : Str) (h h' : Heap) (e C d : Addr) (v : Value) : Prop where
  keep : ∀ b o, h.get? b = some o → h'.get? b = some o
  new : h.objs.size ≤ e
  obj : ∃ oe vs, h'.get? e = some oe ∧ oe.cls = .ref C ∧ oe.dict = some d ∧ oe.data = .fields vs ∧ vs[1]? = some .none
  dbig : h.objs.size ≤ d
  dne : d ≠ e
  ns : h'.Ns1 d (fun y => if y = fd then some v else none)
section
variable {prog : Program} {w : World} {A : Around} {E : Value → Shared → Prop} {R : Result → Shared → Prop} {s : Shared} {K : Frag} {mg : Str → Option Value} {xn fd : Str} {C fI : Addr}
theorem low_init (T : Ex1 K mg xn fd C fI) {x t0 : Addr} {v : Value} (X : K.In s.heap) (hlim : s.heap.NoLimit) (hx : s.heap.get? x = some (excO C t0)) (hnx : K.lookup x = none) (hroom : A.depth < recursionLimit)
    (hq : ∀ h' tk dx, InitEnd fd s.heap h' x C dx t0 v → R (.ok (.ret .none)) { s with heap := h', toks := tk }) :
    codeAny (model prog w) A (.call (.ref fI) ⟨[.ref x, v], []⟩) R s := by
  obtain ⟨qn, oc, od, doc, pm, an, cdv, ct, osl, p1, p2, q1, q2, q3, q4, ho, hcd, hbd⟩ := T.fn
  obtain ⟨nm, q, N, bs, bm, sn, sub, ab, col, dd, k0, k1, k2, k3, k5, hC, hbm⟩ := T.cls
  have hcl : clsIn K C = some { name := nm, bases := bs, mro := .ref C :: bm, ns := N, qualname := q, hasDict := true, slotNames := sn, subclasses := sub, abstract := ab, collection := col, hasDel := false } := by unfold clsIn; rw [hC] <;> rfl
  refine Att.call_fn (binds := [("self", .ref x), (fd, v)]) X hlim ho hcd hroom (hbd _ _ _) (by
    have e := iS_fd (qn := qn) (L := fI) (a := fI) (cd := cdv) T.hs
    have e : (iS fd).names.lookup fd = some .local := e
    rw [List.all_cons, List.all_cons, List.all_nil, e]
    rfl) (fun s₁ IC => ?_) rfl rfl rfl
  obtain ⟨h₁, tk₁, rfl⟩ := IC.toInCall.same
  have k : ∀ b o, s.heap.get? b = some o → h₁.get? b = some o := IC.toInCall.keep
  have hn := IC.toInCall.ns
  rw [iS_bind T.hs] at hn
  have hxL : s.heap.objs.size ≠ x := Nat.ne_of_gt (Heap.lt_size hx)
  have X₁ : K.In h₁ := X.keeps k
  have hx₁ := k _ _ hx
  -- self.by = by
  show wpAny _ _ (execs _ _) _ _ _
  refine wpAny_execs_cons (plainObj_wpAny_Assign_Attribute ?_)
  refine ldC (v := v) hn (if_pos rfl) (ldC (v := .ref x) hn (by
    have ne : ("self" : Str) ≠ fd := fun z => by
      have q := T.hs
      rw [← z] at q
      simp at q
    rw [if_neg ne, if_pos rfl]) ?_ rfl iS_self (by decide)) rfl (iS_fd T.hs) T.hd
  refine set_plain X₁ (ox := excO C t0) (od := none) ⟨hx₁, rfl, rfl, trivial⟩ T.sa ?_
  refine exc_osa X₁ hx₁ hcl (show refsVE (.ref C :: bm) = true from hbm) rfl T.noN (fun h₃ tk₃ dx k₃ dn dne hx₃ hn₃ => ?_)
  show wpAny _ _ (execs _ _) _ _ _
  have z : s.heap.objs.size < h₁.objs.size := hn.lt
  exact wpAny_execs_nil (hq h₃ tk₃ dx ⟨fun b o hb e => k₃ b o hb (k b o e), hx₃, Nat.le_of_lt (Nat.lt_of_lt_of_le z dn), dne, hn₃⟩)
theorem low_made (T : Ex1 K mg xn fd C fI) {v : Value} (X : K.In s.heap) (hlim : s.heap.NoLimit) (hroom : A.depth + 1 < recursionLimit)
    (hq : ∀ h' tk e d, OwnMade fd s.heap h' e C d v → R (.ok (.ret (.ref e))) { s with heap := h', toks := tk }) :
    codeAny (model prog w) A (.call (.ref C) ⟨[v], []⟩) R s := by
  obtain ⟨nm, q, N, bs, bm, sn, sub, ab, col, dd, k0, k1, k2, k3, k5, hC, hbm⟩ := T.cls
  obtain ⟨hp, g, dr, tk, os⟩ := s
  have k : ∀ b o, hp.get? b = some o → ((hp.push (kdv_tup [v])).push (excO C hp.objs.size)).get? b = some o := fun b o e => Heap.get?_push_of_some _ (Heap.get?_push_of_some _ e)
  have hget : ((hp.push (kdv_tup [v])).push (excO C hp.objs.size)).get? (hp.objs.size + 1) = some (excO C hp.objs.size) := by heap_get
  have hnx : K.lookup (hp.objs.size + 1) = none := by
    cases e : K.lookup (hp.objs.size + 1) with
    | none => rfl
    | some o =>
      have z : hp.get? (hp.objs.size + 1) = some o := X _ _ e
      exact absurd (Nat.lt_of_succ_lt (Heap.lt_size z)) (Nat.lt_irrefl _)
  refine call_own F.excBase_ValueError (fun X => refsVE_contains X bm hbm) (X _ _ hC) (looks_findIn X T.iC) (fun self => bind_fn X self T.tC) (one_size v) ?_
  refine low_init (s := ⟨(hp.push (kdv_tup [v])).push (excO C hp.objs.size), g, dr, tk, os⟩) T (X.keeps k) (hlim.keeps k) hget hnx ?_ fun h' tk' dx ⟨k', hx, dn, dne, hns⟩ => ?_
  · show A.depth + 1 < recursionLimit
    exact hroom
  · have old : ∀ b o, hp.get? b = some o → h'.get? b = some o := fun b o e => k' b o (Nat.ne_of_lt (Nat.lt_succ_of_lt (Heap.lt_size e))) (k b o e)
    have z : hp.objs.size + 1 + 1 ≤ dx := by
      first
        | (simpa only [Heap.size_push] using dn)
        | exact dn
        | (have q := dn; rw [Heap.size_push, Heap.size_push] at q; exact q)
    exact ⟨rfl, hq h' tk' (hp.objs.size + 1) dx ⟨old, Nat.le_succ _, ⟨_, _, hx, rfl, rfl, rfl, rfl⟩, Nat.le_trans (Nat.le_trans (Nat.le_succ _) (Nat.le_succ _)) z, dne, hns⟩⟩
end
end R
namespace R
open PySem PySem.Spec PyProof.Rows L2
theorem relO_low {fd : Str} {v : V} {v' : Value} (r : RelV v v') (f : Str) : RelO (List.lookup f [(fd, v)]) (if f = fd then some v' else none) := by
  by_cases hw : f = fd
  · subst hw
    rw [if_pos rfl]
    have q : List.lookup f [(f, v)] = some v := by simp [List.lookup]
    rw [q]
    exact r
  · rw [if_neg hw]
    have qw : (f == fd) = false := by simpa using hw
    have q2 : List.lookup f [(fd, v)] = none := by simp [List.lookup, qw]
    rw [q2]
    trivial
section
variable {X : Cx} {xn fd : Str} {C fI : Addr}
/-- Low(e) -/
def tMkLow (fd : Str) (C : Addr) (ta : TA) : L2.St → Hp → XK → Prop := fun σ H Q => ta σ H fun vs H1 => ∃ v, vs = [v] ∧ ∀ d, H1 d = none → Q (.ref C) (some d) (upd H1 d (.xd [(fd, v)]))
theorem pmk_low {a : Expr} {ta : TA} {p pos : Pos} (T : Ex1 X.K X.mg xn fd C fI) (hr : X.A.depth + 1 < recursionLimit) (ha : PA X [a] ta) (hg : Gl X xn)
    (he : starEach (a :: []) X.env = (false, eval a X.env) :: starEach [] X.env := by rfl) (hpl : (backTo pos (starEach [] X.env)).any (·.1) = false := by rfl) :
    PMk X (.Call (.Name xn p) [a] [] pos) (tMkLow fd C ta) := by
  intro pins s σ H Q I h
  refine wpAny_Call_Name_kw (ld_glob I hg T.gC ?_ T.hx)
  refine PySem.W.callWith_K (h₀ := X.base) I.ok.mod.kin T.kC (thn (ha.run pos pins s σ H _ I h) fun us s1 hh => ?_) he hpl
  obtain ⟨vs, H1, I1, r1, v, ev, q1⟩ := hh
  subst ev
  refine ⟨I1.kIn, ?_⟩
  cases r1 with
  | cons rv rn =>
    rename_i v' us'
    cases rn
    show wpAny _ _ (call (.ref C) [v']) _ _ _
    have hlim := I1.nolimit
    obtain ⟨hp, g, dr, tk, os⟩ := s1
    refine wpAny_call (low_made T I1.kIn hlim hr fun h' tk' e d M => ?_)
    show MkP X pins σ Q (.ref e) ⟨h', g, dr, tk', os⟩
    obtain ⟨oe, fv, hoe, hc, hd, hdat, h1⟩ := M.obj
    have hns := M.ns
    obtain ⟨G', g1, g2⟩ := restrict h' fun b => decide (b ≠ e)
    have gk : ∀ b, b ≠ e → G'.get? b = h'.get? b := fun b hb => g1 b (decide_eq_true hb)
    have ge : G'.get? e = none := g2 e (by simp)
    have old : ∀ b o, hp.get? b = some o → G'.get? b = some o := fun b o q => (gk b (Nat.ne_of_lt (Nat.lt_of_lt_of_le (Heap.lt_size q) M.new))).trans (M.keep b o q)
    have ob : ObjOk X.prog X.w (upd H1 d (.xd [(fd, v)])) G' d (.xd [(fd, v)]) :=
      ⟨_, hns.at (fun o q => (gk d M.dne).trans q), fun f => relO_low rv f⟩
    have J : Inv X pins σ (upd H1 d (.xd [(fd, v)])) ⟨G', g, dr, tk', os⟩ := I1.laid (t' := tk') old M.dbig ob
    refine ⟨e, oe, fv, ⟨G', g, dr, tk', os⟩, _, .ref C, some d, rfl, J, fun b o q => ?_, ge, hoe, ⟨hc, hd⟩, hdat, h1, ?_, rfl, I1.bare, raises_own T.exC T.tyC, q1 d (I1.hok.fresh M.dbig)⟩
    · by_cases hb : b = e
      · have q' : G'.get? b = some o := q
        rw [hb, ge] at q'; cases q'
      · exact (gk b hb).symm.trans q
    · rw [upd_ne (Ne.symm M.dne)]
      exact I1.hok.fresh M.new
/-- raise Low(e) -/
def tRaiseLow (fd : Str) (C : Addr) (W : WX) (ta : TA) : TS := fun _ σ H => tMkLow fd C ta σ H fun cls d H' => W cls d σ H'
theorem ps_raiseLow {a : Expr} {ta : TA} {W : WX} {p pos pos2 : Pos} (hc : X.calm = true) (T : Ex1 X.K X.mg xn fd C fI) (hr : X.A.depth + 1 < recursionLimit) (tk : Takes X W) (ha : PA X [a] ta) (hg : Gl X xn)
    (he : starEach (a :: []) X.env = (false, eval a X.env) :: starEach [] X.env := by rfl) (hpl : (backTo pos (starEach [] X.env)).any (·.1) = false := by rfl) :
    PS X (.Raise (some (.Call (.Name xn p) [a] [] pos)) none pos2) (tRaiseLow fd C W ta) := ps_raise hc tk (pmk_low T hr ha hg he hpl)
end
/-- an own exception class without own __init__ -/
structure Ex0 (K : PySem.W.Frag) (mg : Str → Option Value) (xn : Str) (C : Addr) : Prop where
  hx : (xn == ("__debug__" : Str)) = false
  gC : mg xn = some (.ref C)
  q : PySem.W.excIn K C [.type "ValueError", .type "Exception", .type "BaseException", .type "object"] "ValueError.__new__" = true
  kC : PySem.W.keepIn K (.ref C) = true
  exC : PySem.W.subIn K (.ref C) (.type "BaseException") = some true
  tyC : PySem.W.typeIn K (.ref C) = some (.type "type")
/-- X(), X an own exception class without own __init__ -/
theorem pmk_own0 {X : Cx} {C : Addr} {x : Str} {p pos : Pos} (T : Ex0 X.K X.mg x C) (hg : Gl X x) :
    PMk X (.Call (.Name x p) [] [] pos) (fun σ H Q => Q (.ref C) none H) := by
  intro pins s σ H Q I h
  refine wpAny_Call_Name_kw (ld_glob I hg T.gC ?_ T.hx)
  refine PySem.W.callWith_K0 I.kIn T.kC ?_
  obtain ⟨bm, N, nm, qn, bs, hdct, sn, sub, ab, col, dd, k0, k1, k2, k3, k5, mN, hC, hN, hni, F⟩ := exc_obj I.kIn T.q
  show wpAny _ _ (call (.ref C) []) _ _ _
  refine wpAny_call_exc_subT PySem.F.excBase_ValueError F hC hN hni (fun h' e hm => ?_) (Nat.zero_le _)
  exact mk_of I hm (raises_own T.exC T.tyC) h (I.hok.gone hm.new)
theorem Ex1.xf {K : PySem.W.Frag} {mg : Str → Option Value} {xn fd : Str} {C fI : Addr} (T : Ex1 K mg xn fd C fI) : XfC K C := ⟨T.ga, T.gg, T.exC, T.hdC⟩
end R

set_option autoImplicit false
namespace R
open PySem PySem.Spec PyProof.Rows L2
/-! ## RX1: try with several clauses, each with a name or without -/
def dGone (o : Option Nat) (D : Ends) : Ends := match o with
  | none => D
  | some i => { nx := fun σ' H' => D.nx (σ'.set i none) H', rt := D.rt, bk := fun σ' H' => D.bk (σ'.set i none) H', ct := fun σ' H' => D.ct (σ'.set i none) H' }
def stIn (o : Option Nat) (a : Addr) (σ : L2.St) : L2.St := match o with
  | none => σ
  | some i => σ.set i (some (.ref a))
/-- what the clauses wish of an exception of the body, one after the other -/
def wGen (K : PySem.W.Frag) (Wout : WX) (D : Ends) : List (Value × Option Nat × (Addr → Value → Option Addr → TS)) → WX
  | [] => Wout
  | (c, o, ts) :: r => fun cls d σ H => ∃ b, PySem.W.exmOne K cls c = some b ∧ (b = true → ∀ a, H a = none → ts a cls d (dGone o D) (stIn o a σ) H) ∧ (b = false → wGen K Wout D r cls d σ H)
inductive HdsG (X : Cx) : List ExceptHandler → List (Value × Option Nat × (Addr → Value → Option Addr → TS)) → Prop
  | nil : HdsG X [] []
  | plain {x : Str} {c : Value} {ts : Addr → Value → Option Addr → TS} {b₀ : Stmt} {suite : List Stmt} {np pos' : Pos} {hds : List ExceptHandler} {l : List (Value × Option Nat × (Addr → Value → Option Addr → TS))} (hc : Names X x c)
      (hsu : ∀ (a : Addr) (oe : Obj) (cls : Value) (d : Option Addr) (pn : List (Addr × Obj)), Zc cls d oe → (∃ vs, oe.data = .fields vs) → PSs (X.suite a ((a, oe) :: pn)) (b₀ :: suite) (ts a cls d)) (r : HdsG X hds l) :
      HdsG X (.ExceptHandler (some (.Name x np)) none (b₀ :: suite) pos' :: hds) ((c, none, ts) :: l)
  | named {x n : Str} {c : Value} {i : Nat} {ts : Addr → Value → Option Addr → TS} {b₀ : Stmt} {suite : List Stmt} {np pos' : Pos} {hds : List ExceptHandler} {l : List (Value × Option Nat × (Addr → Value → Option Addr → TS))} (hi : X.N[i]? = some n) (hln : X.env.kindOf n = some .local) (hc : Names X x c)
      (hsu : ∀ (a : Addr) (oe : Obj) (cls : Value) (d : Option Addr) (pn : List (Addr × Obj)), Zc cls d oe → (∃ vs, oe.data = .fields vs) → PSs (X.suite a ((a, oe) :: pn)) (b₀ :: suite) (ts a cls d)) (r : HdsG X hds l) :
      HdsG X (.ExceptHandler (some (.Name x np)) (some n) (b₀ :: suite) pos' :: hds) ((c, some i, ts) :: l)
section
variable {X : Cx} {body : List Stmt} {h₀ : ExceptHandler} {hds : List ExceptHandler} {l : List (Value × Option Nat × (Addr → Value → Option Addr → TS))} {pos : Pos} {tb : WX → TS} {Wout : WX}
theorem ps_try_gen (hs : X.stack = X.env :: X.outer) (hf : X.env.frame = some X.env.locals) (hN : X.N.Nodup) (tk : Takes X Wout)
    (hb : ∀ (W : WX) (pn : List (Addr × Obj)) (xe : Value → Shared → Prop), Takes (X.tr pn xe) W → PassesOwn (model X.prog X.w) X.A X.env xe → PSs (X.tr pn xe) body (tb W))
    (hh : HdsG X (h₀ :: hds) l) : PS X (.Try body (h₀ :: hds) [] [] pos) (fun D σ H => tb (wGen X.K Wout D l) D σ H) := by
  refine ⟨fun pins s σ H D I h => ?_⟩
  have ok := I.ok
  have hfr : X.A.frames = some (X.env :: X.outer) := by rw [ok.frames, hs]
  refine wpAny_Try_except ?_
  refine wpAny_mono ((hb (wGen X.K Wout D l) (X.pn ++ pins) (fun e s₁ => wpAny (model X.prog X.w) X.A (noteFrame e X.env) (fun _ s₂ => wpAny (model X.prog X.w) X.A (setFlight e none) (fun _ s₃ =>
    wpAny (model X.prog X.w) X.A (handleBy e X.env (h₀ :: hds)) (SP X pins D) X.xe s₃) X.xe s₂) X.xe s₁) (fun u s' xx => ?_) PassesOwn.looking).run [] s σ H D (I.toTry _) h) (fun f s1 hsp => ?_) (fun e s1 he => he)
  · -- the catch
    obtain ⟨a, B, sI, pins', σ', H', cls, d, rfl, J', nb, up, sky, na, os, ag, w⟩ := xx
    have J : L2.Inv X pins σ' H' sI := J'.ofTry ok
    have sky' : Sky B (X.env :: X.outer) a (Zc cls d) X.env.locals s'.heap := by rw [← hs]; exact sky
    show wpAny (model X.prog X.w) X.A (noteFrame (.ref a) X.env) _ _ _
    refine Sky.land Zc.steady hfr hf sky' fun h3 fl3 up3 => ?_
    have J3 : L2.Inv X pins σ' H' { s' with heap := h3 } := J.landed nb fl3.1 (up.trans up3) os ag
    obtain ⟨oe3, vs3, he3, hz3, hd3⟩ := fl3.there
    have notFr : ∀ {h : Heap} {o : Obj} {vs : Array Value}, h.FunFrames B (X.env :: X.outer) → h.get? a = some o → o.data = .fields vs → a ∉ frs (X.env :: X.outer) := fun {h o vs} ff e dd hm => by
      obtain ⟨_, o', e', hnf⟩ := ff.mem hm
      rw [e] at e'; cases e'
      exact hnf _ dd
    have nfr := notFr fl3.2.2.1 he3 hd3
    have nL : a ≠ X.env.locals := fun z => nfr (List.mem_filterMap.mpr ⟨X.env, List.mem_cons_self, by rw [hf, z]⟩)
    have nF : a ∉ X.fs := fun hm => by
      obtain ⟨e, he, q⟩ := List.mem_filterMap.mp hm
      exact nfr (List.mem_filterMap.mpr ⟨e, List.mem_cons_of_mem _ he, q⟩)
    have S3 := J3.suite he3 hd3 na nL nF
    have go : ∀ {hds' : List ExceptHandler} {l' : List (Value × Option Nat × (Addr → Value → Option Addr → TS))}, HdsG X hds' l' → wGen X.K Wout D l' cls d σ' H' →
        wpAny (model X.prog X.w) X.A (handleBy (.ref a) X.env hds') (SP X pins D) X.xe { s' with heap := h3 } := by
      intro hds' l' hk
      induction hk with
      | nil =>
        intro w
        refine wpAny_handleBy_nil ?_
        obtain ⟨k1, k2, k3, oe, vs, T, oT, ts', he, hz, hd, h1, hr⟩ := id fl3
        unfold PySem.passOn
        refine wpAny_bind (wpAny_field he hd h1 ?_)
        rw [if_neg (show ¬ ((Value.ref T == Value.none) = true) from by simp)]
        have fin : wpAny (model X.prog X.w) X.A (setFlight (.ref a) X.env.frame) (fun _ s4 => wpAny (model X.prog X.w) X.A (throw (.ref a) : Sem Flow) (SP X pins D) X.xe s4) X.xe { s' with heap := h3 } := by
          rw [hf]
          refine HandSPX.setFlight_upZ fl3 fun h4 hh4 up4 => wpAny_throw (tk _ _ ?_)
          exact ⟨a, B, sI, pins, σ', H', cls, d, rfl, J, nb, (up.trans up3).trans up4, .inr (.inr (by rw [hs]; exact hh4)), na, os, ag, w⟩
        first
          | exact wpAny_bind (wpAny_pure (wpAny_bind fin))
          | exact wpAny_bind fin
      | @plain x c ts b₀ suite np pos' hds2 l2 hc hsu r ih =>
        intro w
        obtain ⟨b, hb1, hyes, hno⟩ := w
        refine wpAny_handleBy_cons (codeAny_handlers_test ?_) (by intro q; cases q)
        have LT : PySem.W.Looks (model X.prog X.w) h3 (typeOf (.ref a)) cls := fun A Q E s k q => wpAny_typeOf_ref (k _ _ he3) (by rw [hz3.1]; exact q)
        have LM := PySem.W.exm_one (M := model X.prog X.w) (J3.kIn) LT hb1
        have test : ∀ {Q : Value → Shared → Prop} {E : Value → Shared → Prop}, Q c { s' with heap := h3 } → wpAny (model X.prog X.w) (X.A.mark (some (.ref a))) (eval (.Name x np) X.env) Q E { s' with heap := h3 } := fun {Q E} q => by
          obtain ⟨hg, hdbg, hm | ⟨hm, hv, hnn⟩⟩ := hc
          · exact ld_glob (X := X.suite a ((a, oe3) :: (X.pn ++ pins))) S3 hg hm q hdbg
          · exact ld_blt (X := X.suite a ((a, oe3) :: (X.pn ++ pins))) S3 hg hm hv q hnn hdbg
        refine test (LM.here ?_)
        cases b with
        | true =>
          refine codeAny_handlers_suite ?_
          refine HandSPX.lands_againZ fl3 fun h4 fl4 up4 => ?_
          have J4 : L2.Inv X pins σ' H' { s' with heap := h4 } := J.landed nb fl4.1 ((up.trans up3).trans up4) os ag
          obtain ⟨oe4, vs4, he4, hz4, hd4⟩ := fl4.there
          have S4 := J4.suite he4 hd4 na nL nF
          refine wpAny_mono ((hsu a oe4 cls d (X.pn ++ pins) hz4 ⟨_, hd4⟩).run [] _ _ H' _ S4 (hyes rfl a na)) (fun f s6 hsp => ?_) (fun _ _ z => False.elim z)
          cases f with
          | next =>
            obtain ⟨σ6, H6, S6, q6⟩ := hsp
            exact ⟨_, _, S6.unsuite ok, q6⟩
          | brk =>
            obtain ⟨σ6, H6, S6, q6⟩ := hsp
            exact ⟨_, _, S6.unsuite ok, q6⟩
          | cont =>
            obtain ⟨σ6, H6, S6, q6⟩ := hsp
            exact ⟨_, _, S6.unsuite ok, q6⟩
          | ret u =>
            obtain ⟨v6, σ6, H6, S6, r6, q6⟩ := hsp
            exact ⟨_, _, _, S6.unsuite ok, r6, q6⟩
        | false =>
          show wpAny _ X.A (handleBy (.ref a) X.env hds2) _ _ _
          exact ih (hno rfl)
      | @named x n c i ts b₀ suite np pos' hds2 l2 hi hln hc hsu r ih =>
        intro w
        obtain ⟨b, hb1, hyes, hno⟩ := w
        refine wpAny_handleBy_cons (codeAny_handlers_test ?_) (by intro q; cases q)
        have LT : PySem.W.Looks (model X.prog X.w) h3 (typeOf (.ref a)) cls := fun A Q E s k q => wpAny_typeOf_ref (k _ _ he3) (by rw [hz3.1]; exact q)
        have LM := PySem.W.exm_one (M := model X.prog X.w) (J3.kIn) LT hb1
        have test : ∀ {Q : Value → Shared → Prop} {E : Value → Shared → Prop}, Q c { s' with heap := h3 } → wpAny (model X.prog X.w) (X.A.mark (some (.ref a))) (eval (.Name x np) X.env) Q E { s' with heap := h3 } := fun {Q E} q => by
          obtain ⟨hg, hdbg, hm | ⟨hm, hv, hnn⟩⟩ := hc
          · exact ld_glob (X := X.suite a ((a, oe3) :: (X.pn ++ pins))) S3 hg hm q hdbg
          · exact ld_blt (X := X.suite a ((a, oe3) :: (X.pn ++ pins))) S3 hg hm hv q hnn hdbg
        refine test (LM.here ?_)
        cases b with
        | true =>
          refine codeAny_handlers_suite_as ?_
          refine HandSPX.lands_againZ fl3 fun h4 fl4 up4 => ?_
          have J4 : L2.Inv X pins σ' H' { s' with heap := h4 } := J.landed nb fl4.1 ((up.trans up3).trans up4) os ag
          obtain ⟨oe4, vs4, he4, hz4, hd4⟩ := fl4.there
          have S4 := J4.suite he4 hd4 na nL nF
          refine store_ok (X := X.suite a ((a, oe4) :: (X.pn ++ pins))) (v := .ref a) S4 hN hi (.inl hln) rfl (fun s5 S5 => ?_) (.inr hln)
          refine wpAny_mono ((hsu a oe4 cls d (X.pn ++ pins) hz4 ⟨_, hd4⟩).run [] s5 _ H' _ S5 (hyes rfl a na)) (fun f s6 hsp => ?_) (fun _ _ z => False.elim z)
          have end_ : ∀ {σ6 : L2.St} {H6 : Hp} {Q : Shared → Prop}, L2.Inv (X.suite a ((a, oe4) :: (X.pn ++ pins))) [] σ6 H6 s6 → (∀ s7, L2.Inv X pins (σ6.set i none) H6 s7 → Q s7) →
              wpAny (model X.prog X.w) X.A (do bindName X.env n .none; unbindBehindTheSuite X.env n pos') (fun _ s7 => Q s7) X.xe s6 := fun {σ6 H6 Q} S6 hq => gone_ok (S6.unsuite ok) hN hi hln hq
          cases f with
          | next =>
            obtain ⟨σ6, H6, S6, q6⟩ := hsp
            exact end_ S6 fun s7 J7 => ⟨_, _, J7, q6⟩
          | brk =>
            obtain ⟨σ6, H6, S6, q6⟩ := hsp
            exact end_ S6 fun s7 J7 => ⟨_, _, J7, q6⟩
          | cont =>
            obtain ⟨σ6, H6, S6, q6⟩ := hsp
            exact end_ S6 fun s7 J7 => ⟨_, _, J7, q6⟩
          | ret u =>
            obtain ⟨v6, σ6, H6, S6, r6, q6⟩ := hsp
            exact end_ S6 fun s7 J7 => ⟨_, _, _, J7, r6, q6⟩
        | false =>
          show wpAny _ X.A (handleBy (.ref a) X.env hds2) _ _ _
          exact ih (hno rfl)
    exact go hh w
  · cases f with
    | next =>
      obtain ⟨σ', H', J', q⟩ := hsp
      exact wpAny_execs_nil ⟨σ', H', J'.ofTry ok, q⟩
    | brk =>
      obtain ⟨σ', H', J', q⟩ := hsp
      exact ⟨σ', H', J'.ofTry ok, q⟩
    | cont =>
      obtain ⟨σ', H', J', q⟩ := hsp
      exact ⟨σ', H', J'.ofTry ok, q⟩
    | ret u =>
      obtain ⟨v, σ', H', J', r, q⟩ := hsp
      exact ⟨v, σ', H', J'.ofTry ok, r, q⟩
end
end R

set_option autoImplicit false
namespace R
open PySem PySem.Spec PyProof.Rows L2
/-! ## R2: the small language and what its parts come to -/

/-- built-in functions and classes, called by their names -/
inductive Bf where
  | len | int | bool | str | tuple | list | abs | min2 | max2 | sum | all | any | sorted | min1 | max1
  deriving DecidableEq
/-- what is gone through -/
inductive Ik where
  | seq | rng1 | rng2 | rng3 | zip | enum | rev
  deriving DecidableEq
/-- a target -/
inductive Tg where
  | one (i : Nat) | many (is : List Nat)
  deriving DecidableEq

inductive E where
  | non | bl (b : Bool) | int (i : Int) | str (x : Str)
  | var (i : Nat) | bor (i : Nat) | glo (x : Str) | skip
  | tup (es : List E) | lst (es : List E)
  | bin (op : Operator) (a b : E) | neg (a : E)
  | cmp (op : CmpOp) (a b : E) | chain (op op' : CmpOp) (a b c : E)
  | and (a b : E) | or (a b : E) | not (a : E) | ite (c a b : E)
  | idx (a i : E) | sli (a lo hi : E)
  | call (f : Str) (es : List E) | blt (f : Bf) (es : List E)
  | isi (a : E) (tys : List String)
  | lc (elt : E) (tg : Tg) (own : List Nat) (k : Ik) (es : List E) (cs : List E)
  | attr (a : E) (f : Str)
  | dct (ks : List Key) (es : List E)

abbrev VH := List VO
abbrev VE := List Slot
inductive Out where
  | ok (x : DV) | exc (c : Str) (xs : List D)
structure VSp where
  run : List D → VH → (Out → VH → Prop) → Prop
  mono : ∀ (ds : List D) (vh : VH) (R R' : Out → VH → Prop), (∀ o h, R o h → R' o h) → run ds vh R → run ds vh R'
/-- a promise by what comes out -/
def det (s : List D → VH → Out → VH → Prop) : VSp := ⟨fun ds vh R => ∃ o h, s ds vh o h ∧ R o h, fun ds vh R R' f ⟨o, h, a, b⟩ => ⟨o, h, a, f o h b⟩⟩
abbrev Fns := Str → VSp
abbrev Cns := Str → Option D
/-- what is wanted of an exception -/
abbrev XP := Str → List D → VE → VH → Prop
abbrev QE := DV → VE → VH → Prop

/-- a slot's value, read for its items alone -/
def Slot.ld : Slot → Option D
  | .no => none
  | .val d => some d
  | .own ds => some (.lst ds)
def Slot.ok : Slot → Prop
  | .no => False
  | _ => True
/-- an operand: data, or what a slot holds -/
inductive Op where
  | dat (d : D) | slt (i : Nat)
def deref (vh : VH) : D → Option D
  | .ref n => match vh[n]? with
    | some (.lst xs) => some (.lst xs)
    | some (.dct ks xs) => some (.dct ks xs)
    | _ => none
  | d => some d
def Op.ld (env : VE) (vh : VH) : Op → Option D
  | .dat x => deref vh x
  | .slt i => match env[i]? with
    | some s => match s.ld with
      | some d => deref vh d
      | none => none
    | none => none
/-- an operand as it is -/
def Op.raw (env : VE) : Op → Option D
  | .dat x => some x
  | .slt i => match env[i]? with
    | some (.val d) => some d
    | _ => none
def ldAll (env : VE) (vh : VH) : List Op → Option (List D)
  | [] => some []
  | x :: xs => match x.ld env vh, ldAll env vh xs with
    | some d, some ds => some (d :: ds)
    | _, _ => none

/-! ### truth, equality, operators -/
def truD : D → Option Bool
  | .non => some false
  | .bl b => some b
  | .int i => some (i != 0)
  | .str x => if x.length ≤ 16777216 then some ((x.length : Int) != 0) else none
  | .tup xs => some (!xs.isEmpty)
  | .lst xs => some (!xs.isEmpty)
  | .dct ks xs => some (!xs.isEmpty)
  | _ => none

mutual
def eqD : D → D → Bool
  | .non, .non => true
  | .bl a, .bl b => a == b
  | .bl a, .int j => (if a then 1 else 0) == j
  | .int i, .bl b => i == (if b then 1 else 0)
  | .int i, .int j => i == j
  | .str x, .str y => x == y
  | .lst xs, .lst ys => eqDs xs ys
  | .tup xs, .tup ys => eqDs xs ys
  | _, _ => false
def eqDs : List D → List D → Bool
  | [], [] => true
  | x :: xs, y :: ys => eqD x y && eqDs xs ys
  | _, _ => false
end
mutual
/-- data that == looks at as data, at most so deep -/
def okD : Nat → D → Bool
  | _, .non => true
  | _, .bl _ => true
  | _, .int _ => true
  | _, .str x => PyData.canLay0 (.str x)
  | n + 1, .lst xs => okDs n xs
  | n + 1, .tup xs => okDs n xs
  | _, _ => false
def okDs : Nat → List D → Bool
  | _, [] => true
  | n, x :: xs => okD n x && okDs n xs
end

def mulOk (i j : Int) : Prop := (-(2 ^ 64) < i ∧ i < 2 ^ 64) ∨ (-(2 ^ 64) < j ∧ j < 2 ^ 64) ∨ i.natAbs.log2 + j.natAbs.log2 < 1000000

def wpBin (op : Operator) (a b : D) (Q : DV → Prop) : Prop := match op, a, b with
  | .Add, .int i, .int j => Q (.v (.int (i + j)))
  | .Add, .str x, .str y => x.length + y.length ≤ 16777216 ∧ Q (.v (.str (x ++ y)))
  | .Add, .tup xs, .tup ys => xs.length + ys.length ≤ 16777216 ∧ Q (.v (.tup (xs ++ ys)))
  | .Add, .lst xs, .lst ys => xs.length + ys.length ≤ 16777216 ∧ Q (.fr (xs ++ ys))
  | .Sub, .int i, .int j => Q (.v (.int (i - j)))
  | .Mult, .int i, .int j => mulOk i j ∧ Q (.v (.int (i * j)))
  | .Mult, .str x, .int k => MulOk x k ∧ Q (.v (.str (Txt.mul x k)))
  | .Mult, .tup xs, .int k => 1 ≤ k ∧ k ≤ 1000 ∧ xs.length ≤ 1000 ∧ Q (.v (.tup (List.replicate k.toNat xs).flatten))
  | .FloorDiv, .int i, .int j => (0 < j ∧ j.natAbs.log2 < 9000) ∧ Q (.v (.int (i / j)))
  | .Mod, .int i, .int j => 0 < j ∧ Q (.v (.int (i % j)))
  | .Pow, .int i, .int j => (0 ≤ j ∧ j ≤ 1000000 ∧ i.natAbs < 2 ^ 64) ∧ Q (.v (.int (i ^ j.toNat)))
  | _, _, _ => False

def isNon : D → Bool
  | .non => true
  | _ => false
@[reducible] def isB : D → Bool → Bool
  | .bl a, b => decide (a = b)
  | _, _ => false
def flatD : D → Bool
  | .non => true
  | .bl _ => true
  | .int _ => true
  | .str _ => true
  | _ => false
def inD (x : D) (xs : List D) : Bool := xs.any fun y => eqD y x

def wpCmp (op : CmpOp) (a b : D) (Q : Bool → Prop) : Prop := match op, a, b with
  | .Eq, x, y => okD 64 x = true ∧ okD 64 y = true ∧ Q (eqD x y)
  | .NotEq, x, y => okD 64 x = true ∧ okD 64 y = true ∧ Q (!eqD x y)
  | .Lt, .int i, .int j => Q (decide (i < j))
  | .LtE, .int i, .int j => Q (decide (i ≤ j))
  | .Gt, .int i, .int j => Q (decide (j < i))
  | .GtE, .int i, .int j => Q (decide (j ≤ i))
  | .Is, x, .non => Q (isNon x)
  | .IsNot, x, .non => Q (!isNon x)
  | .Is, x, .bl b => Q (isB x b)
  | .IsNot, x, .bl b => Q (!isB x b)
  | _, _, _ => False

def wpIdx (a i : D) (Q : D → Prop) : Prop := match a, i with
  | .tup xs, .int k => ∃ d, atI xs k = some d ∧ Q d
  | .lst xs, .int k => ∃ d, atI xs k = some d ∧ Q d
  | .scr xs, .int k => ∃ d, atI xs k = some d ∧ Q (.int d)
  | .str x, .int k => x.length ≤ 16777216 ∧ ∃ c, atI x.cps.toList k = some c ∧ Q (.str ⟨#[c]⟩)
  | _, _ => False
def partD : DV → Option (Option Int)
  | .v (.int i) => some (some i)
  | .v .non => some none
  | _ => none
/-- xs[lo:hi] -/
def cutL {α : Type} (xs : List α) (lo hi : Option Int) : List α := (xs.drop (HT.sIx xs.length 0 lo)).take (HT.sIx xs.length xs.length hi - HT.sIx xs.length 0 lo)
def wpSli (a : D) (lo hi : Option Int) (Q : DV → Prop) : Prop := match a with
  | .tup xs => Q (.v (.tup (cutL xs lo hi)))
  | .lst xs => Q (.fr (cutL xs lo hi))
  | .scr xs => Q (.fr ((cutL xs lo hi).map D.int))
  | _ => False

def eNm (f : Str) : Str := ("%e." : Str) ++ f
/-- o.f -/
def wpAttr (Γ : Cns) (vh : VH) (d : D) (f : Str) (Q : D → Prop) : Prop := match d with
  | .adr a => Γ "%a" = some (.adr a) ∧ ∃ x, Γ (eNm f) = some x ∧ Q x
  | _ => False
/-- a value's built-in type -/
def tyD : D → Option String
  | .non => some "NoneType"
  | .bl _ => some "bool"
  | .int _ => some "int"
  | .str _ => some "str"
  | .tup _ => some "tuple"
  | .lst _ => some "list"
  | .scr _ => some "list"
  | .dct _ _ => some "dict"
  | _ => none
/-- the built-in types that isinstance is asked for -/
def okTy (b : String) : Bool := b == "int" || b == "bool" || b == "str" || b == "tuple" || b == "list" || b == "dict"
def isTy (a b : String) : Bool := a == b || (a == "bool" && b == "int")
def wpBlt (f : Bf) (ds : List D) (Q : DV → Prop) : Prop := match f, ds with
  | .len, [.tup xs] => Q (.v (.int xs.length))
  | .len, [.lst xs] => Q (.v (.int xs.length))
  | .len, [.scr xs] => Q (.v (.int xs.length))
  | .len, [.str x] => x.length ≤ 16777216 ∧ Q (.v (.int x.length))
  | .int, [.int i] => Q (.v (.int i))
  | .int, [.bl b] => Q (.v (.int (if b then 1 else 0)))
  | .tuple, [.lst xs] => Q (.v (.tup xs))
  | .tuple, [.tup xs] => Q (.v (.tup xs))
  | .list, [.lst xs] => Q (.fr xs)
  | .list, [.scr xs] => Q (.fr (xs.map D.int))
  | .list, [.tup xs] => Q (.fr xs)
  | .abs, [.int i] => Q (.v (.int (if i < 0 then -i else i)))
  | .min2, [.int i, .int j] => Q (.v (.int (if j < i then j else i)))
  | .max2, [.int i, .int j] => Q (.v (.int (if j > i then j else i)))
  | .all, [.lst xs] => ∃ bs : List Bool, xs = bs.map D.bl ∧ Q (.v (.bl (bs.all id)))
  | .any, [.lst xs] => ∃ bs : List Bool, xs = bs.map D.bl ∧ Q (.v (.bl (bs.any id)))
  | .sorted, [.lst xs] => ∃ ns : List Int, xs = ns.map D.int ∧ ∀ ns' : List Int, ns'.Perm ns → ns'.Pairwise (· ≤ ·) → Q (.fr (ns'.map D.int))
  | .min1, [.lst xs] => ∃ ns : List Int, xs = ns.map D.int ∧ 0 < ns.length ∧ ∀ m, m ∈ ns → (∀ y, y ∈ ns → m ≤ y) → Q (.v (.int m))
  | .max1, [.lst xs] => ∃ ns : List Int, xs = ns.map D.int ∧ 0 < ns.length ∧ ∀ m, m ∈ ns → (∀ y, y ∈ ns → y ≤ m) → Q (.v (.int m))
  | .sum, [.scr ns] => Q (.v (.int ns.sum))
  | .str, [.int i] => i.natAbs.log2 < 1920 ∧ Q (.v (.str (Str.ofString (toString i))))
  | .int, [.str x] => ∃ n : Int, PySem.intText? x = some n ∧ x.length ≤ 640 ∧ Q (.v (.int n))
  | .sum, [.lst xs] => ∃ ns : List Int, xs = ns.map D.int ∧ Q (.v (.int ns.sum))
  | _, _ => False

/-- the items that are gone through -/
def itemsD (k : Ik) (ds : List D) : Option (List D) := match k, ds with
  | .seq, [.tup xs] => some xs
  | .seq, [.lst xs] => some xs
  | .seq, [.scr xs] => some (xs.map D.int)
  | .seq, [.str x] => some (x.cps.toList.map fun c => D.str ⟨#[c]⟩)
  | .rng1, [.int n] => if -(2 ^ 62) ≤ n ∧ n < 2 ^ 62 then some ((List.range n.toNat).map fun (i : Nat) => D.int (i : Int)) else none
  | .rng2, [.int a, .int b] => if -(2 ^ 62) ≤ a ∧ a < 2 ^ 62 ∧ -(2 ^ 62) ≤ b ∧ b < 2 ^ 62 then some ((List.range (b - a).toNat).map fun (i : Nat) => D.int (a + (i : Int))) else none
  | .rng3, [.int a, .int b, .int c] => if c = -1 ∧ -(2 ^ 62) ≤ a ∧ a < 2 ^ 62 ∧ -(2 ^ 62) ≤ b ∧ b < 2 ^ 62 then some ((List.range (a - b).toNat).map fun (i : Nat) => D.int (a - (i : Int))) else none
  | .zip, [.lst xs, .lst ys] => some (List.zipWith (fun x y => D.tup [x, y]) xs ys)
  | .zip, [.tup xs, .tup ys] => some (List.zipWith (fun x y => D.tup [x, y]) xs ys)
  | .enum, [.lst xs] => some (List.zipWith (fun (i : Nat) x => D.tup [.int (i : Int), x]) (List.range xs.length) xs)
  | _, _ => none
def setAllE (env : VE) : List Nat → List D → Option VE
  | [], [] => some env
  | i :: is, d :: ds => setAllE (env.set i (.val d)) is ds
  | _, _ => none
def bindT (tg : Tg) (d : D) (env : VE) : Option VE := match tg, d with
  | .one i, d => some (env.set i (.val d))
  | .many is, .tup ds => setAllE env is ds
  | _, _ => none
def wipeE (env : VE) : List Nat → VE
  | [] => env
  | i :: is => (wipeE env is).set i .no

def noOwn (env : VE) : List Nat → Prop
  | [] => True
  | j :: js => (match env[j]? with
    | some (.own _) => False
    | _ => True) ∧ noOwn env js

/-- a value as it is wanted: itself, or its truth -/
def fin (t : Bool) (x : DV) (env : VE) (vh : VH) (Q : QE) : Prop := match t with
  | false => Q x env vh
  | true => ∃ k, (deref vh x.d).bind truD = some k ∧ Q (.v (.bl k)) env vh
def finB (t : Bool) (b : Bool) (env : VE) (vh : VH) (Q : QE) : Prop := Q (.v (.bl b)) env vh
def ifP (b : Bool) (p q : Prop) : Prop := match b with
  | true => p
  | false => q

/-- a comprehension's turns -/
def lcGo (turn : D → VH → (Option D → VH → Prop) → Prop) : List D → VH → List D → (List D → VH → Prop) → Prop
  | [], h, acc, Q => Q acc h
  | d :: ds, h, acc, Q => turn d h fun o h' => match o with
    | some y => acc.length < 16777216 ∧ lcGo turn ds h' (acc ++ [y]) Q
    | none => lcGo turn ds h' acc Q

/-- an operand: a slot that is read for its items, or a value -/
def asO (e : E) (w : XP → Bool → VE → VH → QE → Prop) (K : XP) (env : VE) (vh : VH) (Q : Op → VE → VH → Prop) : Prop := match e with
  | .bor i => (∃ s, env[i]? = some s ∧ s.ok) ∧ Q (.slt i) env vh
  | _ => w K false env vh fun x e1 h1 => Q (.dat x.d) e1 h1
mutual
/-- what an expression comes to; t: as a test -/
def wpE (Φ : Fns) (Γ : Cns) : E → XP → Bool → VE → VH → QE → Prop
  | .non, K, t, env, vh, Q => fin t (.v .non) env vh Q
  | .bl b, K, t, env, vh, Q => fin t (.v (.bl b)) env vh Q
  | .int i, K, t, env, vh, Q => fin t (.v (.int i)) env vh Q
  | .str x, K, t, env, vh, Q => fin t (.v (.str x)) env vh Q
  | .skip, K, t, env, vh, Q => fin t (.v .non) env vh Q
  | .var i, K, t, env, vh, Q => ∃ s, env[i]? = some s ∧ match s with
    | .no => False
    | .val d => fin t (.v d) env vh Q
    | .own ds => fin t (.v (.lst ds)) (env.set i (.val (.lst ds))) vh Q
  | .bor i, K, true, env, vh, Q => ∃ d k, (Op.slt i).ld env vh = some d ∧ truD d = some k ∧ Q (.v (.bl k)) env vh
  | .bor i, K, false, env, vh, Q => False
  | .glo x, K, t, env, vh, Q => ∃ d, Γ x = some d ∧ fin t (.v d) env vh Q
  | .tup es, K, t, env, vh, Q => wpEs Φ Γ es K env vh fun ds e1 h1 => ds.length ≤ 16777216 ∧ fin t (.v (.tup ds)) e1 h1 Q
  | .lst es, K, t, env, vh, Q => wpEs Φ Γ es K env vh fun ds e1 h1 => ds.length ≤ 16777216 ∧ fin t (.fr ds) e1 h1 Q
  | .bin op a b, K, t, env, vh, Q => asO a (wpE Φ Γ a) K env vh fun x e1 h1 => asO b (wpE Φ Γ b) K e1 h1 fun y e2 h2 => ∃ c d, x.ld e2 h2 = some c ∧ y.ld e2 h2 = some d ∧ wpBin op c d fun z => fin t z e2 h2 Q
  | .neg a, K, t, env, vh, Q => wpE Φ Γ a K false env vh fun x e1 h1 => ∃ i, x = .v (.int i) ∧ fin t (.v (.int (-i))) e1 h1 Q
  | .cmp op a b, K, t, env, vh, Q => asO a (wpE Φ Γ a) K env vh fun x e1 h1 => asO b (wpE Φ Γ b) K e1 h1 fun y e2 h2 => ∃ c d, x.ld e2 h2 = some c ∧ y.ld e2 h2 = some d ∧ wpCmp op c d fun k => Q (.v (.bl k)) e2 h2
  | .chain op op' a b c, K, t, env, vh, Q => asO a (wpE Φ Γ a) K env vh fun x e1 h1 => asO b (wpE Φ Γ b) K e1 h1 fun y e2 h2 => ∃ d e, x.ld e2 h2 = some d ∧ y.ld e2 h2 = some e ∧ wpCmp op d e fun k =>
      ifP k (asO c (wpE Φ Γ c) K e2 h2 fun z e3 h3 => ∃ e f, y.ld e3 h3 = some e ∧ z.ld e3 h3 = some f ∧ wpCmp op' e f fun k => Q (.v (.bl k)) e3 h3) (Q (.v (.bl false)) e2 h2)
  | .and a b, K, true, env, vh, Q => wpE Φ Γ a K true env vh fun x e1 h1 => ∃ k, x = .v (.bl k) ∧ ifP k (wpE Φ Γ b K true e1 h1 Q) (Q (.v (.bl false)) e1 h1)
  | .and a b, K, false, env, vh, Q => wpE Φ Γ a K false env vh fun x e1 h1 => ∃ d k, x = .v d ∧ (deref h1 d).bind truD = some k ∧ ifP k (wpE Φ Γ b K false e1 h1 Q) (Q x e1 h1)
  | .or a b, K, true, env, vh, Q => wpE Φ Γ a K true env vh fun x e1 h1 => ∃ k, x = .v (.bl k) ∧ ifP k (Q (.v (.bl true)) e1 h1) (wpE Φ Γ b K true e1 h1 Q)
  | .or a b, K, false, env, vh, Q => wpE Φ Γ a K false env vh fun x e1 h1 => ∃ d k, x = .v d ∧ (deref h1 d).bind truD = some k ∧ ifP k (Q x e1 h1) (wpE Φ Γ b K false e1 h1 Q)
  | .not a, K, true, env, vh, Q => wpE Φ Γ a K true env vh fun x e1 h1 => ∃ k, x = .v (.bl k) ∧ Q (.v (.bl (!k))) e1 h1
  | .not a, K, false, env, vh, Q => asO a (wpE Φ Γ a) K env vh fun x e1 h1 => ∃ d k, x.ld e1 h1 = some d ∧ truD d = some k ∧ Q (.v (.bl (!k))) e1 h1
  | .ite c a b, K, t, env, vh, Q => wpE Φ Γ c K true env vh fun x e1 h1 => ∃ k, x = .v (.bl k) ∧ ifP k (wpE Φ Γ a K t e1 h1 Q) (wpE Φ Γ b K t e1 h1 Q)
  | .idx a i, K, t, env, vh, Q => asO a (wpE Φ Γ a) K env vh fun x e1 h1 => asO i (wpE Φ Γ i) K e1 h1 fun y e2 h2 => ∃ c d, x.ld e2 h2 = some c ∧ y.ld e2 h2 = some d ∧ wpIdx c d fun z => fin t (.v z) e2 h2 Q
  | .sli a lo hi, K, t, env, vh, Q => asO a (wpE Φ Γ a) K env vh fun x e1 h1 => wpE Φ Γ lo K false e1 h1 fun l e2 h2 => ∃ i, partD l = some i ∧ wpE Φ Γ hi K false e2 h2 fun u e3 h3 =>
      ∃ c j, x.ld e3 h3 = some c ∧ partD u = some j ∧ wpSli c i j fun z => fin t z e3 h3 Q
  | .call f es, K, t, env, vh, Q => wpEs Φ Γ es K env vh fun ds e1 h1 => (Φ f).run ds h1 fun o h2 => match o with
    | .ok x => fin t x e1 h2 Q
    | .exc c fs => K c fs e1 h2
  | .blt f es, K, t, env, vh, Q => wpOs Φ Γ es K env vh fun xs e1 h1 => ∃ ds, ldAll e1 h1 xs = some ds ∧ wpBlt f ds fun z => fin t z e1 h1 Q
  | .isi a tys, K, t, env, vh, Q => asO a (wpE Φ Γ a) K env vh fun x e1 h1 => ∃ d n, x.ld e1 h1 = some d ∧ tyD d = some n ∧ tys.all okTy = true ∧ fin t (.v (.bl (tys.any (isTy n)))) e1 h1 Q
  | .lc elt tg own k es cs, K, t, env, vh, Q => wpEs Φ Γ es K env vh fun ds e1 h1 => ∃ items, itemsD k ds = some items ∧
      noOwn e1 own ∧
      lcGo (fun d h R => ∃ e2, bindT tg d (wipeE e1 own) = some e2 ∧ wpTs Φ Γ cs e2 h fun b h3 => ifP b (wpE Φ Γ elt (fun _ _ _ _ => False) false e2 h3 fun x e4 h4 => e4 = e2 ∧ R (some x.d) h4) (R none h3)) items h1 [] fun acc h2 => fin t (.fr acc) e1 h2 Q
  | .attr a f, K, t, env, vh, Q => asO a (wpE Φ Γ a) K env vh fun x e1 h1 => ∃ d, x.raw e1 = some d ∧ wpAttr Γ h1 d f fun z => fin t (.v z) e1 h1 Q
  | .dct ks es, K, t, env, vh, Q => wpEs Φ Γ es (fun _ _ _ _ => False) env vh fun ds e1 h1 => (ks.length = ds.length ∧ ks.length ≤ 15 ∧ ks.Nodup) ∧ fin t (.v (.dct ks ds)) e1 h1 Q
def wpEs (Φ : Fns) (Γ : Cns) : List E → XP → VE → VH → (List D → VE → VH → Prop) → Prop
  | [], K, env, vh, Q => Q [] env vh
  | e :: es, K, env, vh, Q => wpE Φ Γ e K false env vh fun x e1 h1 => wpEs Φ Γ es K e1 h1 fun xs e2 h2 => Q (x.d :: xs) e2 h2
def wpOs (Φ : Fns) (Γ : Cns) : List E → XP → VE → VH → (List Op → VE → VH → Prop) → Prop
  | [], K, env, vh, Q => Q [] env vh
  | e :: es, K, env, vh, Q => asO e (wpE Φ Γ e) K env vh fun x e1 h1 => wpOs Φ Γ es K e1 h1 fun xs e2 h2 => Q (x :: xs) e2 h2
/-- a clause's tests -/
def wpTs (Φ : Fns) (Γ : Cns) : List E → VE → VH → (Bool → VH → Prop) → Prop
  | [], env, vh, Q => Q true vh
  | [c], env, vh, Q => wpE Φ Γ c (fun _ _ _ _ => False) true env vh fun x e1 h1 => e1 = env ∧ ∃ k, x = .v (.bl k) ∧ Q k h1
  | _ :: _ :: _, _, _, _ => False
end

/-! ### monotone -/
section
variable {Φ : Fns} {Γ : Cns}
theorem fin_mono {t : Bool} {x : DV} {env : VE} {vh : VH} {Q Q' : QE} (f : ∀ x e h, Q x e h → Q' x e h) (h : fin t x env vh Q) : fin t x env vh Q' := by
  cases t with
  | false => exact f _ _ _ h
  | true => obtain ⟨k, h1, h2⟩ := h; exact ⟨k, h1, f _ _ _ h2⟩
theorem ifP_mono {b : Bool} {p q p' q' : Prop} (f : p → p') (g : q → q') (h : ifP b p q) : ifP b p' q' := by
  cases b with
  | false => exact g h
  | true => exact f h
theorem wpBin_mono {op : Operator} {a b : D} {Q Q' : DV → Prop} (f : ∀ x, Q x → Q' x) (h : wpBin op a b Q) : wpBin op a b Q' := by
  unfold wpBin at *
  split at h <;> first
    | exact f _ h
    | exact ⟨h.1, f _ h.2⟩
    | exact ⟨h.1, h.2.1, h.2.2.1, f _ h.2.2.2⟩
    | exact h
theorem wpCmp_mono {op : CmpOp} {a b : D} {Q Q' : Bool → Prop} (f : ∀ x, Q x → Q' x) (h : wpCmp op a b Q) : wpCmp op a b Q' := by
  unfold wpCmp at *
  split at h <;> first
    | exact f _ h
    | exact ⟨h.1, h.2.1, f _ h.2.2⟩
    | exact h
theorem wpIdx_mono {a b : D} {Q Q' : D → Prop} (f : ∀ x, Q x → Q' x) (h : wpIdx a b Q) : wpIdx a b Q' := by
  unfold wpIdx at *
  split at h <;> first
    | (obtain ⟨d, h1, h3⟩ := h; exact ⟨d, h1, f _ h3⟩)
    | (obtain ⟨h0, d, h1, h3⟩ := h; exact ⟨h0, d, h1, f _ h3⟩)
    | exact h
theorem wpAttr_mono {vh : VH} {d : D} {g : Str} {Q Q' : D → Prop} (f : ∀ x, Q x → Q' x) (h : wpAttr Γ vh d g Q) : wpAttr Γ vh d g Q' := by
  unfold wpAttr at *
  split at h <;> first
    | (obtain ⟨h0, d, h1, h3⟩ := h; exact ⟨h0, d, h1, f _ h3⟩)
    | exact h
theorem wpSli_mono {a : D} {i j : Option Int} {Q Q' : DV → Prop} (f : ∀ x, Q x → Q' x) (h : wpSli a i j Q) : wpSli a i j Q' := by
  unfold wpSli at *
  split at h <;> first
    | exact f _ h
    | exact h
theorem wpBlt_mono {g : Bf} {ds : List D} {Q Q' : DV → Prop} (f : ∀ x, Q x → Q' x) (h : wpBlt g ds Q) : wpBlt g ds Q' := by
  unfold wpBlt at *
  split at h <;> first
    | exact f _ h
    | exact ⟨h.1, f _ h.2⟩
    | (obtain ⟨j, h1, h3⟩ := h; exact ⟨j, h1, f _ h3⟩)
    | (obtain ⟨j, h1, h3⟩ := h; exact ⟨j, h1, fun a b c => f _ (h3 a b c)⟩)
    | (obtain ⟨j, h1, h2, h3⟩ := h; exact ⟨j, h1, h2, fun a b c => f _ (h3 a b c)⟩)
    | (obtain ⟨j, h1, h2, h3⟩ := h; exact ⟨j, h1, h2, f _ h3⟩)
    | exact h
theorem lcGo_mono {turn turn' : D → VH → (Option D → VH → Prop) → Prop} (ht : ∀ d h R R', (∀ o h, R o h → R' o h) → turn d h R → turn' d h R') :
    ∀ (ds : List D) (h : VH) (acc : List D) (Q Q' : List D → VH → Prop), (∀ a h, Q a h → Q' a h) → lcGo turn ds h acc Q → lcGo turn' ds h acc Q'
  | [], h, acc, Q, Q', f, x => f _ _ x
  | d :: ds, h, acc, Q, Q', f, x => ht d h _ _ (fun o h' y => match o with
    | some z => (show _ ∧ _ from y).imp id (lcGo_mono ht ds h' _ Q Q' f)
    | none => lcGo_mono ht ds h' _ Q Q' f y) x
theorem asO_mono {e : E} {w : XP → Bool → VE → VH → QE → Prop} {K : XP} {env : VE} {vh : VH} {Q Q' : Op → VE → VH → Prop} (hw : ∀ Q Q' : QE, (∀ x e h, Q x e h → Q' x e h) → w K false env vh Q → w K false env vh Q') (f : ∀ x e h, Q x e h → Q' x e h)
    (h : asO e w K env vh Q) : asO e w K env vh Q' := by
  unfold asO at *
  split at h
  · exact ⟨h.1, f _ _ _ h.2⟩
  · exact hw _ _ (fun x e h => f _ _ _) h
mutual
theorem wpE_mono : ∀ (e : E) (K : XP) (t : Bool) (env : VE) (vh : VH) (Q Q' : QE), (∀ x e h, Q x e h → Q' x e h) → wpE Φ Γ e K t env vh Q → wpE Φ Γ e K t env vh Q'
  | .non, K, t, env, vh, Q, Q', f, h => fin_mono f h
  | .bl b, K, t, env, vh, Q, Q', f, h => fin_mono f h
  | .int i, K, t, env, vh, Q, Q', f, h => fin_mono f h
  | .str x, K, t, env, vh, Q, Q', f, h => fin_mono f h
  | .skip, K, t, env, vh, Q, Q', f, h => fin_mono f h
  | .var i, K, t, env, vh, Q, Q', f, h => by
    obtain ⟨s, h1, h2⟩ := h
    refine ⟨s, h1, ?_⟩
    cases s with
    | no => exact h2
    | val d => exact fin_mono f h2
    | own ds => exact fin_mono f h2
  | .bor i, K, true, env, vh, Q, Q', f, h => by
    obtain ⟨d, k, h1, h2, h3⟩ := h
    exact ⟨d, k, h1, h2, f _ _ _ h3⟩
  | .bor i, K, false, env, vh, Q, Q', f, h => h
  | .glo x, K, t, env, vh, Q, Q', f, h => by
    obtain ⟨d, h1, h3⟩ := h
    exact ⟨d, h1, fin_mono f h3⟩
  | .tup es, K, t, env, vh, Q, Q', f, h => wpEs_mono es K env vh _ _ (fun xs e1 h1 h => ⟨h.1, fin_mono f h.2⟩) h
  | .lst es, K, t, env, vh, Q, Q', f, h => wpEs_mono es K env vh _ _ (fun xs e1 h1 h => ⟨h.1, fin_mono f h.2⟩) h
  | .bin op a b, K, t, env, vh, Q, Q', f, h => asO_mono (wpE_mono a K false env vh) (fun x e1 h1 h => asO_mono (wpE_mono b K false e1 h1) (fun y e2 h2 h => by
      obtain ⟨c, d, p, q, r⟩ := h
      exact ⟨c, d, p, q, wpBin_mono (fun _ => fin_mono f) r⟩) h) h
  | .neg a, K, t, env, vh, Q, Q', f, h => wpE_mono a K false env vh _ _ (fun x e1 h1 h => by
      obtain ⟨i, p, r⟩ := h
      exact ⟨i, p, fin_mono f r⟩) h
  | .cmp op a b, K, t, env, vh, Q, Q', f, h => asO_mono (wpE_mono a K false env vh) (fun x e1 h1 h => asO_mono (wpE_mono b K false e1 h1) (fun y e2 h2 h => by
      obtain ⟨c, d, p, q, r⟩ := h
      exact ⟨c, d, p, q, wpCmp_mono (fun _ => f _ _ _) r⟩) h) h
  | .chain op op' a b c, K, t, env, vh, Q, Q', f, h => asO_mono (wpE_mono a K false env vh) (fun x e1 h1 h => asO_mono (wpE_mono b K false e1 h1) (fun y e2 h2 h => by
      obtain ⟨d, e, p, q, r⟩ := h
      exact ⟨d, e, p, q, wpCmp_mono (fun k => ifP_mono (asO_mono (wpE_mono c K false e2 h2) fun z e3 h3 h => by
        obtain ⟨g, i, p, q, r⟩ := h
        exact ⟨g, i, p, q, wpCmp_mono (fun _ => f _ _ _) r⟩) (f _ _ _)) r⟩) h) h
  | .and a b, K, true, env, vh, Q, Q', f, h => wpE_mono a K true env vh _ _ (fun x e1 h1 h => by
      obtain ⟨k, p, r⟩ := h
      exact ⟨k, p, ifP_mono (wpE_mono b K true e1 h1 _ _ f) (f _ _ _) r⟩) h
  | .and a b, K, false, env, vh, Q, Q', f, h => wpE_mono a K false env vh _ _ (fun x e1 h1 h => by
      obtain ⟨d, k, p, q, r⟩ := h
      exact ⟨d, k, p, q, ifP_mono (wpE_mono b K false e1 h1 _ _ f) (f _ _ _) r⟩) h
  | .or a b, K, true, env, vh, Q, Q', f, h => wpE_mono a K true env vh _ _ (fun x e1 h1 h => by
      obtain ⟨k, p, r⟩ := h
      exact ⟨k, p, ifP_mono (f _ _ _) (wpE_mono b K true e1 h1 _ _ f) r⟩) h
  | .or a b, K, false, env, vh, Q, Q', f, h => wpE_mono a K false env vh _ _ (fun x e1 h1 h => by
      obtain ⟨d, k, p, q, r⟩ := h
      exact ⟨d, k, p, q, ifP_mono (f _ _ _) (wpE_mono b K false e1 h1 _ _ f) r⟩) h
  | .not a, K, true, env, vh, Q, Q', f, h => wpE_mono a K true env vh _ _ (fun x e1 h1 h => by
      obtain ⟨k, p, r⟩ := h
      exact ⟨k, p, f _ _ _ r⟩) h
  | .not a, K, false, env, vh, Q, Q', f, h => asO_mono (wpE_mono a K false env vh) (fun x e1 h1 h => by
      obtain ⟨d, k, p, q, r⟩ := h
      exact ⟨d, k, p, q, f _ _ _ r⟩) h
  | .ite c a b, K, t, env, vh, Q, Q', f, h => wpE_mono c K true env vh _ _ (fun x e1 h1 h => by
      obtain ⟨k, p, r⟩ := h
      exact ⟨k, p, ifP_mono (wpE_mono a K t e1 h1 _ _ f) (wpE_mono b K t e1 h1 _ _ f) r⟩) h
  | .idx a i, K, t, env, vh, Q, Q', f, h => asO_mono (wpE_mono a K false env vh) (fun x e1 h1 h => asO_mono (wpE_mono i K false e1 h1) (fun y e2 h2 h => by
      obtain ⟨c, d, p, q, r⟩ := h
      exact ⟨c, d, p, q, wpIdx_mono (fun _ => fin_mono f) r⟩) h) h
  | .sli a lo hi, K, t, env, vh, Q, Q', f, h => asO_mono (wpE_mono a K false env vh) (fun x e1 h1 h => wpE_mono lo K false e1 h1 _ _ (fun y e2 h2 ⟨i, p, h⟩ => ⟨i, p, wpE_mono hi K false e2 h2 _ _ (fun z e3 h3 h => by
      obtain ⟨c, j, p, q, s⟩ := h
      exact ⟨c, j, p, q, wpSli_mono (fun _ => fin_mono f) s⟩) h⟩) h) h
  | .call g es, K, t, env, vh, Q, Q', f, h => wpEs_mono es K env vh _ _ (fun ds e1 h1 h => (Φ g).mono _ _ _ _ (fun o h2 y => match o with
      | .ok x => fin_mono f y
      | .exc c fs => y) h) h
  | .blt g es, K, t, env, vh, Q, Q', f, h => wpOs_mono es K env vh _ _ (fun ds e1 h1 h => by
      obtain ⟨c, p, r⟩ := h
      exact ⟨c, p, wpBlt_mono (fun _ => fin_mono f) r⟩) h
  | .isi a tys, K, t, env, vh, Q, Q', f, h => asO_mono (wpE_mono a K false env vh) (fun x e1 h1 h => by
      obtain ⟨c, d, p, q, o, r⟩ := h
      exact ⟨c, d, p, q, o, fin_mono f r⟩) h
  | .lc elt tg own k es cs, K, t, env, vh, Q, Q', f, h => wpEs_mono es K env vh _ _ (fun ds e1 h1 h => by
      obtain ⟨items, p, z, r⟩ := h
      refine ⟨items, p, z, lcGo_mono (fun d h R R' g y => ?_) _ _ _ _ _ (fun acc h2 => fin_mono f) r⟩
      obtain ⟨e2, q, y⟩ := y
      exact ⟨e2, q, wpTs_mono cs e2 h _ _ (fun b h3 => ifP_mono (wpE_mono elt _ false e2 h3 _ _ fun x e4 h4 z => ⟨z.1, g _ _ z.2⟩) (g _ _)) y⟩) h
  | .attr a g, K, t, env, vh, Q, Q', f, h => asO_mono (wpE_mono a K false env vh) (fun x e1 h1 h => by
      obtain ⟨d, p, r⟩ := h
      exact ⟨d, p, wpAttr_mono (fun _ => fin_mono f) r⟩) h
  | .dct ks es, K, t, env, vh, Q, Q', f, h => wpEs_mono es _ env vh _ _ (fun xs e1 h1 h => ⟨h.1, fin_mono f h.2⟩) h
theorem wpEs_mono : ∀ (es : List E) (K : XP) (env : VE) (vh : VH) (Q Q' : List D → VE → VH → Prop), (∀ x e h, Q x e h → Q' x e h) → wpEs Φ Γ es K env vh Q → wpEs Φ Γ es K env vh Q'
  | [], K, env, vh, Q, Q', f, h => f _ _ _ h
  | e :: es, K, env, vh, Q, Q', f, h => wpE_mono e K false env vh _ _ (fun x e1 h1 h => wpEs_mono es K e1 h1 _ _ (fun xs e2 h2 => f _ _ _) h) h
theorem wpOs_mono : ∀ (es : List E) (K : XP) (env : VE) (vh : VH) (Q Q' : List Op → VE → VH → Prop), (∀ x e h, Q x e h → Q' x e h) → wpOs Φ Γ es K env vh Q → wpOs Φ Γ es K env vh Q'
  | [], K, env, vh, Q, Q', f, h => f _ _ _ h
  | e :: es, K, env, vh, Q, Q', f, h => asO_mono (wpE_mono e K false env vh) (fun x e1 h1 h => wpOs_mono es K e1 h1 _ _ (fun xs e2 h2 => f _ _ _) h) h
theorem wpTs_mono : ∀ (es : List E) (env : VE) (vh : VH) (Q Q' : Bool → VH → Prop), (∀ b h, Q b h → Q' b h) → wpTs Φ Γ es env vh Q → wpTs Φ Γ es env vh Q'
  | [], env, vh, Q, Q', f, h => f _ _ h
  | [c], env, vh, Q, Q', f, h => wpE_mono c _ true env vh _ _ (fun x e1 h1 h => by
      obtain ⟨q, k, p, r⟩ := h
      exact ⟨q, k, p, f _ _ r⟩) h
  | _ :: _ :: _, env, vh, Q, Q', f, h => h
end
def KLe (K K' : XP) : Prop := ∀ c xs e h, K c xs e h → K' c xs e h
theorem asO_monoK {e : E} {w : XP → Bool → VE → VH → QE → Prop} {K K' : XP} {env : VE} {vh : VH} {Q Q' : Op → VE → VH → Prop} (hw : ∀ Q Q' : QE, (∀ x e h, Q x e h → Q' x e h) → w K false env vh Q → w K' false env vh Q') (f : ∀ x e h, Q x e h → Q' x e h)
    (h : asO e w K env vh Q) : asO e w K' env vh Q' := by
  unfold asO at *
  split at h
  · exact ⟨h.1, f _ _ _ h.2⟩
  · exact hw _ _ (fun x e h => f _ _ _) h
mutual
theorem wpE_monoK : ∀ (e : E) (K K' : XP) (t : Bool) (env : VE) (vh : VH) (Q Q' : QE), KLe K K' → (∀ x e h, Q x e h → Q' x e h) → wpE Φ Γ e K t env vh Q → wpE Φ Γ e K' t env vh Q'
  | .non, K, K', t, env, vh, Q, Q', l, f, h => fin_mono f h
  | .bl b, K, K', t, env, vh, Q, Q', l, f, h => fin_mono f h
  | .int i, K, K', t, env, vh, Q, Q', l, f, h => fin_mono f h
  | .str x, K, K', t, env, vh, Q, Q', l, f, h => fin_mono f h
  | .skip, K, K', t, env, vh, Q, Q', l, f, h => fin_mono f h
  | .var i, K, K', t, env, vh, Q, Q', l, f, h => by
    obtain ⟨s, h1, h2⟩ := h
    refine ⟨s, h1, ?_⟩
    cases s with
    | no => exact h2
    | val d => exact fin_mono f h2
    | own ds => exact fin_mono f h2
  | .bor i, K, K', true, env, vh, Q, Q', l, f, h => by
    obtain ⟨d, k, h1, h2, h3⟩ := h
    exact ⟨d, k, h1, h2, f _ _ _ h3⟩
  | .bor i, K, K', false, env, vh, Q, Q', l, f, h => h
  | .glo x, K, K', t, env, vh, Q, Q', l, f, h => by
    obtain ⟨d, h1, h3⟩ := h
    exact ⟨d, h1, fin_mono f h3⟩
  | .tup es, K, K', t, env, vh, Q, Q', l, f, h => wpEs_monoK es K K' env vh _ _ l (fun xs e1 h1 h => ⟨h.1, fin_mono f h.2⟩) h
  | .lst es, K, K', t, env, vh, Q, Q', l, f, h => wpEs_monoK es K K' env vh _ _ l (fun xs e1 h1 h => ⟨h.1, fin_mono f h.2⟩) h
  | .bin op a b, K, K', t, env, vh, Q, Q', l, f, h => asO_monoK (fun Q Q' f => wpE_monoK a K K' false env vh Q Q' l f) (fun x e1 h1 h => asO_monoK (fun Q Q' f => wpE_monoK b K K' false e1 h1 Q Q' l f) (fun y e2 h2 h => by
      obtain ⟨c, d, p, q, r⟩ := h
      exact ⟨c, d, p, q, wpBin_mono (fun _ => fin_mono f) r⟩) h) h
  | .neg a, K, K', t, env, vh, Q, Q', l, f, h => wpE_monoK a K K' false env vh _ _ l (fun x e1 h1 h => by
      obtain ⟨i, p, r⟩ := h
      exact ⟨i, p, fin_mono f r⟩) h
  | .cmp op a b, K, K', t, env, vh, Q, Q', l, f, h => asO_monoK (fun Q Q' f => wpE_monoK a K K' false env vh Q Q' l f) (fun x e1 h1 h => asO_monoK (fun Q Q' f => wpE_monoK b K K' false e1 h1 Q Q' l f) (fun y e2 h2 h => by
      obtain ⟨c, d, p, q, r⟩ := h
      exact ⟨c, d, p, q, wpCmp_mono (fun _ => f _ _ _) r⟩) h) h
  | .chain op op' a b c, K, K', t, env, vh, Q, Q', l, f, h => asO_monoK (fun Q Q' f => wpE_monoK a K K' false env vh Q Q' l f) (fun x e1 h1 h => asO_monoK (fun Q Q' f => wpE_monoK b K K' false e1 h1 Q Q' l f) (fun y e2 h2 h => by
      obtain ⟨d, e, p, q, r⟩ := h
      exact ⟨d, e, p, q, wpCmp_mono (fun k => ifP_mono (asO_monoK (fun Q Q' f => wpE_monoK c K K' false e2 h2 Q Q' l f) fun z e3 h3 h => by
        obtain ⟨g, i, p, q, r⟩ := h
        exact ⟨g, i, p, q, wpCmp_mono (fun _ => f _ _ _) r⟩) (f _ _ _)) r⟩) h) h
  | .and a b, K, K', true, env, vh, Q, Q', l, f, h => wpE_monoK a K K' true env vh _ _ l (fun x e1 h1 h => by
      obtain ⟨k, p, r⟩ := h
      exact ⟨k, p, ifP_mono (wpE_monoK b K K' true e1 h1 _ _ l f) (f _ _ _) r⟩) h
  | .and a b, K, K', false, env, vh, Q, Q', l, f, h => wpE_monoK a K K' false env vh _ _ l (fun x e1 h1 h => by
      obtain ⟨d, k, p, q, r⟩ := h
      exact ⟨d, k, p, q, ifP_mono (wpE_monoK b K K' false e1 h1 _ _ l f) (f _ _ _) r⟩) h
  | .or a b, K, K', true, env, vh, Q, Q', l, f, h => wpE_monoK a K K' true env vh _ _ l (fun x e1 h1 h => by
      obtain ⟨k, p, r⟩ := h
      exact ⟨k, p, ifP_mono (f _ _ _) (wpE_monoK b K K' true e1 h1 _ _ l f) r⟩) h
  | .or a b, K, K', false, env, vh, Q, Q', l, f, h => wpE_monoK a K K' false env vh _ _ l (fun x e1 h1 h => by
      obtain ⟨d, k, p, q, r⟩ := h
      exact ⟨d, k, p, q, ifP_mono (f _ _ _) (wpE_monoK b K K' false e1 h1 _ _ l f) r⟩) h
  | .not a, K, K', true, env, vh, Q, Q', l, f, h => wpE_monoK a K K' true env vh _ _ l (fun x e1 h1 h => by
      obtain ⟨k, p, r⟩ := h
      exact ⟨k, p, f _ _ _ r⟩) h
  | .not a, K, K', false, env, vh, Q, Q', l, f, h => asO_monoK (fun Q Q' f => wpE_monoK a K K' false env vh Q Q' l f) (fun x e1 h1 h => by
      obtain ⟨d, k, p, q, r⟩ := h
      exact ⟨d, k, p, q, f _ _ _ r⟩) h
  | .ite c a b, K, K', t, env, vh, Q, Q', l, f, h => wpE_monoK c K K' true env vh _ _ l (fun x e1 h1 h => by
      obtain ⟨k, p, r⟩ := h
      exact ⟨k, p, ifP_mono (wpE_monoK a K K' t e1 h1 _ _ l f) (wpE_monoK b K K' t e1 h1 _ _ l f) r⟩) h
  | .idx a i, K, K', t, env, vh, Q, Q', l, f, h => asO_monoK (fun Q Q' f => wpE_monoK a K K' false env vh Q Q' l f) (fun x e1 h1 h => asO_monoK (fun Q Q' f => wpE_monoK i K K' false e1 h1 Q Q' l f) (fun y e2 h2 h => by
      obtain ⟨c, d, p, q, r⟩ := h
      exact ⟨c, d, p, q, wpIdx_mono (fun _ => fin_mono f) r⟩) h) h
  | .sli a lo hi, K, K', t, env, vh, Q, Q', l, f, h => asO_monoK (fun Q Q' f => wpE_monoK a K K' false env vh Q Q' l f) (fun x e1 h1 h => wpE_monoK lo K K' false e1 h1 _ _ l (fun y e2 h2 ⟨i, p, h⟩ => ⟨i, p, wpE_monoK hi K K' false e2 h2 _ _ l (fun z e3 h3 h => by
      obtain ⟨c, j, p, q, s⟩ := h
      exact ⟨c, j, p, q, wpSli_mono (fun _ => fin_mono f) s⟩) h⟩) h) h
  | .call g es, K, K', t, env, vh, Q, Q', l, f, h => wpEs_monoK es K K' env vh _ _ l (fun ds e1 h1 h => (Φ g).mono _ _ _ _ (fun o h2 y => match o with
      | .ok x => fin_mono f y
      | .exc c fs => l _ _ _ _ y) h) h
  | .blt g es, K, K', t, env, vh, Q, Q', l, f, h => wpOs_monoK es K K' env vh _ _ l (fun ds e1 h1 h => by
      obtain ⟨c, p, r⟩ := h
      exact ⟨c, p, wpBlt_mono (fun _ => fin_mono f) r⟩) h
  | .isi a tys, K, K', t, env, vh, Q, Q', l, f, h => asO_monoK (fun Q Q' f => wpE_monoK a K K' false env vh Q Q' l f) (fun x e1 h1 h => by
      obtain ⟨c, d, p, q, o, r⟩ := h
      exact ⟨c, d, p, q, o, fin_mono f r⟩) h
  | .lc elt tg own k es cs, K, K', t, env, vh, Q, Q', l, f, h => wpEs_monoK es K K' env vh _ _ l (fun ds e1 h1 h => by
      obtain ⟨items, p, z, r⟩ := h
      refine ⟨items, p, z, lcGo_mono (fun d h R R' g y => ?_) _ _ _ _ _ (fun acc h2 => fin_mono f) r⟩
      obtain ⟨e2, q, y⟩ := y
      exact ⟨e2, q, wpTs_mono cs e2 h _ _ (fun b h3 => ifP_mono (wpE_mono elt _ false e2 h3 _ _ fun x e4 h4 z => ⟨z.1, g _ _ z.2⟩) (g _ _)) y⟩) h
  | .attr a g, K, K', t, env, vh, Q, Q', l, f, h => asO_monoK (fun Q Q' f => wpE_monoK a K K' false env vh Q Q' l f) (fun x e1 h1 h => by
      obtain ⟨d, p, r⟩ := h
      exact ⟨d, p, wpAttr_mono (fun _ => fin_mono f) r⟩) h
  | .dct ks es, K, K', t, env, vh, Q, Q', l, f, h => wpEs_mono es _ env vh _ _ (fun xs e1 h1 h => ⟨h.1, fin_mono f h.2⟩) h
theorem wpEs_monoK : ∀ (es : List E) (K K' : XP) (env : VE) (vh : VH) (Q Q' : List D → VE → VH → Prop), KLe K K' → (∀ x e h, Q x e h → Q' x e h) → wpEs Φ Γ es K env vh Q → wpEs Φ Γ es K' env vh Q'
  | [], K, K', env, vh, Q, Q', l, f, h => f _ _ _ h
  | e :: es, K, K', env, vh, Q, Q', l, f, h => wpE_monoK e K K' false env vh _ _ l (fun x e1 h1 h => wpEs_monoK es K K' e1 h1 _ _ l (fun xs e2 h2 => f _ _ _) h) h
theorem wpOs_monoK : ∀ (es : List E) (K K' : XP) (env : VE) (vh : VH) (Q Q' : List Op → VE → VH → Prop), KLe K K' → (∀ x e h, Q x e h → Q' x e h) → wpOs Φ Γ es K env vh Q → wpOs Φ Γ es K' env vh Q'
  | [], K, K', env, vh, Q, Q', l, f, h => f _ _ _ h
  | e :: es, K, K', env, vh, Q, Q', l, f, h => asO_monoK (fun Q Q' f => wpE_monoK e K K' false env vh Q Q' l f) (fun x e1 h1 h => wpOs_monoK es K K' e1 h1 _ _ l (fun xs e2 h2 => f _ _ _) h) h
end
end
end R

set_option autoImplicit false
namespace R
open PySem PySem.Spec PyProof.Rows L2
open PySem.SeqAt
open PySem.AutoSeq1 (wpAny_loadPart')
open PySem.MeetsSeq PySem.MeetsSeq2 PySem.MeetsSeq3
theorem tuple_mul1 (l : Addr) (items : Array Value) (n : Nat) (dd : Option Addr) (sl : Array (Option Value)) (x : Int) (u : Tok) (c0 : (decide (x < -(2 ^ 63)) || decide (x ≥ 2 ^ 63)) = false) (c1 : (items.isEmpty || x == 1) = true) :
    Meets (Builtin.«tuple.__mul__» ⟨[.ref l, .int x u], []⟩) (fun _ R s => s.heap.get? l = some { cls := .type "tuple", dict := dd, data := .seq items n, slots := sl } ∧
      R (.ok (.ret (Value.ref l))) s) :=
  .of_wp fun prog w A R s h => by
    obtain ⟨hp, g, d, tk, os⟩ := s
    obtain ⟨hl, h⟩ := h
    have f1 := AutoSeq1.idx_int
    wp_walk using wpAny_loadPart' hl
    repeat (first
      | (refine wpAny_ite_false (decide_eq_false (by rw [c0]; exact Bool.false_ne_true)) ?_; wp_walk using wpAny_loadPart' hl)
      | (refine wpAny_ite_true (decide_eq_true c1) ?_; wp_walk using wpAny_loadPart' hl))
    exact ⟨_, rfl, h⟩

theorem list_extend_tup (l : Addr) (items : Array Value) (n : Nat) (b : Addr) (items2 : Array Value) (n2 : Nat) (dd : Option Addr) (sl : Array (Option Value)) (h0 : ¬(!items.isEmpty && Builtin.List.listTooLong (items.size + items2.size)) = true) (h1 : items.size ≤ sizeLine) (h2 : items.size + items2.size ≤ sizeLine + 1) :
    Meets (Builtin.«list.extend» ⟨[.ref l, .ref b], []⟩) (fun _ R s => s.heap.get? l = some { cls := .type "list", data := .seq items n } ∧ s.heap.get? b = some { cls := .type "tuple", dict := dd, data := .seq items2 n2, slots := sl } ∧
      R (.ok (.ret Value.none)) { s with heap := s.heap.update l (Obj.mapSeq fun x => x ++ items2), toks := s.toks }) :=
  .of_wp fun prog w A R s h => by
    obtain ⟨hp, g, d, tk, os⟩ := s
    obtain ⟨hl, hb, h⟩ := h
    have f1 := AutoSeq1.idx_int
    have f2 := AutoSeq1.sub_tuple_tuple
    have f5 := AutoSeq1.sub_list_tuple
    have f3 := AutoSeq1.sub_list_list
    have f4 := AutoSeq1.sub_tuple_list
    have hz : (items ++ items2).size ≤ sizeLine + 1 := by rw [Array.size_append]; exact h2
    wp_walk using (wpAny_updateSeq hl rfl (hz := h1) (_hz' := hz)), wpAny_loadPart' hl, wpAny_loadPart' hb
    exact ⟨_, rfl, h⟩

def rRepA (K : PySem.W.Frag) : R2 := fun x y H Q => ∃ l k xs, x = .ref l ∧ y = .int k ∧ SqT K H l xs ∧ 1 ≤ k ∧ k ≤ 1000 ∧ xs.length ≤ 1000 ∧ (xs = [] ∨ k = 1 → Q (.ref l) H) ∧ (xs ≠ [] → 2 ≤ k → ∀ p, H p = none → Q (.ref p) (upd H p (.tup (List.replicate k.toNat xs).flatten)))
theorem op_repA {X : Cx} : OpR X (binaryOp .Mult) (rRepA X.K) := by
  intro pins s σ H x y v u Q I rx ry h
  obtain ⟨l, k, xs, rfl, rfl, hT, h1, h2, hz, q1, q2⟩ := h
  by_cases hs : xs = [] ∨ k = 1
  · cases rx
    obtain ⟨t, rfl⟩ := ry
    obtain ⟨its, r, ⟨⟨cls, dd, data, sl⟩, ho, hc, n, hd⟩, hzz⟩ := I.tuple hT
    simp only at hc hd
    subst hc hd
    have c0 : (decide (k < -(2 ^ 63)) || decide (k ≥ 2 ^ 63)) = false := by
      rw [decide_eq_false (by omega), decide_eq_false (by omega)] <;> rfl
    have c1 : (its.toArray.isEmpty || k == 1) = true := by
      rcases hs with e | e
      · subst e
        cases r
        rfl
      · rw [e]; simp
    refine wpAny_binaryOp_repeat_ref (T := "tuple") (U := "int") (by decide) ⟨_, ho, rfl⟩ (fun s' => typeIs_int s' k t) noFill_tuple_mul F.fills_int_mul F.slot_int_rmul repeat_tuple F.slot_int_index.lookup
      (call_meets F.slot_int_rmul (typeIs_int s k t) F.entry_int_rmul (F.args_int_rmul_2 _ _) (int_rmul_tuple k t l its.toArray n dd sl)
        ⟨ho, rfl, ⟨_, ho, rfl⟩, call_meets F.slot_tuple_mul ⟨_, ho, rfl⟩ F.entry_tuple_mul (F.args_tuple_mul_2 _ _) (tuple_mul1 l its.toArray n dd sl k t c0 c1) ⟨ho, ?_⟩⟩)
    exact ⟨.ref l, H, I, rfl, q1 hs⟩
  · have n1 : xs ≠ [] := fun e => hs (.inl e)
    have n2 : 2 ≤ k := by
      have : k ≠ 1 := fun e => hs (.inr e)
      omega
    exact op_repT pins s σ H _ _ v u Q I rx ry ⟨l, k, xs, rfl, rfl, hT, n1, n2, h2, hz, q2 n1 n2⟩

/-! ### what operations on data give -/
/-- read for its items alone -/
def RW (G : Wd) (Z : Addr → Prop) (ρ : List Addr) (H : Hp) : D → V → Prop
  | .lst xs, v => ∃ a vs, v = .ref a ∧ H a = some (.lst vs) ∧ RDs G Z ρ H xs vs
  | .dct ks xs, v => ∃ a ws vs, v = .ref a ∧ H a = some (.dK ws) ∧ ws.map (·.1) = ks ∧ ws.map (·.2) = vs ∧ RDs G Z ρ H xs vs
  | d, v => RD G Z ρ H d v
theorem RD.w {G : Wd} {Z : Addr → Prop} {ρ : List Addr} {H : Hp} : ∀ {d : D} {v : V}, RD G Z ρ H d v → RW G Z ρ H d v
  | .lst xs, v, h => by obtain ⟨a, vs, e, _, h1, h2⟩ := h; exact ⟨a, vs, e, h1, h2⟩
  | .dct ks xs, v, h => by obtain ⟨a, ws, vs, e, _, h1, e1, e2, h2⟩ := h; exact ⟨a, ws, vs, e, h1, e1, e2, h2⟩
  | .non, _, h => h
  | .bl _, _, h => h
  | .int _, _, h => h
  | .str _, _, h => h
  | .ty _, _, h => h
  | .adr _, _, h => h
  | .tup _, _, h => h
  | .obj _ _ _, _, h => h
  | .ref _, _, h => h
  | .scr _, _, h => h
/-- a new value -/
def OutV (G : Wd) (Z : Addr → Prop) (ρ : List Addr) (H : Hp) (z : DV) (v : V) (H' : Hp) : Prop := match z with
  | .v d => Same H H' ∧ RD G Z ρ H' d v
  | .fr ds => ∃ p vs, v = .ref p ∧ H p = none ∧ H' = upd H p (.lst vs) ∧ RDs G Z ρ H ds vs
section
variable {X : Cx} {G : Wd} {Z : Addr → Prop} {ρ : List Addr}
theorem out_flat {H : Hp} {d : D} {v : V} {Q : VK} (q : ∀ v H', OutV G Z ρ H (.v d) v H' → Q v H') (h : RD G Z ρ H d v) : Q v H := q v H ⟨Same.refl H, h⟩
theorem out_tup {H : Hp} {p : Addr} {ds : List D} {vs : List V} (hp : H p = none) (h : RDs G Z ρ H ds vs) : OutV G Z ρ H (.v (.tup ds)) (.ref p) (upd H p (.tup vs)) := by
  have s := same_new (o := .tup vs) hp
  exact ⟨s, p, vs, rfl, .of upd_same, RDs.move (Mv.same s) _ _ h⟩
theorem out_lst {H : Hp} {p : Addr} {ds : List D} {vs : List V} (hp : H p = none) (h : RDs G Z ρ H ds vs) : OutV G Z ρ H (.fr ds) (.ref p) (upd H p (.lst vs)) := ⟨p, vs, rfl, hp, rfl, h⟩
theorem flat_nil {H : Hp} {ds : List D} {vs : List V} (h : RDs G Z ρ H ds vs) : vs = [] ↔ ds = [] := by
  have := h.length
  constructor
  · intro e; subst e; exact List.eq_nil_of_length_eq_zero this
  · intro e; subst e; exact List.eq_nil_of_length_eq_zero this.symm
theorem RDs.rep {H : Hp} {ds : List D} {vs : List V} (h : RDs G Z ρ H ds vs) : ∀ n : Nat, RDs G Z ρ H (List.replicate n ds).flatten (List.replicate n vs).flatten
  | 0 => rfl
  | n + 1 => by
    rw [List.replicate_succ, List.replicate_succ, List.flatten_cons, List.flatten_cons]
    exact h.append (RDs.rep h n)
theorem op_bin (hK : X.K = G.K) {op : Operator} : OpR X (binaryOp op) (fun x y H Q => ∃ Z ρ c d, RW G Z ρ H c x ∧ RW G Z ρ H d y ∧ wpBin op c d fun z => ∀ v H', OutV G Z ρ H z v H' → Q v H') := by
  rintro pins s σ H x y v u Q I rx ry ⟨Z, ρ, c, d, hc, hd, q⟩
  unfold wpBin at q
  split at q
  · cases (show x = _ from hc); cases (show y = _ from hd)
    exact op_add pins s σ H _ _ v u Q I rx ry ⟨_, _, rfl, rfl, out_flat q rfl⟩
  · cases (show x = _ from hc); cases (show y = _ from hd)
    exact op_add_str pins s σ H _ _ v u Q I rx ry ⟨_, _, rfl, rfl, by rw [sizeLine_eq]; exact q.1, out_flat q.2 rfl⟩
  · obtain ⟨a, vs, rfl, h1, h2⟩ := hc
    obtain ⟨b, ws, rfl, h3, h4⟩ := hd
    obtain ⟨hz, q⟩ := q
    refine op_catA pins s σ H _ _ v u Q I rx ry ⟨a, b, vs, ws, rfl, rfl, by rw [hK]; exact h1, by rw [hK]; exact h3, by rw [sizeLine_eq, ← h2.length, ← h4.length]; exact hz, fun e => ?_, fun _ e => ?_, fun _ _ p hp => ?_⟩
    · rw [(flat_nil h2).mp e] at q
      exact out_flat q ⟨b, ws, rfl, h3, h4⟩
    · rw [(flat_nil h4).mp e] at q
      exact out_flat q ⟨a, vs, rfl, h1, by rw [List.append_nil]; exact h2⟩
    · exact q _ _ (out_tup hp (h2.append h4))
  · obtain ⟨a, vs, rfl, h1, h2⟩ := hc
    obtain ⟨b, ws, rfl, h3, h4⟩ := hd
    exact op_cat pins s σ H _ _ v u Q I rx ry ⟨a, b, vs, ws, rfl, rfl, h1, h3, by rw [sizeLine_eq, ← h2.length, ← h4.length]; exact q.1, fun p hp => q.2 _ _ (out_lst hp (h2.append h4))⟩
  · cases (show x = _ from hc); cases (show y = _ from hd)
    exact op_sub pins s σ H _ _ v u Q I rx ry ⟨_, _, rfl, rfl, out_flat q rfl⟩
  · cases (show x = _ from hc); cases (show y = _ from hd)
    rcases q.1 with w | w | w
    · exact op_mul pins s σ H _ _ v u Q I rx ry ⟨_, _, rfl, rfl, .inl w, out_flat q.2 rfl⟩
    · exact op_mul pins s σ H _ _ v u Q I rx ry ⟨_, _, rfl, rfl, .inr w, out_flat q.2 rfl⟩
    · exact op_mulW pins s σ H _ _ v u Q I rx ry ⟨_, _, rfl, rfl, w, out_flat q.2 rfl⟩
  · cases (show x = _ from hc); cases (show y = _ from hd)
    obtain ⟨t, rfl⟩ := rx
    obtain ⟨t2, rfl⟩ := ry
    exact SB.mul q.1 fun t' k => ⟨.str _, H, I.tok _, ⟨_, rfl⟩, out_flat q.2 rfl⟩
  · obtain ⟨a, vs, rfl, h1, h2⟩ := hc
    cases (show y = _ from hd)
    obtain ⟨k0, k1, kz, q⟩ := q
    refine op_repA pins s σ H _ _ v u Q I rx ry ⟨a, _, vs, rfl, rfl, by rw [hK]; exact h1, k0, k1, by rw [← h2.length]; exact kz, fun e => ?_, fun _ _ p hp => ?_⟩
    · refine out_flat q ⟨a, vs, rfl, h1, ?_⟩
      rcases e with e | e
      · subst e
        have e0 := (flat_nil h2).mp rfl
        subst e0
        rw [show (List.replicate (Int.toNat _) ([] : List D)).flatten = [] from by simp]
        exact rfl
      · subst e
        simpa using h2
    · exact q _ _ (out_tup hp (h2.rep _))
  · cases (show x = _ from hc); cases (show y = _ from hd)
    exact op_fdivW pins s σ H _ _ v u Q I rx ry ⟨_, _, rfl, rfl, q.1, out_flat q.2 rfl⟩
  · cases (show x = _ from hc); cases (show y = _ from hd)
    exact op_mod pins s σ H _ _ v u Q I rx ry ⟨_, _, rfl, rfl, q.1, out_flat q.2 rfl⟩
  · cases (show x = _ from hc); cases (show y = _ from hd)
    exact op_pow pins s σ H _ _ v u Q I rx ry ⟨_, _, rfl, rfl, q.1, out_flat q.2 rfl⟩
  · exact q.elim

/-! ### equality -/
mutual
def toP : D → PyData
  | .bl b => .bool b
  | .int i => .int i
  | .str x => .str x
  | .lst xs => .list (toPs xs)
  | .tup xs => .tuple (toPs xs)
  | _ => .none
def toPs : List D → List PyData
  | [] => []
  | x :: xs => toP x :: toPs xs
end
mutual
theorem okD_lay : ∀ (n : Nat) (d : D), okD n d = true → (toP d).canLay0 = true ∧ (toP d).depth ≤ n
  | n, .non, h => ⟨by simp only [toP, PyData.canLay0], by simp only [toP, PyData.depth]; exact Nat.zero_le _⟩
  | n, .bl b, h => ⟨by simp only [toP, PyData.canLay0], by simp only [toP, PyData.depth]; exact Nat.zero_le _⟩
  | n, .int b, h => ⟨by simp only [toP, PyData.canLay0], by simp only [toP, PyData.depth]; exact Nat.zero_le _⟩
  | n, .str x, h => ⟨by simpa only [toP, okD] using h, by simp only [toP, PyData.depth]; exact Nat.zero_le _⟩
  | n + 1, .lst xs, h => by
    have := okDs_lay n xs (by simpa only [okD] using h)
    simp only [toP, PyData.canLay0, PyData.depth]
    exact ⟨this.1, by omega⟩
  | n + 1, .tup xs, h => by
    have := okDs_lay n xs (by simpa only [okD] using h)
    simp only [toP, PyData.canLay0, PyData.depth]
    exact ⟨this.1, by omega⟩
  | 0, .lst xs, h => by simp [okD] at h
  | 0, .tup xs, h => by simp [okD] at h
  | n, .ty _, h => by simp [okD] at h
  | n, .adr _, h => by simp [okD] at h
  | n, .dct _ _, h => by simp [okD] at h
  | n, .obj _ _ _, h => by simp [okD] at h
  | n, .ref _, h => by simp [okD] at h
  | n, .scr _, h => by simp [okD] at h
theorem okDs_lay : ∀ (n : Nat) (ds : List D), okDs n ds = true → PyData.canLayAll0 (toPs ds) = true ∧ PyData.depthAll (toPs ds) ≤ n
  | n, [], h => ⟨by simp only [toPs, PyData.canLayAll0], by simp only [toPs, PyData.depthAll]; exact Nat.zero_le _⟩
  | n, x :: xs, h => by
    have h' : okD n x = true ∧ okDs n xs = true := by simpa only [okDs, Bool.and_eq_true] using h
    have a := okD_lay n x h'.1
    have b := okDs_lay n xs h'.2
    simp only [toPs, PyData.canLayAll0, PyData.depthAll, Bool.and_eq_true]
    exact ⟨⟨a.1, b.1⟩, by omega⟩
end
mutual
theorem eqD_P : ∀ (n : Nat) (c d : D), okD n c = true → okD n d = true → PyData.eqv (toP c) (toP d) = eqD c d
  | n, .non, d, hc, hd => by cases d <;> first | rfl | (simp [okD] at hd; done) | (simp [okD, toP, eqD, PyData.eqv]; done)
  | n, .bl b, d, hc, hd => by cases d <;> first | rfl | (simp [okD] at hd; done) | (simp [okD, toP, eqD, PyData.eqv]; done)
  | n, .int b, d, hc, hd => by cases d <;> first | rfl | (simp [okD] at hd; done) | (simp [okD, toP, eqD, PyData.eqv]; done)
  | n, .str b, d, hc, hd => by cases d <;> first | rfl | (simp [okD] at hd; done) | (simp [okD, toP, eqD, PyData.eqv]; done)
  | n + 1, .lst xs, d, hc, hd => by
    cases d with
    | lst ys =>
      simp only [toP, eqD, PyData.eqv]
      exact eqDs_P n xs ys (by simpa only [okD] using hc) (by simpa only [okD] using hd)
    | _ => first | rfl | (simp [okD] at hd; done) | (simp [toP, eqD, PyData.eqv]; done)
  | n + 1, .tup xs, d, hc, hd => by
    cases d with
    | tup ys =>
      simp only [toP, eqD, PyData.eqv]
      exact eqDs_P n xs ys (by simpa only [okD] using hc) (by simpa only [okD] using hd)
    | _ => first | rfl | (simp [okD] at hd; done) | (simp [toP, eqD, PyData.eqv]; done)
  | 0, .lst xs, d, hc, hd => by simp [okD] at hc
  | 0, .tup xs, d, hc, hd => by simp [okD] at hc
  | n, .ty _, d, hc, hd => by simp [okD] at hc
  | n, .adr _, d, hc, hd => by simp [okD] at hc
  | n, .dct _ _, d, hc, hd => by simp [okD] at hc
  | n, .obj _ _ _, d, hc, hd => by simp [okD] at hc
  | n, .ref _, d, hc, hd => by simp [okD] at hc
  | n, .scr _, d, hc, hd => by simp [okD] at hc
theorem eqDs_P : ∀ (n : Nat) (xs ys : List D), okDs n xs = true → okDs n ys = true → PyData.eqvAll (toPs xs) (toPs ys) = eqDs xs ys
  | n, [], [], _, _ => by simp [toPs, PyData.eqvAll, eqDs]
  | n, [], _ :: _, _, _ => by simp [toPs, PyData.eqvAll, eqDs]
  | n, _ :: _, [], _, _ => by simp [toPs, PyData.eqvAll, eqDs]
  | n, x :: xs, y :: ys, hc, hd => by
    have h1 : okD n x = true ∧ okDs n xs = true := by simpa only [okDs, Bool.and_eq_true] using hc
    have h2 : okD n y = true ∧ okDs n ys = true := by simpa only [okDs, Bool.and_eq_true] using hd
    simp only [toPs, PyData.eqvAll, eqDs]
    rw [eqD_P n x y h1.1 h2.1, eqDs_P n xs ys h1.2 h2.2]
end
mutual
theorem RD.dp (hK : X.K = G.K) {H : Hp} : ∀ (n : Nat) (d : D) (v : V), okD n d = true → RW G Z ρ H d v → Dp X.K H v (toP d)
  | n, .non, v, h, r => by cases (show v = _ from r); exact .non
  | n, .bl b, v, h, r => by cases (show v = _ from r); exact .bl b
  | n, .int b, v, h, r => by cases (show v = _ from r); exact .int b
  | n, .str b, v, h, r => by cases (show v = _ from r); exact .str b
  | n + 1, .lst xs, v, h, r => by
    obtain ⟨a, vs, rfl, h1, h2⟩ := r
    exact .lst (.of h1) (RDs.dps hK n xs vs (by simpa only [okD] using h) h2)
  | n + 1, .tup xs, v, h, r => by
    obtain ⟨a, vs, rfl, h1, h2⟩ := r
    exact .tup (by rw [hK]; exact h1) (RDs.dps hK n xs vs (by simpa only [okD] using h) h2)
  | 0, .lst xs, v, h, r => by simp [okD] at h
  | 0, .tup xs, v, h, r => by simp [okD] at h
  | n, .ty _, v, h, r => by simp [okD] at h
  | n, .adr _, v, h, r => by simp [okD] at h
  | n, .dct _ _, v, h, r => by simp [okD] at h
  | n, .obj _ _ _, v, h, r => by simp [okD] at h
  | n, .ref _, v, h, r => by simp [okD] at h
  | n, .scr _, v, h, r => by simp [okD] at h
theorem RDs.dps (hK : X.K = G.K) {H : Hp} : ∀ (n : Nat) (ds : List D) (vs : List V), okDs n ds = true → RDs G Z ρ H ds vs → DpAll X.K H vs (toPs ds)
  | n, [], vs, h, r => by cases (show vs = [] from r); exact .nil
  | n, x :: xs, vs, h, r => by
    obtain ⟨v, w, rfl, h1, h2⟩ := r
    have h' : okD n x = true ∧ okDs n xs = true := by simpa only [okDs, Bool.and_eq_true] using h
    exact .cons (RD.dp hK n x v h'.1 h1.w) (RDs.dps hK n xs w h'.2 h2)
end
theorem shaped_ok {d : D} (h : okD 64 d = true) : SeqAt.shaped (toP d) = true := by
  have := okD_lay 64 d h
  unfold SeqAt.shaped
  rw [this.1, decide_eq_true this.2] <;> rfl
theorem is_off {v : V} {u : Value} {b : Bool} (r : RelV v u) (h : v ≠ .bl b) : plainIs u (.bool b) = true ∧ u ≠ .bool b := by
  cases v with
  | bl x =>
    cases r
    exact ⟨rfl, fun e => h (by cases e; rfl)⟩
  | _ =>
    first
      | (cases r; exact ⟨rfl, fun e => by cases e⟩)
      | (obtain ⟨t, rfl⟩ := r; exact ⟨rfl, fun e => by cases e⟩)
theorem op_isB : OpR X (compareOp .Is) (fun x y H Q => ∃ b, y = .bl b ∧ Q (.bl (decide (x = .bl b))) H) := by
  intro pins s σ H x y v u Q I rx ry h
  obtain ⟨b, rfl, q⟩ := h
  cases (show u = Value.bool b from ry)
  by_cases e : x = .bl b
  · subst e
    cases (show v = Value.bool b from rx)
    exact wpAny_is_self rfl ⟨.bl true, H, I, rfl, by simpa using q⟩
  · obtain ⟨h1, h2⟩ := is_off rx e
    exact wpAny_is_other h1 h2 ⟨.bl false, H, I, rfl, by simpa [e] using q⟩
theorem op_notB : OpR X (compareOp .IsNot) (fun x y H Q => ∃ b, y = .bl b ∧ Q (.bl (!decide (x = .bl b))) H) := by
  intro pins s σ H x y v u Q I rx ry h
  obtain ⟨b, rfl, q⟩ := h
  cases (show u = Value.bool b from ry)
  by_cases e : x = .bl b
  · subst e
    cases (show v = Value.bool b from rx)
    exact wpAny_isNot_self rfl ⟨.bl false, H, I, rfl, by simpa using q⟩
  · obtain ⟨h1, h2⟩ := is_off rx e
    exact wpAny_isNot_other h1 h2 ⟨.bl true, H, I, rfl, by simpa [e] using q⟩
theorem isB_eq {Z : Addr → Prop} {ρ : List Addr} {H : Hp} {c : D} {x : V} {b : Bool} (hc : RW G Z ρ H c x) : decide (x = V.bl b) = isB c b := by
  cases c <;> first
    | (cases (show x = _ from hc); rfl)
    | (cases (show x = _ from hc); simp [isB]; done)
    | (obtain ⟨a, vs, rfl, _⟩ := hc; rfl)
    | (obtain ⟨a, vs, vs', rfl, _⟩ := hc; rfl)
    | (obtain ⟨a, C, dx, ws, vs, rfl, _⟩ := hc; rfl)
    | (obtain ⟨a, _, rfl⟩ := hc; rfl)
    | (obtain ⟨a, rfl, _⟩ := hc; rfl)
theorem op_cmp (hK : X.K = G.K) (hu : X.A.units + 64 < cLine) {op : CmpOp} : OpR X (compareOp op) (fun x y H Q => ∃ Z ρ c d, RW G Z ρ H c x ∧ RW G Z ρ H d y ∧ wpCmp op c d fun k => Q (.bl k) H) := by
  rintro pins s σ H x y v u Q I rx ry ⟨Z, ρ, c, d, hc, hd, q⟩
  unfold wpCmp at q
  split at q
  · obtain ⟨o1, o2, q⟩ := q
    exact op_eqD hu pins s σ H _ _ v u Q I rx ry ⟨toP c, toP d, RD.dp hK 64 c x o1 hc, RD.dp hK 64 d y o2 hd, shaped_ok o1, shaped_ok o2, by rw [eqD_P 64 c d o1 o2]; exact q⟩
  · obtain ⟨o1, o2, q⟩ := q
    exact op_neD hu pins s σ H _ _ v u Q I rx ry ⟨toP c, toP d, RD.dp hK 64 c x o1 hc, RD.dp hK 64 d y o2 hd, shaped_ok o1, shaped_ok o2, by rw [eqD_P 64 c d o1 o2]; exact q⟩
  · cases (show x = _ from hc); cases (show y = _ from hd)
    exact op_lt pins s σ H _ _ v u Q I rx ry ⟨_, _, rfl, rfl, q⟩
  · cases (show x = _ from hc); cases (show y = _ from hd)
    exact op_le pins s σ H _ _ v u Q I rx ry ⟨_, _, rfl, rfl, q⟩
  · cases (show x = _ from hc); cases (show y = _ from hd)
    exact op_gt pins s σ H _ _ v u Q I rx ry ⟨_, _, rfl, rfl, q⟩
  · cases (show x = _ from hc); cases (show y = _ from hd)
    exact op_ge pins s σ H _ _ v u Q I rx ry ⟨_, _, rfl, rfl, q⟩
  · cases (show y = _ from hd)
    refine op_isN pins s σ H _ _ v u Q I rx ry ⟨rfl, ?_⟩
    have e : decide (x = V.non) = isNon c := by
      cases c <;> first
        | (cases (show x = _ from hc); rfl)
        | (obtain ⟨a, vs, rfl, _⟩ := hc; rfl)
        | (obtain ⟨a, vs, vs', rfl, _⟩ := hc; rfl)
        | (obtain ⟨a, C, dx, ws, vs, rfl, _⟩ := hc; rfl)
        | (obtain ⟨a, _, rfl⟩ := hc; rfl)
        | (obtain ⟨a, rfl, _⟩ := hc; rfl)
    rw [e]; exact q
  · cases (show y = _ from hd)
    refine op_notN pins s σ H _ _ v u Q I rx ry ⟨rfl, ?_⟩
    have e : (!decide (x = V.non)) = (!isNon c) := by
      cases c <;> first
        | (cases (show x = _ from hc); rfl)
        | (obtain ⟨a, vs, rfl, _⟩ := hc; rfl)
        | (obtain ⟨a, vs, vs', rfl, _⟩ := hc; rfl)
        | (obtain ⟨a, C, dx, ws, vs, rfl, _⟩ := hc; rfl)
        | (obtain ⟨a, _, rfl⟩ := hc; rfl)
        | (obtain ⟨a, rfl, _⟩ := hc; rfl)
    rw [e]; exact q
  · cases (show y = _ from hd)
    exact op_isB pins s σ H _ _ v u Q I rx ry ⟨_, rfl, by rw [isB_eq hc]; exact q⟩
  · cases (show y = _ from hd)
    exact op_notB pins s σ H _ _ v u Q I rx ry ⟨_, rfl, by rw [isB_eq hc]; exact q⟩
  · exact q.elim

/-! ### items, slices -/
theorem RDs.at {H : Hp} {ds : List D} {vs : List V} {i : Int} {d : D} (h : RDs G Z ρ H ds vs) (e : atI ds i = some d) : ∃ v, atI vs i = some v ∧ RD G Z ρ H d v := by
  unfold atI at *
  rw [← h.length]
  cases q : ixN ds.length i with
  | none => rw [q] at e; cases e
  | some j =>
    rw [q] at e
    exact h.get e
theorem RDs.cut {H : Hp} {ds : List D} {vs : List V} (h : RDs G Z ρ H ds vs) (lo hi : Option Int) : RDs G Z ρ H (cutL ds lo hi) (cutV vs lo hi) := by
  unfold cutL cutV
  rw [← h.length]
  exact (h.drop _).take _
theorem atI_map {α β : Type} {f : α → β} {xs : List α} {i : Int} {x : α} (h : atI xs i = some x) : atI (xs.map f) i = some (f x) := by
  unfold atI at *
  rw [List.length_map]
  cases q : ixN xs.length i with
  | none => rw [q] at h; cases h
  | some j =>
    rw [q] at h
    have h' : xs[j]? = some x := h
    show (xs.map f)[j]? = _
    rw [List.getElem?_map, h']
    rfl
theorem ix_d (hK : X.K = G.K) : IxR X (fun x y H Q => ∃ Z ρ c d, RW G Z ρ H c x ∧ RW G Z ρ H d y ∧ wpIdx c d fun z => ∀ v, RD G Z ρ H z v → Q v H) := by
  rintro val slice pins s σ H x y v u Q I rx ry ⟨Z, ρ, c, d, hc, hd, q⟩ hs
  unfold wpIdx at q
  split at q
  · obtain ⟨a, vs, rfl, h1, h2⟩ := hc
    cases (show y = _ from hd)
    obtain ⟨z, e, q⟩ := q
    obtain ⟨w, e2, h3⟩ := h2.at e
    exact ix_tup val slice pins s σ H _ _ v u Q I rx ry ⟨a, vs, _, w, rfl, rfl, by rw [hK]; exact h1, e2, q w h3⟩ hs
  · obtain ⟨a, vs, rfl, h1, h2⟩ := hc
    cases (show y = _ from hd)
    obtain ⟨z, e, q⟩ := q
    obtain ⟨w, e2, h3⟩ := h2.at e
    exact ix_list val slice pins s σ H _ _ v u Q I rx ry ⟨a, vs, _, w, rfl, rfl, .of h1, e2, q w h3⟩ hs
  · obtain ⟨a, rfl, h1⟩ := hc
    cases (show y = _ from hd)
    obtain ⟨z, e, q⟩ := q
    exact ix_list val slice pins s σ H _ _ v u Q I rx ry ⟨a, _, _, _, rfl, rfl, by rw [hK]; exact h1.sq, atI_map e, q _ rfl⟩ hs
  · cases (show x = _ from hc); cases (show y = _ from hd)
    obtain ⟨hz, z, e, q⟩ := q
    exact ix_str val slice pins s σ H _ _ v u Q I rx ry ⟨_, _, z, rfl, rfl, by rw [sizeLine_eq]; exact hz, e, q _ rfl⟩ hs
  · exact q.elim
theorem cutL_whole {α : Type} {xs : List α} {lo hi : Option Int} (h : HT.sIx xs.length 0 lo = 0 ∧ HT.sIx xs.length xs.length hi = xs.length) : cutL xs lo hi = xs := by
  unfold cutL
  rw [h.1, h.2, List.drop_zero, Nat.sub_zero, List.take_length]
theorem cut_ints {ns : List Int} (lo hi : Option Int) : cutV (ns.map V.int) lo hi = (cutL ns lo hi).map V.int := by
  unfold cutV cutL
  rw [List.length_map, List.map_take, List.map_drop]
theorem sl_d (hK : X.K = G.K) : SlR X (fun x lo hi H Q => ∃ Z ρ c, RW G Z ρ H c x ∧ wpSli c lo hi fun z => ∀ v H', OutV G Z ρ H z v H' → Q v H') := by
  rintro pins s σ H x v vl vu lo hi sl Q I rx hs pl pu ⟨Z, ρ, c, hc, q⟩
  unfold wpSli at q
  split at q
  · obtain ⟨a, vs, rfl, h1, h2⟩ := hc
    refine sl_tupA pins s σ H _ v vl vu lo hi sl Q I rx hs pl pu ⟨a, vs, rfl, by rw [hK]; exact h1, fun e => ?_, fun _ p hp => q _ _ (out_tup hp (h2.cut lo hi))⟩
    rw [← h2.length] at e
    rw [cutL_whole e] at q
    exact out_flat q ⟨a, vs, rfl, h1, h2⟩
  · obtain ⟨a, vs, rfl, h1, h2⟩ := hc
    exact sl_list pins s σ H _ v vl vu lo hi sl Q I rx hs pl pu ⟨a, vs, rfl, .of h1, fun p hp => q _ _ (out_lst hp (h2.cut lo hi))⟩
  · obtain ⟨a, rfl, h1⟩ := hc
    refine sl_list pins s σ H _ v vl vu lo hi sl Q I rx hs pl pu ⟨a, _, rfl, by rw [hK]; exact h1.sq, fun p hp => q _ _ (out_lst hp ?_)⟩
    rw [cut_ints]
    exact RDs.ints _
  · exact q.elim
end
end R

set_option autoImplicit false
namespace R
open PySem PySem.Spec PyProof.Rows L2
/-! ## R3: the parts of the small language are what the program's parts do -/
section
variable {X : Cx} {G : Wd} {Z : Addr → Prop} {ρ : List Addr}
/-! ### built-ins -/
def RWs (G : Wd) (Z : Addr → Prop) (ρ : List Addr) (H : Hp) : List D → List V → Prop
  | [], vs => vs = []
  | d :: ds, vs => ∃ v r, vs = v :: r ∧ RW G Z ρ H d v ∧ RWs G Z ρ H ds r
theorem RW.ty {H : Hp} (hK : X.K = G.K) : ∀ {d : D} {v : V} {n : String}, RW G Z ρ H d v → tyD d = some n → TyX X.K H v (.type n)
  | .non, v, n, h, e => by cases (show v = _ from h); cases e; exact .base .non
  | .bl b, v, n, h, e => by cases (show v = _ from h); cases e; exact .base (.bl b)
  | .int b, v, n, h, e => by cases (show v = _ from h); cases e; exact .base (.int b)
  | .str b, v, n, h, e => by cases (show v = _ from h); cases e; exact .base (.str b)
  | .tup xs, v, n, h, e => by
    cases e
    obtain ⟨a, vs, rfl, (h1 | ⟨o, h1⟩) | ⟨o, its, n, h1, h2, _⟩, _⟩ := h
    · exact .base (.tup h1)
    · exact .fTuple h1
    · exact .kTuple (by rw [hK]; exact h1) h2
  | .lst xs, v, n, h, e => by
    cases e
    obtain ⟨a, vs, rfl, h1, _⟩ := h
    exact .base (.lst h1)
  | .scr xs, v, n, h, e => by
    cases e
    obtain ⟨a, rfl, ⟨_, h1 | ⟨o, h1⟩⟩ | ⟨o, its, n, h1, h2, _⟩⟩ := h
    · exact .base (.lst h1)
    · exact .base (.frz h1)
    · exact .kList (by rw [hK]; exact h1) h2
  | .dct ks xs, v, n, h, e => by
    cases e
    obtain ⟨a, ws, vs, rfl, h1, _⟩ := h
    exact .base (.dK h1)
  | .ty _, v, n, h, e => by cases e
  | .adr _, v, n, h, e => by cases e
  | .obj _ _ _, v, n, h, e => by cases e
  | .ref _, v, n, h, e => by cases e
theorem kit_table : ((["NoneType", "bool", "int", "str", "tuple", "list", "dict"] : List String).all fun a => (["int", "bool", "str", "tuple", "list", "dict"] : List String).all fun b => kitB a b == some (isTy a b)) = true := by decide +kernel
theorem tyD_mem {d : D} {n : String} (e : tyD d = some n) : n ∈ (["NoneType", "bool", "int", "str", "tuple", "list", "dict"] : List String) := by
  cases d <;> cases e <;> simp
theorem okTy_mem {b : String} (h : okTy b = true) : b ∈ (["int", "bool", "str", "tuple", "list", "dict"] : List String) := by
  unfold okTy at h
  simp only [Bool.or_eq_true, beq_iff_eq] at h
  simp only [List.mem_cons]
  rcases h with ((((h | h) | h) | h) | h) | h <;> simp [h]
theorem kit_is {K : PySem.W.Frag} {d : D} {n b : String} (e : tyD d = some n) (h : okTy b = true) : PySem.W.kitOne K (.type n) (.type b) = some (isTy n b) := by
  have t := kit_table
  rw [List.all_eq_true] at t
  have t2 := t n (tyD_mem e)
  rw [List.all_eq_true] at t2
  exact kit_ty (eq_of_beq (t2 b (okTy_mem h)))
theorem kit_any {K : PySem.W.Frag} {d : D} {n : String} (e : tyD d = some n) : ∀ {bs : List String}, bs.all okTy = true → PySem.W.kitAny K (.type n) (bs.map Value.type) = some (bs.any (isTy n))
  | [], _ => rfl
  | b :: bs, h => by
    rw [List.all_cons, Bool.and_eq_true] at h
    rw [List.map_cons, List.any_cons]
    refine kitAny_cons (kit_is e h.1) (fun f => ?_) (fun f => ?_)
    · rw [f, Bool.false_or]; exact kit_any e h.2
    · rw [f, Bool.true_or]

def bltV : Bf → Value
  | .len => .builtin "len"
  | .int => .type "int"
  | .bool => .type "bool"
  | .str => .type "str"
  | .tuple => .type "tuple"
  | .list => .type "list"
  | .abs => .builtin "abs"
  | .min2 => .builtin "min"
  | .max2 => .builtin "max"
  | .sum => .builtin "sum"
  | .all => .builtin "all"
  | .any => .builtin "any"
  | .sorted => .builtin "sorted"
  | .min1 => .builtin "min"
  | .max1 => .builtin "max"
def bltN : Bf → Str
  | .len => "len"
  | .int => "int"
  | .bool => "bool"
  | .str => "str"
  | .tuple => "tuple"
  | .list => "list"
  | .abs => "abs"
  | .min2 => "min"
  | .max2 => "max"
  | .sum => "sum"
  | .all => "all"
  | .any => "any"
  | .sorted => "sorted"
  | .min1 => "min"
  | .max1 => "max"
theorem RWs.one {H : Hp} {d : D} {vs : List V} (h : RWs G Z ρ H [d] vs) : ∃ v, vs = [v] ∧ RW G Z ρ H d v := by
  obtain ⟨v, r, rfl, h1, h2⟩ := h
  cases (show r = [] from h2)
  exact ⟨v, rfl, h1⟩
theorem RWs.two {H : Hp} {d e : D} {vs : List V} (h : RWs G Z ρ H [d, e] vs) : ∃ v w, vs = [v, w] ∧ RW G Z ρ H d v ∧ RW G Z ρ H e w := by
  obtain ⟨v, r, rfl, h1, h2⟩ := h
  obtain ⟨w, rfl, h3⟩ := RWs.one h2
  exact ⟨v, w, rfl, h1, h3⟩
theorem call_d (hK : X.K = G.K) (hc : X.calm = true) (f : Bf) : CallR X (bltV f) (fun xs H Q => ∃ Z ρ ds, RWs G Z ρ H ds xs ∧ wpBlt f ds fun z => ∀ v H', OutV G Z ρ H z v H' → Q v H') := by
  rintro pins s σ H xs us Q I r ⟨Z, ρ, ds, hd, q⟩
  unfold wpBlt at q
  split at q
  · obtain ⟨v, rfl, a, vs, rfl, h1, h2⟩ := hd.one
    exact call_len pins s σ H _ us Q I r ⟨_, _, rfl, .inr ⟨vs, by rw [hK]; exact h1, h2.length⟩, out_flat q rfl⟩
  · obtain ⟨v, rfl, a, vs, rfl, h1, h2⟩ := hd.one
    exact call_len pins s σ H _ us Q I r ⟨_, _, rfl, .inl ⟨vs, .of h1, h2.length⟩, out_flat q rfl⟩
  · obtain ⟨v, rfl, a, rfl, h1⟩ := hd.one
    exact call_len pins s σ H _ us Q I r ⟨_, _, rfl, .inl ⟨_, by rw [hK]; exact h1.sq, (List.length_map _).symm⟩, out_flat q rfl⟩
  · obtain ⟨v, rfl, h⟩ := hd.one
    cases (show v = _ from h)
    exact call_len pins s σ H _ us Q I r ⟨_, _, rfl, ⟨by rw [sizeLine_eq]; exact q.1, rfl⟩, out_flat q.2 rfl⟩
  · obtain ⟨v, rfl, h⟩ := hd.one
    cases (show v = _ from h)
    exact call_int1 pins s σ H _ us Q I r (.inl ⟨_, rfl, out_flat q rfl⟩)
  · obtain ⟨v, rfl, h⟩ := hd.one
    cases (show v = _ from h)
    exact call_int1 pins s σ H _ us Q I r (.inr ⟨_, rfl, out_flat q rfl⟩)
  · obtain ⟨v, rfl, a, vs, rfl, h1, h2⟩ := hd.one
    exact call_tuple_of pins s σ H _ us Q I r ⟨a, vs, rfl, .inl ⟨.of h1, fun p hp => q _ _ (out_tup hp h2)⟩⟩
  · obtain ⟨v, rfl, a, vs, rfl, h1, h2⟩ := hd.one
    exact call_tuple_of pins s σ H _ us Q I r ⟨a, vs, rfl, .inr ⟨by rw [hK]; exact h1, out_flat q ⟨a, vs, rfl, h1, h2⟩⟩⟩
  · obtain ⟨v, rfl, a, vs, rfl, h1, h2⟩ := hd.one
    exact call_list_of pins s σ H _ us Q I r ⟨a, vs, rfl, .inl (.of h1), fun p hp => q _ _ (out_lst hp h2)⟩
  · obtain ⟨v, rfl, a, rfl, h1⟩ := hd.one
    exact call_list_of pins s σ H _ us Q I r ⟨a, _, rfl, .inl (by rw [hK]; exact h1.sq), fun p hp => q _ _ (out_lst hp (RDs.ints _))⟩
  · obtain ⟨v, rfl, a, vs, rfl, h1, h2⟩ := hd.one
    exact call_list_of pins s σ H _ us Q I r ⟨a, vs, rfl, .inr (by rw [hK]; exact h1), fun p hp => q _ _ (out_lst hp h2)⟩
  · obtain ⟨v, rfl, h⟩ := hd.one
    cases (show v = _ from h)
    exact call_abs pins s σ H _ us Q I r ⟨_, rfl, out_flat q rfl⟩
  · obtain ⟨v, w, rfl, h, h'⟩ := hd.two
    cases (show v = _ from h); cases (show w = _ from h')
    exact call_min2 hc pins s σ H _ us Q I r ⟨_, _, rfl, out_flat q rfl⟩
  · obtain ⟨v, w, rfl, h, h'⟩ := hd.two
    cases (show v = _ from h); cases (show w = _ from h')
    exact call_max2 hc pins s σ H _ us Q I r ⟨_, _, rfl, out_flat q rfl⟩
  · obtain ⟨v, rfl, a, vs, rfl, h1, h2⟩ := hd.one
    obtain ⟨bs, rfl, q⟩ := q
    cases RDs.bls_of h2
    exact cr_all hc pins s σ H _ us Q I r ⟨a, bs, rfl, .of h1, out_flat q rfl⟩
  · obtain ⟨v, rfl, a, vs, rfl, h1, h2⟩ := hd.one
    obtain ⟨bs, rfl, q⟩ := q
    cases RDs.bls_of h2
    exact cr_any hc pins s σ H _ us Q I r ⟨a, bs, rfl, .of h1, out_flat q rfl⟩
  · obtain ⟨v, rfl, a, vs, rfl, h1, h2⟩ := hd.one
    obtain ⟨ns, rfl, q⟩ := q
    cases RDs.ints_of h2
    exact cr_sortedI pins s σ H _ us Q I r ⟨a, ns, rfl, .of h1, fun ns' b p w hb => q ns' p w _ _ (out_lst hb (RDs.ints _))⟩
  · obtain ⟨v, rfl, a, vs, rfl, h1, h2⟩ := hd.one
    obtain ⟨ns, rfl, l, q⟩ := q
    cases RDs.ints_of h2
    exact cr_min hc pins s σ H _ us Q I r ⟨a, ns, rfl, .of h1, l, fun m h1 h2 => out_flat (q m h1 h2) rfl⟩
  · obtain ⟨v, rfl, a, vs, rfl, h1, h2⟩ := hd.one
    obtain ⟨ns, rfl, l, q⟩ := q
    cases RDs.ints_of h2
    exact cr_max hc pins s σ H _ us Q I r ⟨a, ns, rfl, .of h1, l, fun m h1 h2 => out_flat (q m h1 h2) rfl⟩
  · obtain ⟨v, rfl, a, rfl, h1⟩ := hd.one
    exact cr_sum hc pins s σ H _ us Q I r ⟨a, _, rfl, by rw [hK]; exact h1.sq, out_flat q rfl⟩
  · obtain ⟨v, rfl, h⟩ := hd.one
    cases (show v = _ from h)
    exact call_str_int pins s σ H _ us Q I r ⟨_, rfl, q.1, out_flat q.2 rfl⟩
  · obtain ⟨v, rfl, h⟩ := hd.one
    cases (show v = _ from h)
    obtain ⟨n, h1, h2, q⟩ := q
    exact call_int_str pins s σ H _ us Q I r ⟨_, n, rfl, h1, h2, out_flat q rfl⟩
  · obtain ⟨v, rfl, a, vs, rfl, h1, h2⟩ := hd.one
    obtain ⟨ns, rfl, q⟩ := q
    cases RDs.ints_of h2
    exact cr_sum hc pins s σ H _ us Q I r ⟨a, ns, rfl, .of h1, out_flat q rfl⟩
  · exact q.elim
end

/-! ### how a part's reading is said -/
section
variable {G : Wd} {B : Base} {T ρ : List Addr} {env : VE} {vh : VH} {σ : L2.St} {H : Hp}
theorem Mv.trans {Z1 Z2 Z3 : Addr → Prop} {r1 r2 r3 : List Addr} {H1 H2 H3 : Hp} (a : Mv Z1 r1 H1 Z2 r2 H2) (b : Mv Z2 r2 H2 Z3 r3 H3) : Mv Z1 r1 H1 Z3 r3 H3 :=
  ⟨fun n x h => b.pre n x (a.pre n x h), fun x u nz h => (let ⟨n2, h2⟩ := a.keep x u nz h; b.keep x u n2 h2), fun x xs h => b.tup x xs (a.tup x xs h)⟩
theorem Mv.refl {Z1 : Addr → Prop} {r1 : List Addr} {H1 : Hp} : Mv Z1 r1 H1 Z1 r1 H1 := Mv.less fun _ h => h

/-- what comes of an expression, from (ρ, env, H) on -/
def Res (G : Wd) (B : Base) (T ρ : List Addr) (env : VE) (σ : L2.St) (H : Hp) (x : DV) (v : V) (ρ' : List Addr) (env' : VE) (vh' : VH) (H' : Hp) : Prop := match x with
  | .v d => Mv (ZZ B.F T ρ env σ) ρ H (ZZ B.F T ρ' env' σ) ρ' H' ∧ Rel G B T ρ' env' vh' σ H' ∧ RD G (ZZ B.F T ρ' env' σ) ρ' H' d v
  | .fr ds => ∃ a vs, v = .ref a ∧ H' a = some (.lst vs) ∧ Mv (ZZ B.F T ρ env σ) ρ H (ZZ B.F (a :: T) ρ' env' σ) ρ' H' ∧ Rel G B (a :: T) ρ' env' vh' σ H' ∧ RDs G (ZZ B.F (a :: T) ρ' env' σ) ρ' H' ds vs
theorem dropMv {a : Addr} {Z : Addr → Prop} {r : List Addr} {H0 : Hp} (m : Mv Z r H0 (ZZ B.F (a :: T) ρ env σ) ρ H) : Mv Z r H0 (ZZ B.F T ρ env σ) ρ H := m.trans (Mv.less fun b z => by
    rcases z with z | z | z
    · exact .inl z
    · exact .inr (.inl (List.mem_cons_of_mem _ z))
    · exact .inr (.inr z))
theorem Res.d {x : DV} {v : V} {ρ' : List Addr} {env' : VE} {vh' : VH} {H' : Hp} (r : Res G B T ρ env σ H x v ρ' env' vh' H') : Mv (ZZ B.F T ρ env σ) ρ H (ZZ B.F T ρ' env' σ) ρ' H' ∧ Rel G B T ρ' env' vh' σ H' ∧ RD G (ZZ B.F T ρ' env' σ) ρ' H' x.d v := by
  cases x with
  | v d => exact r
  | fr ds =>
    obtain ⟨a, vs, rfl, e, m, R, h⟩ := r
    exact ⟨dropMv m, R.dropT, R.let_go e h⟩
theorem Res.of_out {z : DV} {v : V} {ρ' : List Addr} {env' : VE} {vh' : VH} {H1 H' : Hp} (m : Mv (ZZ B.F T ρ env σ) ρ H (ZZ B.F T ρ' env' σ) ρ' H1) (R : Rel G B T ρ' env' vh' σ H1) (o : OutV G (ZZ B.F T ρ' env' σ) ρ' H1 z v H') :
    Res G B T ρ env σ H z v ρ' env' vh' H' := by
  cases z with
  | v d => exact ⟨m.trans (Mv.same o.1), R.grow o.1, o.2⟩
  | fr ds =>
    obtain ⟨p, vs, rfl, hp, rfl, h⟩ := o
    have m2 : Mv (ZZ B.F T ρ' env' σ) ρ' H1 (ZZ B.F (p :: T) ρ' env' σ) ρ' (upd H1 p (.lst vs)) := Mv.fresh (same_new hp) fun b z => by
      rcases z with z | z | z
      · exact .inl (.inl z)
      · rcases List.mem_cons.mp z with e | z
        · exact .inr (by rw [e]; exact hp)
        · exact .inl (.inr (.inl z))
      · exact .inl (.inr (.inr z))
    exact ⟨p, vs, rfl, upd_same, m.trans m2, R.tmp hp trivial, RDs.move m2 _ _ h⟩
/-- an operand at hand -/
def OpV (G : Wd) (Z : Addr → Prop) (ρ : List Addr) (H : Hp) (σ : L2.St) (o : Op) (v : V) : Prop := match o with
  | .dat d => RD G Z ρ H d v
  | .slt i => σ[i]? = some (some v)
theorem OpV.move {Z Z' : Addr → Prop} {ρ' : List Addr} {H' : Hp} {o : Op} {v : V} (h : OpV G Z ρ H σ o v) (m : Mv Z ρ H Z' ρ' H') : OpV G Z' ρ' H' σ o v := by
  cases o with
  | dat d => exact RD.move m _ _ h
  | slt i => exact h
theorem deref_rw (R : Rel G B T ρ env vh σ H) {d d' : D} {v : V} (h : RW G (ZZ B.F T ρ env σ) ρ H d v) (e : deref vh d = some d') : RW G (ZZ B.F T ρ env σ) ρ H d' v := by
  cases d with
  | ref n =>
    obtain ⟨a, ha, rfl⟩ := h
    unfold deref at e
    dsimp only at e
    split at e
    · rename_i xs q
      cases e
      obtain ⟨vs, h1, h2⟩ := R.ob n _ a q ha
      exact ⟨a, vs, rfl, h1, h2⟩
    · rename_i ks xs q
      cases e
      obtain ⟨ws, vs, h1, e1, e2, h2⟩ := R.ob n _ a q ha
      exact ⟨a, ws, vs, rfl, h1, e1, e2, h2⟩
    · cases e
  | _ => cases e; exact h
theorem OpV.rw (R : Rel G B T ρ env vh σ H) {o : Op} {d : D} {v : V} (h : OpV G (ZZ B.F T ρ env σ) ρ H σ o v) (e : o.ld env vh = some d) : RW G (ZZ B.F T ρ env σ) ρ H d v := by
  cases o with
  | dat c => exact deref_rw R (RD.w h) e
  | slt i =>
    unfold Op.ld at e
    dsimp only at e
    split at e
    · rename_i s hs
      split at e
      · rename_i c hc
        have q := R.st i s hs
        have h : σ[i]? = some (some v) := h
        cases s with
        | no => cases hc
        | val c' =>
          cases hc
          obtain ⟨w, e1, h1⟩ := q
          rw [h] at e1
          cases e1
          exact deref_rw R h1.w e
        | own ds =>
          cases hc
          obtain ⟨a, vs, e1, h1, h2⟩ := q
          rw [h] at e1
          cases e1
          cases e
          exact ⟨a, vs, rfl, h1, h2⟩
      · cases e
    · cases e

def tD (G : Wd) (B : Base) (w : VE → VH → QE → Prop) : TE := fun σ H Q => ∃ T ρ env vh, Rel G B T ρ env vh σ H ∧ w env vh fun x env' vh' => ∀ ρ' v H', Res G B T ρ env σ H x v ρ' env' vh' H' → Q v H'
def tO (G : Wd) (B : Base) (w : VE → VH → (Op → VE → VH → Prop) → Prop) : TE := fun σ H Q => ∃ T ρ env vh, Rel G B T ρ env vh σ H ∧ w env vh fun o env' vh' => ∀ ρ' v H', Mv (ZZ B.F T ρ env σ) ρ H (ZZ B.F T ρ' env' σ) ρ' H' → Rel G B T ρ' env' vh' σ H' → OpV G (ZZ B.F T ρ' env' σ) ρ' H' σ o v → Q v H'
def tB (G : Wd) (B : Base) (w : VE → VH → QE → Prop) : TT := fun σ H Q => ∃ T ρ env vh, Rel G B T ρ env vh σ H ∧ w env vh fun x env' vh' => ∃ k, x = .v (.bl k) ∧ ∀ ρ' H', Mv (ZZ B.F T ρ env σ) ρ H (ZZ B.F T ρ' env' σ) ρ' H' → Rel G B T ρ' env' vh' σ H' → Q k H'
def tL (G : Wd) (B : Base) (w : VE → VH → (List D → VE → VH → Prop) → Prop) : TA := fun σ H Q => ∃ T ρ env vh, Rel G B T ρ env vh σ H ∧ w env vh fun ds env' vh' => ∀ ρ' vs H', Mv (ZZ B.F T ρ env σ) ρ H (ZZ B.F T ρ' env' σ) ρ' H' → Rel G B T ρ' env' vh' σ H' → RDs G (ZZ B.F T ρ' env' σ) ρ' H' ds vs → Q vs H'
def OpVs (G : Wd) (Z : Addr → Prop) (ρ : List Addr) (H : Hp) (σ : L2.St) : List Op → List V → Prop
  | [], vs => vs = []
  | o :: os, vs => ∃ v r, vs = v :: r ∧ OpV G Z ρ H σ o v ∧ OpVs G Z ρ H σ os r
theorem OpVs.rw (R : Rel G B T ρ env vh σ H) : ∀ {os : List Op} {ds : List D} {vs : List V}, OpVs G (ZZ B.F T ρ env σ) ρ H σ os vs → ldAll env vh os = some ds → RWs G (ZZ B.F T ρ env σ) ρ H ds vs
  | [], ds, vs, h, e => by cases e; exact h
  | o :: os, ds, vs, h, e => by
    obtain ⟨v, r, rfl, h1, h2⟩ := h
    unfold ldAll at e
    split at e
    · rename_i d es e1 e2
      cases e
      exact ⟨v, r, rfl, h1.rw R e1, OpVs.rw R h2 e2⟩
    · cases e
def tOs (G : Wd) (B : Base) (w : VE → VH → (List Op → VE → VH → Prop) → Prop) : TA := fun σ H Q => ∃ T ρ env vh, Rel G B T ρ env vh σ H ∧ w env vh fun os env' vh' => ∀ ρ' vs H', Mv (ZZ B.F T ρ env σ) ρ H (ZZ B.F T ρ' env' σ) ρ' H' → Rel G B T ρ' env' vh' σ H' → OpVs G (ZZ B.F T ρ' env' σ) ρ' H' σ os vs → Q vs H'
end
theorem _root_.L2.PE.imp {X : Cx} {e : Expr} {t t' : TE} (h : PE X e t) (f : ∀ σ H Q, t' σ H Q → t σ H Q) : PE X e t' := ⟨fun pins s σ H Q I hw => h.run pins s σ H Q I (f σ H Q hw)⟩
theorem _root_.L2.PT.imp {X : Cx} {e : Expr} {t t' : TT} (h : PT X e t) (f : ∀ σ H Q, t' σ H Q → t σ H Q) : PT X e t' := ⟨fun pins s σ H Q I hw => h.run pins s σ H Q I (f σ H Q hw)⟩
theorem _root_.L2.PA.imp {X : Cx} {e : List Expr} {t t' : TA} (h : PA X e t) (f : ∀ σ H Q, t' σ H Q → t σ H Q) : PA X e t' := ⟨fun pos pins s σ H Q I hw => h.run pos pins s σ H Q I (f σ H Q hw)⟩
end R

set_option autoImplicit false
namespace R
open PySem PySem.Spec PyProof.Rows L2
/-! ## R4: rules for expressions -/
/-- an exception's fields -/
def XF (G : Wd) (Z : Addr → Prop) (ρ : List Addr) (H : Hp) (ns : List Str) (d : Option Addr) (xs : List D) : Prop := match d with
  | none => xs = [] ∧ ns = []
  | some a => ∃ ws vs, H a = some (.xd ws) ∧ ws.map (·.1) = ns ∧ ws.map (·.2) = vs ∧ RDs G Z ρ H xs vs
/-- the wish about exceptions -/
def WK (G : Wd) (B : Base) (K : XP) : WX := fun cls d σ H => ∃ c C xs T ρ env vh, G.cl c = some C ∧ cls = .ref C ∧ Rel G B T ρ env vh σ H ∧ XF G (ZZ B.F T ρ env σ) ρ H (G.fl c) d xs ∧ K c xs env vh
/-- what comes of a call -/
def ResF (G : Wd) (B : Base) (x : DV) (v : V) (ρ' : List Addr) (vh' : VH) (H' : Hp) : Prop := match x with
  | .v d => Rel G B [] ρ' [] vh' [] H' ∧ RD G (ZZ B.F [] ρ' [] []) ρ' H' d v
  | .fr ds => ∃ a vs, v = .ref a ∧ H' a = some (.lst vs) ∧ Rel G B [a] ρ' [] vh' [] H' ∧ RDs G (ZZ B.F [a] ρ' [] []) ρ' H' ds vs
/-- a promise, as the layer has it -/
def spV (G : Wd) (sp : VSp) : Sp := fun vs H Q E => ∃ (F : Addr → Prop) (ρ : List Addr) (vh : VH) (ds : List D), Rel G ⟨F, fun a => a ∈ ρ, H, ρ⟩ [] ρ [] vh [] H ∧ RDs G (ZZ F [] ρ [] []) ρ H ds vs ∧ sp.run ds vh fun o vh' => match o with
  | .ok x => ∀ ρ' v H', ResF G ⟨F, fun a => a ∈ ρ, H, ρ⟩ x v ρ' vh' H' → Q v H'
  | .exc c xs => ∀ ρ' C d H', G.cl c = some C → Rel G ⟨F, fun a => a ∈ ρ, H, ρ⟩ [] ρ' [] vh' [] H' → XF G (ZZ F [] ρ' [] []) ρ' H' (G.fl c) d xs → E (.ref C) d H'

/-- the names of built-ins that may be called -/
def bltNames : List Str := ["len", "int", "bool", "str", "tuple", "list", "abs", "min", "max", "sum", "all", "any", "range", "zip", "enumerate", "reversed", "isinstance", "dict", "sorted", "set", "repr"]
/-- a name of the module (those within an except suite begin otherwise) -/
def okG (x : Str) : Bool := decide (x.cps.toList.head? ≠ some 37)
/-- an own error that may be made -/
def MkX (G : Wd) (K : PySem.W.Frag) (mg : Str → Option Value) (c : Str) : Prop := ∃ C, G.cl c = some C ∧ ((G.fl c = [] ∧ Ex0 K mg c C) ∨ ∃ f fI, G.fl c = [f] ∧ Ex1 K mg c f C fI)
/-- a class that a clause names; anc: the classes above each error -/
def HdX (G : Wd) (K : PySem.W.Frag) (mg : Str → Option Value) (tb : List (Str × List Str × List Str)) (x : Str) : Prop := (x == ("__debug__" : Str)) = false ∧ ∃ cv, mg x = some cv ∧ ∀ c C, G.cl c = some C → ∀ ns anc, tb.lookup c = some (ns, anc) → ns = G.fl c ∧ PySem.W.exmOne K (.ref C) cv = some (anc.contains x)
/-- what the fields of errors want -/
def FdX (G : Wd) (K : PySem.W.Frag) : Prop := ∀ c C, G.cl c = some C → XfC K C ∧ ∀ f, f ∈ G.fl c → PySem.W.findIn K (.ref C) f = some none
/-- within an except suite calls are not looked at -/
def hotN : Str := "%hot"
structure XOk (X : Cx) (G : Wd) (B : Base) (K : XP) (Φ : Fns) (Γ : Cns) (fs : List Str) : Prop where
  hK : X.K = G.K
  calm : hotN ∉ fs → X.calm = true
  nd : X.N.Nodup
  hu : X.A.units + 64 < cLine
  tk : Takes X (WK G B K)
  fn : ∀ f, f ∈ fs → f ≠ hotN → ∃ (a : Addr) (fd : FuncData) (ps : List Str) (k : Nat), X.mg f = some (.ref a) ∧ PySem.W.keepIn X.K (.ref a) = true ∧ Binds X.K fd ps [] ∧ FnOk X.prog X.w X.K X.mg X.base (L2.CX X.prog X.w) k a fd ps (spV G (Φ f)) ∧ Room k X.A ∧ (f == ("__debug__" : Str)) = false
  cn : ∀ x d, Γ x = some d → okG x = true → ∃ u v, X.mg x = some u ∧ RelV v u ∧ (∀ Z ρ H, RD G Z ρ H d v) ∧ (x == ("__debug__" : Str)) = false
  bl : ∀ x, x ∈ bltNames → X.mg x = none
  rm : hotN ∉ fs → X.A.depth + 1 < recursionLimit
  ok : hotN ∉ fs → ∀ x d, Γ x = some d → okG x = true
  er : hotN ∈ fs → ∀ (i : Nat) (f : Str) (e : Expr) (pos : Pos), PE X e (tVar i) → (∀ n, attributeBase e n X.env (eval e X.env) = eval e X.env) → PE X (.Attribute e f pos) (tD G B fun env vh Q => ∃ d, (Op.slt i).raw env = some d ∧ wpAttr Γ vh d f fun z => fin false (.v z) env vh Q)

section
variable {X : Cx} {G : Wd} {B : Base} {K : XP} {Φ : Fns} {Γ : Cns} {fs : List Str}
theorem XOk.blk (o : XOk X G B K Φ Γ fs) (hc : hotN ∉ fs) (B' : Base) (s : Shared) (H : Hp) (scope : Scope) (ce : Env) (fp : List Addr) : XOk (X.blk s H scope ce fp) G B' (fun _ _ _ _ => False) Φ Γ fs :=
  ⟨o.hK, o.calm, o.nd, o.hu, fun u s' x => takes0 u s' (by
    obtain ⟨a, B1, sI, pins, σ, H, cls, d, e, I, nb, up, sky, na, os, ag, w⟩ := x
    obtain ⟨_, _, _, _, _, _, _, _, _, _, _, k⟩ := w
    exact k.elim), o.fn, o.cn, o.bl, o.rm, o.ok, fun h => absurd h hc⟩

variable {T ρ : List Addr} {env : VE} {vh : VH} {σ : L2.St} {H : Hp}
theorem Rel.res {d : D} {v : V} (R : Rel G B T ρ env vh σ H) (h : RD G (ZZ B.F T ρ env σ) ρ H d v) : Res G B T ρ env σ H (.v d) v ρ env vh H := ⟨Mv.refl, R, h⟩
theorem freezeMv {i : Nat} {d : D} : Mv (ZZ B.F T ρ env σ) ρ H (ZZ B.F T ρ (env.set i (.val d)) σ) ρ H := Mv.less fun b z => by
  rcases z with z | z | z | ⟨j, z⟩
  · exact .inl z
  · exact .inr (.inl z)
  · exact .inr (.inr (.inl z))
  · rcases Own.of_setE z with ⟨_, _, e, _⟩ | q
    · cases e
    · exact .inr (.inr (.inr ⟨j, q.2⟩))

/-! ### constants, names -/
theorem re_flat {e : Expr} {d : D} {v : V} (h : PE X e (tC v)) (hd : ∀ Z ρ H, RD G Z ρ H d v) : PE X e (tD G B fun env vh Q => fin false (.v d) env vh Q) :=
  h.imp fun σ H Q ⟨T, ρ, env, vh, R, w⟩ => w ρ v H (R.res (hd _ _ _))
theorem re_var {i : Nat} {e : Expr} (h : PE X e (tVar i)) : PE X e (tD G B fun env vh Q => wpE Φ Γ (.var i) K false env vh Q) :=
  h.imp fun σ H Q ⟨T, ρ, env, vh, R, w⟩ => by
    obtain ⟨s, hs, w⟩ := w
    have q := R.st i s hs
    cases s with
    | no => exact w.elim
    | val d =>
      obtain ⟨v, e, r⟩ := q
      exact ⟨v, e, w ρ v H (R.res r)⟩
    | own ds =>
      have R2 := R.freeze hs
      have li : i < env.length := (List.getElem?_eq_some_iff.mp hs).1
      obtain ⟨v, e, r⟩ := R2.st i (.val (.lst ds)) (by rw [List.getElem?_set_self li])
      exact ⟨v, e, w ρ v H ⟨freezeMv, R2, r⟩⟩
theorem re_glo (o : XOk X G B K Φ Γ fs) {x : Str} {pos : Pos} (hx : okG x = true) (hg : Gl X x) : PE X (.Name x pos) (tD G B fun env vh Q => wpE Φ Γ (.glo x) K false env vh Q) := by
  refine ⟨fun pins s σ H Q I ⟨T, ρ, env, vh, R, d, hd, w⟩ => ?_⟩
  obtain ⟨u, v, h1, h2, h3, h4⟩ := o.cn x d hd hx
  exact (pe_glob hg h1 h2 h4).run pins s σ H Q I (w ρ v H (R.res (h3 _ _ _)))

/-! ### operands -/
theorem ro_val {e : Expr} {w : VE → VH → QE → Prop} (h : PE X e (tD G B w)) (mono : ∀ env vh (Q Q' : QE), (∀ x e h, Q x e h → Q' x e h) → w env vh Q → w env vh Q') : PE X e (tO G B fun env vh Q => w env vh fun x e1 h1 => Q (.dat x.d) e1 h1) :=
  h.imp fun σ H Q ⟨T, ρ, env, vh, R, q⟩ => ⟨T, ρ, env, vh, R, mono _ _ _ _ (fun x e1 h1 k ρ' v H' r => k ρ' v H' r.d.1 r.d.2.1 r.d.2.2) q⟩
theorem ro_bor {i : Nat} {e : Expr} (h : PE X e (tVar i)) : PE X e (tO G B fun env vh Q => (∃ s, env[i]? = some s ∧ s.ok) ∧ Q (.slt i) env vh) :=
  h.imp fun σ H Q ⟨T, ρ, env, vh, R, ⟨s, hs, ns⟩, w⟩ => by
    have q := R.st i s hs
    cases s with
    | no => exact ns.elim
    | val d =>
      obtain ⟨v, e, r⟩ := q
      exact ⟨v, e, w ρ v H Mv.refl R e⟩
    | own ds =>
      obtain ⟨a, vs, e, _⟩ := q
      exact ⟨.ref a, e, w ρ (.ref a) H Mv.refl R e⟩

/-! ### operators -/
theorem tO2 {wa wb : VE → VH → (Op → VE → VH → Prop) → Prop} (ma : ∀ env vh (Q Q' : Op → VE → VH → Prop), (∀ x e h, Q x e h → Q' x e h) → wa env vh Q → wa env vh Q') (mb : ∀ env vh (Q Q' : Op → VE → VH → Prop), (∀ x e h, Q x e h → Q' x e h) → wb env vh Q → wb env vh Q')
    {R2 : V → V → Hp → Prop} {P : Op → Op → VE → VH → Prop} (R : Rel G B T ρ env vh σ H) (w : wa env vh fun x e1 h1 => wb e1 h1 fun y e2 h2 => P x y e2 h2)
    (f : ∀ x y ρ' env' vh' v u H', Mv (ZZ B.F T ρ env σ) ρ H (ZZ B.F T ρ' env' σ) ρ' H' → Rel G B T ρ' env' vh' σ H' → OpV G (ZZ B.F T ρ' env' σ) ρ' H' σ x v → OpV G (ZZ B.F T ρ' env' σ) ρ' H' σ y u → P x y env' vh' → R2 v u H') :
    tO G B wa σ H fun v H1 => tO G B wb σ H1 fun u H2 => R2 v u H2 :=
  ⟨T, ρ, env, vh, R, ma _ _ _ _ (fun x e1 h1 k ρ1 v H1 m1 R1 o1 => ⟨T, ρ1, e1, h1, R1, mb _ _ _ _ (fun y e2 h2 p ρ2 u H2 m2 Rr o2 => f x y ρ2 e2 h2 v u H2 (m1.trans m2) Rr (o1.move m2) o2 p) k⟩) w⟩
theorem re_bin (o : XOk X G B K Φ Γ fs) {op : Operator} {a b : Expr} {pos : Pos} {wa wb : VE → VH → (Op → VE → VH → Prop) → Prop} (ma : ∀ env vh (Q Q' : Op → VE → VH → Prop), (∀ x e h, Q x e h → Q' x e h) → wa env vh Q → wa env vh Q') (mb : ∀ env vh (Q Q' : Op → VE → VH → Prop), (∀ x e h, Q x e h → Q' x e h) → wb env vh Q → wb env vh Q')
    (ha : PE X a (tO G B wa)) (hb : PE X b (tO G B wb)) :
    PE X (.BinOp a op b pos) (tD G B fun env vh Q => wa env vh fun x e1 h1 => wb e1 h1 fun y e2 h2 => ∃ c d, x.ld e2 h2 = some c ∧ y.ld e2 h2 = some d ∧ wpBin op c d fun z => fin false z e2 h2 Q) :=
  (pe_op (op_bin o.hK) ha hb).imp fun σ H Q ⟨T, ρ, env, vh, R, w⟩ => tO2 ma mb R w fun x y ρ' env' vh' v u H' m R' ox oy ⟨c, d, e1, e2, q⟩ =>
    ⟨_, ρ', c, d, ox.rw R' e1, oy.rw R' e2, wpBin_mono (fun z k v H1 out => k ρ' v H1 (Res.of_out m R' out)) q⟩
theorem re_neg {a : Expr} {pos : Pos} {wa : VE → VH → QE → Prop} (ma : ∀ env vh (Q Q' : QE), (∀ x e h, Q x e h → Q' x e h) → wa env vh Q → wa env vh Q') (ha : PE X a (tD G B wa)) :
    PE X (.UnaryOp .USub a pos) (tD G B fun env vh Q => wa env vh fun x e1 h1 => ∃ i, x = .v (.int i) ∧ fin false (.v (.int (-i))) e1 h1 Q) :=
  (pe_un un_neg ha).imp fun σ H Q ⟨T, ρ, env, vh, R, w⟩ => ⟨T, ρ, env, vh, R, ma _ _ _ _ (fun x e1 h1 ⟨i, ex, k⟩ ρ' v H' r => by
    subst ex
    obtain ⟨m, R', hv⟩ := r
    exact ⟨i, hv, k ρ' _ H' ⟨m, R', rfl⟩⟩) w⟩
/-- a value that is True or False -/
theorem pt_bool {e : Expr} {w : VE → VH → (Bool → VE → VH → Prop) → Prop} (h : PT X e (fun σ H Q => ∃ T ρ env vh, Rel G B T ρ env vh σ H ∧ w env vh fun k env' vh' => ∀ ρ' H', Mv (ZZ B.F T ρ env σ) ρ H (ZZ B.F T ρ' env' σ) ρ' H' → Rel G B T ρ' env' vh' σ H' → Q k H'))
    (mono : ∀ env vh (Q Q' : Bool → VE → VH → Prop), (∀ x e h, Q x e h → Q' x e h) → w env vh Q → w env vh Q') : PT X e (tB G B fun env vh Q => w env vh fun k e h => Q (.v (.bl k)) e h) :=
  h.imp fun σ H Q ⟨T, ρ, env, vh, R, q⟩ => ⟨T, ρ, env, vh, R, mono _ _ _ _ (fun k e h ⟨k', ek, z⟩ ρ' H' m R' => by cases ek; exact z ρ' H' m R') q⟩
theorem re_cmp (o : XOk X G B K Φ Γ fs) {op : CmpOp} {a b : Expr} {pos : Pos} {wa wb : VE → VH → (Op → VE → VH → Prop) → Prop} (ma : ∀ env vh (Q Q' : Op → VE → VH → Prop), (∀ x e h, Q x e h → Q' x e h) → wa env vh Q → wa env vh Q') (mb : ∀ env vh (Q Q' : Op → VE → VH → Prop), (∀ x e h, Q x e h → Q' x e h) → wb env vh Q → wb env vh Q')
    (ha : PE X a (tO G B wa)) (hb : PE X b (tO G B wb)) (hm : behindInMarks op b = false) :
    PE X (.Compare a [op] [b] pos) (tD G B fun env vh Q => wa env vh fun x e1 h1 => wb e1 h1 fun y e2 h2 => ∃ c d, x.ld e2 h2 = some c ∧ y.ld e2 h2 = some d ∧ wpCmp op c d fun k => Q (.v (.bl k)) e2 h2) :=
  (pe_cmpR (op_cmp o.hK o.hu) ha hb hm).imp fun σ H Q ⟨T, ρ, env, vh, R, w⟩ => tO2 ma mb R w fun x y ρ' env' vh' v u H' m R' ox oy ⟨c, d, e1, e2, q⟩ =>
    ⟨_, ρ', c, d, ox.rw R' e1, oy.rw R' e2, wpCmp_mono (fun k z => z ρ' _ H' ⟨m, R', rfl⟩) q⟩
theorem rt_cmp (o : XOk X G B K Φ Γ fs) {op : CmpOp} {a b : Expr} {pos : Pos} {wa wb : VE → VH → (Op → VE → VH → Prop) → Prop} (ma : ∀ env vh (Q Q' : Op → VE → VH → Prop), (∀ x e h, Q x e h → Q' x e h) → wa env vh Q → wa env vh Q') (mb : ∀ env vh (Q Q' : Op → VE → VH → Prop), (∀ x e h, Q x e h → Q' x e h) → wb env vh Q → wb env vh Q')
    (ha : PE X a (tO G B wa)) (hb : PE X b (tO G B wb)) (hm : behindInMarks op b = false) :
    PT X (.Compare a [op] [b] pos) (tB G B fun env vh Q => wa env vh fun x e1 h1 => wb e1 h1 fun y e2 h2 => ∃ c d, x.ld e2 h2 = some c ∧ y.ld e2 h2 = some d ∧ wpCmp op c d fun k => Q (.v (.bl k)) e2 h2) :=
  (pt_cmpR (op_cmp o.hK o.hu) ha hb hm).imp fun σ H Q ⟨T, ρ, env, vh, R, w⟩ => tO2 ma mb R w fun x y ρ' env' vh' v u H' m R' ox oy ⟨c, d, e1, e2, q⟩ =>
    ⟨_, ρ', c, d, ox.rw R' e1, oy.rw R' e2, wpCmp_mono (fun k ⟨k', ek, z⟩ => ⟨k, rfl, by cases ek; exact z ρ' H' m R'⟩) q⟩

theorem ma_chain (o : XOk X G B K Φ Γ fs) {op op' : CmpOp} {a b c : Expr} {wa wb wc : VE → VH → (Op → VE → VH → Prop) → Prop} (ma : ∀ env vh (Q Q' : Op → VE → VH → Prop), (∀ x e h, Q x e h → Q' x e h) → wa env vh Q → wa env vh Q') (mb : ∀ env vh (Q Q' : Op → VE → VH → Prop), (∀ x e h, Q x e h → Q' x e h) → wb env vh Q → wb env vh Q')
    (mc : ∀ env vh (Q Q' : Op → VE → VH → Prop), (∀ x e h, Q x e h → Q' x e h) → wc env vh Q → wc env vh Q') {σ : L2.St} {H : Hp} {Q : VK} {T ρ : List Addr} {env : VE} {vh : VH} (R : Rel G B T ρ env vh σ H)
    (w : wa env vh fun x e1 h1 => wb e1 h1 fun y e2 h2 => ∃ d e, x.ld e2 h2 = some d ∧ y.ld e2 h2 = some e ∧ wpCmp op d e fun k =>
      ifP k (wc e2 h2 fun z e3 h3 => ∃ e f, y.ld e3 h3 = some e ∧ z.ld e3 h3 = some f ∧ wpCmp op' e f fun k => ∀ ρ' H', Mv (ZZ B.F T ρ env σ) ρ H (ZZ B.F T ρ' e3 σ) ρ' H' → Rel G B T ρ' e3 h3 σ H' → Q (.bl k) H')
        (∀ ρ' H', Mv (ZZ B.F T ρ env σ) ρ H (ZZ B.F T ρ' e2 σ) ρ' H' → Rel G B T ρ' e2 h2 σ H' → Q (.bl false) H')) :
    tChain (fun x y H Q => ∃ Z ρ c d, RW G Z ρ H c x ∧ RW G Z ρ H d y ∧ wpCmp op c d fun k => Q (.bl k) H) (fun x y H Q => ∃ Z ρ c d, RW G Z ρ H c x ∧ RW G Z ρ H d y ∧ wpCmp op' c d fun k => Q (.bl k) H) (tO G B wa) (tO G B wb) (tO G B wc) σ H Q :=
  tO2 ma mb R w fun x y ρ' env' vh' v u H' m R' ox oy ⟨d, e, e1, e2, q⟩ => ⟨_, ρ', d, e, ox.rw R' e1, oy.rw R' e2, wpCmp_mono (fun k z => ⟨k, rfl, by
    cases k with
    | false => exact L2.iteF (z ρ' H' m R')
    | true =>
      refine L2.iteT ⟨T, ρ', env', vh', R', mc _ _ _ _ (fun zz e3 h3 ⟨e, f, p1, p2, q3⟩ ρ3 w3 H3 m3 R3 oz => ?_) z⟩
      exact ⟨_, ρ3, e, f, (oy.move m3).rw R3 p1, oz.rw R3 p2, wpCmp_mono (fun k z => z ρ3 H3 (m.trans m3) R3) q3⟩⟩) q⟩
theorem chain_mono {wa wb wc : VE → VH → (Op → VE → VH → Prop) → Prop} (ma : ∀ env vh (Q Q' : Op → VE → VH → Prop), (∀ x e h, Q x e h → Q' x e h) → wa env vh Q → wa env vh Q') (mb : ∀ env vh (Q Q' : Op → VE → VH → Prop), (∀ x e h, Q x e h → Q' x e h) → wb env vh Q → wb env vh Q')
    (mc : ∀ env vh (Q Q' : Op → VE → VH → Prop), (∀ x e h, Q x e h → Q' x e h) → wc env vh Q → wc env vh Q') {op op' : CmpOp} {env : VE} {vh : VH} {P P' : Bool → VE → VH → Prop} (f : ∀ k e h, P k e h → P' k e h)
    (w : wa env vh fun x e1 h1 => wb e1 h1 fun y e2 h2 => ∃ d e, x.ld e2 h2 = some d ∧ y.ld e2 h2 = some e ∧ wpCmp op d e fun k =>
      ifP k (wc e2 h2 fun z e3 h3 => ∃ e f, y.ld e3 h3 = some e ∧ z.ld e3 h3 = some f ∧ wpCmp op' e f fun k => P k e3 h3) (P false e2 h2)) :
    wa env vh fun x e1 h1 => wb e1 h1 fun y e2 h2 => ∃ d e, x.ld e2 h2 = some d ∧ y.ld e2 h2 = some e ∧ wpCmp op d e fun k =>
      ifP k (wc e2 h2 fun z e3 h3 => ∃ e f, y.ld e3 h3 = some e ∧ z.ld e3 h3 = some f ∧ wpCmp op' e f fun k => P' k e3 h3) (P' false e2 h2) :=
  ma _ _ _ _ (fun x e1 h1 => mb _ _ _ _ fun y e2 h2 ⟨d, e, p, q, r⟩ => ⟨d, e, p, q, wpCmp_mono (fun k => ifP_mono (mc _ _ _ _ fun z e3 h3 ⟨e, g, p, q, r⟩ => ⟨e, g, p, q, wpCmp_mono (fun _ => f _ _ _) r⟩) (f _ _ _)) r⟩) w
theorem re_chain (o : XOk X G B K Φ Γ fs) {op op' : CmpOp} {a b c : Expr} {pos : Pos} {wa wb wc : VE → VH → (Op → VE → VH → Prop) → Prop} (ma : ∀ env vh (Q Q' : Op → VE → VH → Prop), (∀ x e h, Q x e h → Q' x e h) → wa env vh Q → wa env vh Q') (mb : ∀ env vh (Q Q' : Op → VE → VH → Prop), (∀ x e h, Q x e h → Q' x e h) → wb env vh Q → wb env vh Q')
    (mc : ∀ env vh (Q Q' : Op → VE → VH → Prop), (∀ x e h, Q x e h → Q' x e h) → wc env vh Q → wc env vh Q') (ha : PE X a (tO G B wa)) (hb : PE X b (tO G B wb)) (hc : PE X c (tO G B wc)) (hm : lastMarks [op, op'] [b, c] = false) :
    PE X (.Compare a [op, op'] [b, c] pos) (tD G B fun env vh Q => wa env vh fun x e1 h1 => wb e1 h1 fun y e2 h2 => ∃ d e, x.ld e2 h2 = some d ∧ y.ld e2 h2 = some e ∧ wpCmp op d e fun k =>
      ifP k (wc e2 h2 fun z e3 h3 => ∃ e f, y.ld e3 h3 = some e ∧ z.ld e3 h3 = some f ∧ wpCmp op' e f fun k => Q (.v (.bl k)) e3 h3) (Q (.v (.bl false)) e2 h2)) :=
  (pe_chain (op_cmp o.hK o.hu) (op_cmp o.hK o.hu) ha hb hc hm).imp fun σ H Q ⟨T, ρ, env, vh, R, w⟩ => ma_chain o (a := a) (b := b) (c := c) ma mb mc R (chain_mono ma mb mc (P := fun k e h => ∀ ρ' v H', Res G B T ρ env σ H (.v (.bl k)) v ρ' e h H' → Q v H') (P' := fun k e h => ∀ ρ' H', Mv (ZZ B.F T ρ env σ) ρ H (ZZ B.F T ρ' e σ) ρ' H' → Rel G B T ρ' e h σ H' → Q (.bl k) H') (fun k e h z ρ' H' m R' => z ρ' _ H' ⟨m, R', rfl⟩) w)
theorem rt_chain (o : XOk X G B K Φ Γ fs) {op op' : CmpOp} {a b c : Expr} {pos : Pos} {wa wb wc : VE → VH → (Op → VE → VH → Prop) → Prop} (ma : ∀ env vh (Q Q' : Op → VE → VH → Prop), (∀ x e h, Q x e h → Q' x e h) → wa env vh Q → wa env vh Q') (mb : ∀ env vh (Q Q' : Op → VE → VH → Prop), (∀ x e h, Q x e h → Q' x e h) → wb env vh Q → wb env vh Q')
    (mc : ∀ env vh (Q Q' : Op → VE → VH → Prop), (∀ x e h, Q x e h → Q' x e h) → wc env vh Q → wc env vh Q') (ha : PE X a (tO G B wa)) (hb : PE X b (tO G B wb)) (hc : PE X c (tO G B wc)) (hm : lastMarks [op, op'] [b, c] = false) :
    PT X (.Compare a [op, op'] [b, c] pos) (tB G B fun env vh Q => wa env vh fun x e1 h1 => wb e1 h1 fun y e2 h2 => ∃ d e, x.ld e2 h2 = some d ∧ y.ld e2 h2 = some e ∧ wpCmp op d e fun k =>
      ifP k (wc e2 h2 fun z e3 h3 => ∃ e f, y.ld e3 h3 = some e ∧ z.ld e3 h3 = some f ∧ wpCmp op' e f fun k => Q (.v (.bl k)) e3 h3) (Q (.v (.bl false)) e2 h2)) :=
  (pt_chain (op_cmp o.hK o.hu) (op_cmp o.hK o.hu) ha hb hc hm).imp fun σ H Q ⟨T, ρ, env, vh, R, w⟩ => ma_chain o (a := a) (b := b) (c := c) (Q := fun x H' => ∃ k, x = .bl k ∧ Q k H') ma mb mc R (chain_mono ma mb mc (P := fun k e h => ∃ k', DV.v (.bl k) = .v (.bl k') ∧ ∀ ρ' H', Mv (ZZ B.F T ρ env σ) ρ H (ZZ B.F T ρ' e σ) ρ' H' → Rel G B T ρ' e h σ H' → Q k' H') (P' := fun k e h => ∀ ρ' H', Mv (ZZ B.F T ρ env σ) ρ H (ZZ B.F T ρ' e σ) ρ' H' → Rel G B T ρ' e h σ H' → ∃ k', V.bl k = .bl k' ∧ Q k' H') (fun k e h ⟨k', ek, z⟩ ρ' H' m R' => ⟨k, rfl, by cases ek; exact z ρ' H' m R'⟩) w)

/-! ### truth -/
theorem RW.tru {K' : PySem.W.Frag} (hK : K' = G.K) {Z : Addr → Prop} {ρ : List Addr} {H : Hp} : ∀ {d : D} {v : V} {k : Bool}, RW G Z ρ H d v → truD d = some k → TruV K' v H k
  | .non, v, k, h, e => by cases (show v = _ from h); cases e; rfl
  | .bl b, v, k, h, e => by cases (show v = _ from h); cases e; rfl
  | .int i, v, k, h, e => by cases (show v = _ from h); cases e; rfl
  | .str x, v, k, h, e => by
    cases (show v = _ from h)
    have e : (if x.length ≤ 16777216 then some ((x.length : Int) != 0) else none) = some k := e
    by_cases q : x.length ≤ 16777216
    · rw [if_pos q] at e
      cases e
      exact ⟨by rw [sizeLine_eq]; exact q, rfl⟩
    · rw [if_neg q] at e
      cases e
  | .tup xs, v, k, h, e => by
    obtain ⟨a, vs, rfl, h1, h2⟩ := h
    cases e
    exact .inr (.inl ⟨vs, by rw [hK]; exact h1, by
      have := h2.length
      cases xs <;> cases vs <;> first | rfl | (simp at this; done)⟩)
  | .lst xs, v, k, h, e => by
    obtain ⟨a, vs, rfl, h1, h2⟩ := h
    cases e
    exact .inl ⟨vs, .of h1, by
      have := h2.length
      cases xs <;> cases vs <;> first | rfl | (simp at this; done)⟩
  | .dct ks xs, v, k, h, e => by
    obtain ⟨a, ws, vs, rfl, h1, e1, e2, h2⟩ := h
    cases e
    refine .inr (.inr ⟨ws, h1, ?_⟩)
    have hl := h2.length
    subst e2
    rw [List.length_map] at hl
    cases ws <;> cases xs <;> first | rfl | (simp at hl; done)
  | .ty _, v, k, h, e => by cases e
  | .adr _, v, k, h, e => by cases e
  | .obj _ _ _, v, k, h, e => by cases e
  | .ref _, v, k, h, e => by cases e
  | .scr _, v, k, h, e => by cases e
/-- any value as a test -/
theorem rt_truth (o : XOk X G B K Φ Γ fs) {e : Expr} {w : VE → VH → QE → Prop} (h : PE X e (tD G B w)) (mono : ∀ env vh (Q Q' : QE), (∀ x e h, Q x e h → Q' x e h) → w env vh Q → w env vh Q') (he : ∀ whole, isTrue e X.env whole = (do let v ← whole; standAt e.pos; holding [v] (truthy v))) :
    PT X e (tB G B fun env vh Q => w env vh fun x e h => fin true x e h Q) :=
  (pt_truth h he).imp fun σ H Q ⟨T, ρ, env, vh, R, q⟩ => ⟨T, ρ, env, vh, R, mono _ _ _ _ (fun x e1 h1 ⟨k, e, k', ek, z⟩ ρ' v H' r => by
    cases ek
    obtain ⟨m, R', hv⟩ := r.d
    cases q : deref h1 x.d with
    | none => rw [q] at e; cases e
    | some d =>
      rw [q] at e
      exact ⟨k, RW.tru o.hK (deref_rw R' hv.w q) e, z ρ' H' m R'⟩) q⟩
theorem rt_bor (o : XOk X G B K Φ Γ fs) {e : Expr} {i : Nat} (h : PE X e (tVar i)) (he : ∀ whole, isTrue e X.env whole = (do let v ← whole; standAt e.pos; holding [v] (truthy v))) :
    PT X e (tB G B fun env vh Q => wpE Φ Γ (.bor i) K true env vh Q) :=
  (pt_truth h he).imp fun σ H Q ⟨T, ρ, env, vh, R, d, k, e1, e2, k', ek, z⟩ => by
    cases ek
    have hs : ∃ s, env[i]? = some s := by
      cases q : env[i]? with
      | none => simp [Op.ld, q] at e1
      | some s => exact ⟨s, rfl⟩
    obtain ⟨s, hs⟩ := hs
    have q := R.st i s hs
    have hv : ∃ v, σ[i]? = some (some v) := by
      cases s with
      | no => simp [Op.ld, hs, Slot.ld] at e1
      | val d => obtain ⟨v, e, _⟩ := q; exact ⟨v, e⟩
      | own ds => obtain ⟨a, vs, e, _⟩ := q; exact ⟨_, e⟩
    obtain ⟨v, hv⟩ := hv
    exact ⟨v, hv, k, RW.tru o.hK (OpV.rw (o := .slt i) R hv e1) e2, z ρ H Mv.refl R⟩

/-! ### and, or, not, if else -/
theorem tB_of {e : Expr} {w w' : VE → VH → QE → Prop} (h : PT X e (tB G B w)) (f : ∀ env vh Q, w' env vh Q → w env vh Q) : PT X e (tB G B w') := h.imp fun σ H Q ⟨T, ρ, env, vh, R, q⟩ => ⟨T, ρ, env, vh, R, f _ _ _ q⟩
theorem tD_of {e : Expr} {w w' : VE → VH → QE → Prop} (h : PE X e (tD G B w)) (f : ∀ env vh Q, w' env vh Q → w env vh Q) : PE X e (tD G B w') := h.imp fun σ H Q ⟨T, ρ, env, vh, R, q⟩ => ⟨T, ρ, env, vh, R, f _ _ _ q⟩
theorem Res.moved {T ρ1 : List Addr} {env1 : VE} {σ : L2.St} {H0 H1 H' : Hp} {ρ0 : List Addr} {env0 : VE} {x : DV} {v : V} {ρ' : List Addr} {env' : VE} {vh' : VH} (m : Mv (ZZ B.F T ρ0 env0 σ) ρ0 H0 (ZZ B.F T ρ1 env1 σ) ρ1 H1) (r : Res G B T ρ1 env1 σ H1 x v ρ' env' vh' H') : Res G B T ρ0 env0 σ H0 x v ρ' env' vh' H' := by
  cases x with
  | v d => exact ⟨m.trans r.1, r.2.1, r.2.2⟩
  | fr ds =>
    obtain ⟨a, vs, e, h1, m2, R, h⟩ := r
    exact ⟨a, vs, e, h1, m.trans m2, R, h⟩
theorem rt_and {a b : Expr} {rest : List Expr} {pos : Pos} {wa wb : VE → VH → QE → Prop} (ma : ∀ env vh (Q Q' : QE), (∀ x e h, Q x e h → Q' x e h) → wa env vh Q → wa env vh Q') (mb : ∀ env vh (Q Q' : QE), (∀ x e h, Q x e h → Q' x e h) → wb env vh Q → wb env vh Q')
    (ha : PT X a (tB G B wa)) (hb : PW X (.BoolOp .And (b :: rest) pos) (tB G B wb)) : PW X (.BoolOp .And (a :: b :: rest) pos) (tB G B fun env vh Q => wa env vh fun x e1 h1 => ∃ k, x = .v (.bl k) ∧ ifP k (wb e1 h1 Q) (Q (.v (.bl false)) e1 h1)) := by
  refine ⟨fun wh pins s σ H Q I ⟨T, ρ, env, vh, R, w⟩ => (pw_and ha hb).run wh pins s σ H Q I ⟨T, ρ, env, vh, R, ma _ _ _ _ (fun x e1 h1 ⟨k, ex, z⟩ => ⟨k, ex, fun ρ' H' m R' => ?_⟩) w⟩⟩
  cases k with
  | false =>
    obtain ⟨k', ek, z⟩ := z
    cases ek
    exact L2.iteF (z ρ' H' m R')
  | true => exact L2.iteT ⟨T, ρ', e1, h1, R', mb _ _ _ _ (fun y e2 h2 ⟨k, ey, z⟩ => ⟨k, ey, fun ρ2 H2 m2 R2 => z ρ2 H2 (m.trans m2) R2⟩) z⟩
theorem rt_or {a b : Expr} {rest : List Expr} {pos : Pos} {wa wb : VE → VH → QE → Prop} (ma : ∀ env vh (Q Q' : QE), (∀ x e h, Q x e h → Q' x e h) → wa env vh Q → wa env vh Q') (mb : ∀ env vh (Q Q' : QE), (∀ x e h, Q x e h → Q' x e h) → wb env vh Q → wb env vh Q')
    (ha : PT X a (tB G B wa)) (hb : PW X (.BoolOp .Or (b :: rest) pos) (tB G B wb)) : PW X (.BoolOp .Or (a :: b :: rest) pos) (tB G B fun env vh Q => wa env vh fun x e1 h1 => ∃ k, x = .v (.bl k) ∧ ifP k (Q (.v (.bl true)) e1 h1) (wb e1 h1 Q)) := by
  refine ⟨fun wh pins s σ H Q I ⟨T, ρ, env, vh, R, w⟩ => (pw_or ha hb).run wh pins s σ H Q I ⟨T, ρ, env, vh, R, ma _ _ _ _ (fun x e1 h1 ⟨k, ex, z⟩ => ⟨k, ex, fun ρ' H' m R' => ?_⟩) w⟩⟩
  cases k with
  | true =>
    obtain ⟨k', ek, z⟩ := z
    cases ek
    exact L2.iteT (z ρ' H' m R')
  | false => exact L2.iteF ⟨T, ρ', e1, h1, R', mb _ _ _ _ (fun y e2 h2 ⟨k, ey, z⟩ => ⟨k, ey, fun ρ2 H2 m2 R2 => z ρ2 H2 (m.trans m2) R2⟩) z⟩
theorem re_and (o : XOk X G B K Φ Γ fs) {a b : Expr} {rest : List Expr} {pos : Pos} {wa wb : VE → VH → QE → Prop} (ma : ∀ env vh (Q Q' : QE), (∀ x e h, Q x e h → Q' x e h) → wa env vh Q → wa env vh Q') (mb : ∀ env vh (Q Q' : QE), (∀ x e h, Q x e h → Q' x e h) → wb env vh Q → wb env vh Q')
    (ha : PE X a (tD G B wa)) (hb : PE X (.BoolOp .And (b :: rest) pos) (tD G B wb)) : PE X (.BoolOp .And (a :: b :: rest) pos) (tD G B fun env vh Q => wa env vh fun x e1 h1 => ∃ d k, x = .v d ∧ (deref h1 d).bind truD = some k ∧ ifP k (wb e1 h1 Q) (Q x e1 h1)) :=
  (pe_andT ha hb).imp fun σ H Q ⟨T, ρ, env, vh, R, w⟩ => ⟨T, ρ, env, vh, R, ma _ _ _ _ (fun x e1 h1 ⟨d, k, ex, e, z⟩ ρ' v H' r => by
    subst ex
    obtain ⟨m, R', hv⟩ := id r
    cases q : deref h1 d with
    | none => rw [q] at e; cases e
    | some d' =>
      rw [q] at e
      refine ⟨k, RW.tru o.hK (deref_rw R' hv.w q) e, ?_⟩
      cases k with
      | false => exact L2.iteF (z ρ' v H' r)
      | true => exact L2.iteT ⟨T, ρ', e1, h1, R', mb _ _ _ _ (fun y e2 h2 z ρ2 v2 H2 r2 => z ρ2 v2 H2 (Res.moved m r2)) z⟩) w⟩
theorem re_or (o : XOk X G B K Φ Γ fs) {a b : Expr} {rest : List Expr} {pos : Pos} {wa wb : VE → VH → QE → Prop} (ma : ∀ env vh (Q Q' : QE), (∀ x e h, Q x e h → Q' x e h) → wa env vh Q → wa env vh Q') (mb : ∀ env vh (Q Q' : QE), (∀ x e h, Q x e h → Q' x e h) → wb env vh Q → wb env vh Q')
    (ha : PE X a (tD G B wa)) (hb : PE X (.BoolOp .Or (b :: rest) pos) (tD G B wb)) : PE X (.BoolOp .Or (a :: b :: rest) pos) (tD G B fun env vh Q => wa env vh fun x e1 h1 => ∃ d k, x = .v d ∧ (deref h1 d).bind truD = some k ∧ ifP k (Q x e1 h1) (wb e1 h1 Q)) :=
  (pe_orT ha hb).imp fun σ H Q ⟨T, ρ, env, vh, R, w⟩ => ⟨T, ρ, env, vh, R, ma _ _ _ _ (fun x e1 h1 ⟨d, k, ex, e, z⟩ ρ' v H' r => by
    subst ex
    obtain ⟨m, R', hv⟩ := id r
    cases q : deref h1 d with
    | none => rw [q] at e; cases e
    | some d' =>
      rw [q] at e
      refine ⟨k, RW.tru o.hK (deref_rw R' hv.w q) e, ?_⟩
      cases k with
      | true => exact L2.iteT (z ρ' v H' r)
      | false => exact L2.iteF ⟨T, ρ', e1, h1, R', mb _ _ _ _ (fun y e2 h2 z ρ2 v2 H2 r2 => z ρ2 v2 H2 (Res.moved m r2)) z⟩) w⟩
theorem rt_not {a : Expr} {pos : Pos} {wa : VE → VH → QE → Prop} (ma : ∀ env vh (Q Q' : QE), (∀ x e h, Q x e h → Q' x e h) → wa env vh Q → wa env vh Q') (ha : PT X a (tB G B wa)) :
    PT X (.UnaryOp .Not a pos) (tB G B fun env vh Q => wa env vh fun x e1 h1 => ∃ k, x = .v (.bl k) ∧ Q (.v (.bl (!k))) e1 h1) :=
  (pt_not ha).imp fun σ H Q ⟨T, ρ, env, vh, R, w⟩ => ⟨T, ρ, env, vh, R, ma _ _ _ _ (fun x e1 h1 ⟨k, ex, k', ek, z⟩ => ⟨k, ex, fun ρ' H' m R' => by cases ek; exact z ρ' H' m R'⟩) w⟩
theorem re_not (o : XOk X G B K Φ Γ fs) {a : Expr} {pos : Pos} {wa : VE → VH → (Op → VE → VH → Prop) → Prop} (ma : ∀ env vh (Q Q' : Op → VE → VH → Prop), (∀ x e h, Q x e h → Q' x e h) → wa env vh Q → wa env vh Q') (ha : PE X a (tO G B wa)) :
    PE X (.UnaryOp .Not a pos) (tD G B fun env vh Q => wa env vh fun x e1 h1 => ∃ d k, x.ld e1 h1 = some d ∧ truD d = some k ∧ Q (.v (.bl (!k))) e1 h1) :=
  (pe_notT ha).imp fun σ H Q ⟨T, ρ, env, vh, R, w⟩ => ⟨T, ρ, env, vh, R, ma _ _ _ _ (fun x e1 h1 ⟨d, k, e1, e2, z⟩ ρ' v H' m R' ov => ⟨k, RW.tru o.hK (ov.rw R' e1) e2, z ρ' _ H' ⟨m, R', rfl⟩⟩) w⟩
theorem re_ite {c a b : Expr} {pos : Pos} {wc wa wb : VE → VH → QE → Prop} (mc : ∀ env vh (Q Q' : QE), (∀ x e h, Q x e h → Q' x e h) → wc env vh Q → wc env vh Q') (ma : ∀ env vh (Q Q' : QE), (∀ x e h, Q x e h → Q' x e h) → wa env vh Q → wa env vh Q') (mb : ∀ env vh (Q Q' : QE), (∀ x e h, Q x e h → Q' x e h) → wb env vh Q → wb env vh Q')
    (hc : PT X c (tB G B wc)) (ha : PE X a (tD G B wa)) (hb : PE X b (tD G B wb)) : PE X (.IfExp c a b pos) (tD G B fun env vh Q => wc env vh fun x e1 h1 => ∃ k, x = .v (.bl k) ∧ ifP k (wa e1 h1 Q) (wb e1 h1 Q)) :=
  (pe_ifExp hc ha hb).imp fun σ H Q ⟨T, ρ, env, vh, R, w⟩ => ⟨T, ρ, env, vh, R, mc _ _ _ _ (fun x e1 h1 ⟨k, ex, z⟩ => ⟨k, ex, fun ρ' H' m R' => by
    cases k with
    | true => exact L2.iteT ⟨T, ρ', e1, h1, R', ma _ _ _ _ (fun y e2 h2 z ρ2 v2 H2 r2 => z ρ2 v2 H2 (Res.moved m r2)) z⟩
    | false => exact L2.iteF ⟨T, ρ', e1, h1, R', mb _ _ _ _ (fun y e2 h2 z ρ2 v2 H2 r2 => z ρ2 v2 H2 (Res.moved m r2)) z⟩⟩) w⟩
theorem pt_ifExp {c a b : Expr} {pos : Pos} {tc ta tb : TT} (hc : PT X c tc) (ha : PT X a ta) (hb : PT X b tb) : PT X (.IfExp c a b pos) (fun σ H Q => tc σ H fun k H1 => if k = true then ta σ H1 Q else tb σ H1 Q) := by
  refine ⟨fun pins s σ H Q I h => ?_⟩
  refine isTrue_IfExp (thn (hc.run pins s σ H _ I h) fun d s1 ⟨H1, I1, q1⟩ => ?_)
  cases d with
  | true => exact ha.run pins s1 σ H1 Q I1 q1
  | false => exact hb.run pins s1 σ H1 Q I1 q1
theorem rt_ite {c a b : Expr} {pos : Pos} {wc wa wb : VE → VH → QE → Prop} (mc : ∀ env vh (Q Q' : QE), (∀ x e h, Q x e h → Q' x e h) → wc env vh Q → wc env vh Q') (ma : ∀ env vh (Q Q' : QE), (∀ x e h, Q x e h → Q' x e h) → wa env vh Q → wa env vh Q') (mb : ∀ env vh (Q Q' : QE), (∀ x e h, Q x e h → Q' x e h) → wb env vh Q → wb env vh Q')
    (hc : PT X c (tB G B wc)) (ha : PT X a (tB G B wa)) (hb : PT X b (tB G B wb)) : PT X (.IfExp c a b pos) (tB G B fun env vh Q => wc env vh fun x e1 h1 => ∃ k, x = .v (.bl k) ∧ ifP k (wa e1 h1 Q) (wb e1 h1 Q)) :=
  (pt_ifExp hc ha hb).imp fun σ H Q ⟨T, ρ, env, vh, R, w⟩ => ⟨T, ρ, env, vh, R, mc _ _ _ _ (fun x e1 h1 ⟨k, ex, z⟩ => ⟨k, ex, fun ρ' H' m R' => by
    cases k with
    | true => exact L2.iteT ⟨T, ρ', e1, h1, R', ma _ _ _ _ (fun y e2 h2 ⟨k, ek, z⟩ => ⟨k, ek, fun ρ2 H2 m2 R2 => z ρ2 H2 (m.trans m2) R2⟩) z⟩
    | false => exact L2.iteF ⟨T, ρ', e1, h1, R', mb _ _ _ _ (fun y e2 h2 ⟨k, ek, z⟩ => ⟨k, ek, fun ρ2 H2 m2 R2 => z ρ2 H2 (m.trans m2) R2⟩) z⟩⟩) w⟩

/-! ### items, slices -/
theorem re_idx (o : XOk X G B K Φ Γ fs) {a b : Expr} {pos : Pos} {wa wb : VE → VH → (Op → VE → VH → Prop) → Prop} (ma : ∀ env vh (Q Q' : Op → VE → VH → Prop), (∀ x e h, Q x e h → Q' x e h) → wa env vh Q → wa env vh Q') (mb : ∀ env vh (Q Q' : Op → VE → VH → Prop), (∀ x e h, Q x e h → Q' x e h) → wb env vh Q → wb env vh Q')
    (ha : PE X a (tO G B wa)) (hb : PE X b (tO G B wb)) (hs : PlainIx b) :
    PE X (.Subscript a b pos) (tD G B fun env vh Q => wa env vh fun x e1 h1 => wb e1 h1 fun y e2 h2 => ∃ c d, x.ld e2 h2 = some c ∧ y.ld e2 h2 = some d ∧ wpIdx c d fun z => fin false (.v z) e2 h2 Q) :=
  (pe_ix (ix_d o.hK) ha hb hs).imp fun σ H Q ⟨T, ρ, env, vh, R, w⟩ => tO2 ma mb R w fun x y ρ' env' vh' v u H' m R' ox oy ⟨c, d, e1, e2, q⟩ =>
    ⟨_, ρ', c, d, ox.rw R' e1, oy.rw R' e2, wpIdx_mono (fun z k v hv => k ρ' v H' ⟨m, R', hv⟩) q⟩
/-- a slice's part -/
theorem ro_part {e : Expr} {w : VE → VH → QE → Prop} (h : PE X e (tD G B w)) : PO X (some e) (tPart (tD G B w)) := po_some h
theorem re_sli (o : XOk X G B K Φ Γ fs) {a : Expr} {lo hi : Option Expr} {pos p2 : Pos} {wa : VE → VH → (Op → VE → VH → Prop) → Prop} {wl wh : VE → VH → QE → Prop} (ma : ∀ env vh (Q Q' : Op → VE → VH → Prop), (∀ x e h, Q x e h → Q' x e h) → wa env vh Q → wa env vh Q')
    (ml : ∀ env vh (Q Q' : QE), (∀ x e h, Q x e h → Q' x e h) → wl env vh Q → wl env vh Q') (mh : ∀ env vh (Q Q' : QE), (∀ x e h, Q x e h → Q' x e h) → wh env vh Q → wh env vh Q') (ha : PE X a (tO G B wa))
    (hl : (lo = none ∧ ∀ env vh Q, wl env vh Q → Q (.v .non) env vh) ∨ ∃ e, lo = some e ∧ PE X e (tD G B wl)) (hh : (hi = none ∧ ∀ env vh Q, wh env vh Q → Q (.v .non) env vh) ∨ ∃ e, hi = some e ∧ PE X e (tD G B wh)) :
    PE X (.Subscript a (.Slice lo hi none p2) pos) (tD G B fun env vh Q => wa env vh fun x e1 h1 => wl e1 h1 fun l e2 h2 => ∃ i, partD l = some i ∧ wh e2 h2 fun u e3 h3 => ∃ c j, x.ld e3 h3 = some c ∧ partD u = some j ∧ wpSli c i j fun z => fin false z e3 h3 Q) := by
  have part : ∀ {q : Option Expr} {w : VE → VH → QE → Prop}, (∀ env vh (Q Q' : QE), (∀ x e h, Q x e h → Q' x e h) → w env vh Q → w env vh Q') → ((q = none ∧ ∀ env vh Q, w env vh Q → Q (.v .non) env vh) ∨ ∃ e, q = some e ∧ PE X e (tD G B w)) →
      PO X q (fun σ H Q => ∃ T ρ env vh, Rel G B T ρ env vh σ H ∧ w env vh fun x e1 h1 => ∃ i, partD x = some i ∧ ∀ ρ' H', Mv (ZZ B.F T ρ env σ) ρ H (ZZ B.F T ρ' e1 σ) ρ' H' → Rel G B T ρ' e1 h1 σ H' → Q i H') := by
    rintro q w mono (⟨rfl, h⟩ | ⟨e, rfl, h⟩)
    · refine ⟨fun pins s σ H Q I ⟨T, ρ, env, vh, R, z⟩ => po_none.run pins s σ H Q I ?_⟩
      obtain ⟨i, ei, z⟩ := h _ _ _ z
      cases ei
      exact z ρ H Mv.refl R
    · refine ⟨fun pins s σ H Q I hw => ?_⟩
      obtain ⟨T, ρ, env, vh, R, z⟩ := hw
      rw [evalPart_some]
      have hz : tD G B w σ H (fun v H1 => ∃ o, ((o = none ∧ v = .non) ∨ ∃ i, v = .int i ∧ o = some i) ∧ Q o H1) := by
        refine ⟨T, ρ, env, vh, R, mono _ _ _ _ (fun x e1 h1 y ρ' v H' r => ?_) z⟩
        obtain ⟨i, ei, z⟩ := y
        obtain ⟨m, R', hv⟩ := r.d
        cases x with
        | fr ds => cases ei
        | v d =>
          cases d with
          | int k =>
            cases ei
            exact ⟨_, .inr ⟨k, hv, rfl⟩, z ρ' H' m R'⟩
          | non =>
            cases ei
            exact ⟨_, .inl ⟨rfl, hv⟩, z ρ' H' m R'⟩
          | _ => cases ei
      refine thn (h.run pins s σ H _ I hz) fun u s1 y => ?_
      obtain ⟨v, H1, I1, r1, oo, q1, q2⟩ := y
      rcases q1 with ⟨rfl, rfl⟩ | ⟨i, rfl, rfl⟩
      · cases r1
        exact ⟨none, H1, I1, .none, q2⟩
      · obtain ⟨t, rfl⟩ := r1
        exact ⟨some i, H1, I1, .int i t, q2⟩
  refine (pe_slice (sl_d o.hK) ha (part ml hl) (part mh hh)).imp fun σ H Q ⟨T, ρ, env, vh, R, w⟩ => ?_
  refine ⟨T, ρ, env, vh, R, ma _ _ _ _ (fun x e1 h1 k ρ1 v1 H1 m1 R1 o1 => ?_) w⟩
  refine ⟨T, ρ1, e1, h1, R1, ml _ _ _ _ (fun l e2 h2 ⟨i, ql, k⟩ => ⟨i, ql, fun ρ2 H2 m2 R2 => ?_⟩) k⟩
  refine ⟨T, ρ2, e2, h2, R2, mh _ _ _ _ (fun u e3 h3 ⟨c, j, p1, p3, z⟩ => ⟨j, p3, fun ρ3 H3 m3 R3 => ?_⟩) k⟩
  exact ⟨_, ρ3, c, ((o1.move m2).move m3).rw R3 p1, wpSli_mono (fun z k v H4 out => k ρ3 v H4 (Res.of_out ((m1.trans m2).trans m3) R3 out)) z⟩

/-! ### lists of parts -/
theorem ra_nil : PA X [] (tL G B fun env vh Q => Q [] env vh) := pa_nil.imp fun σ H Q ⟨T, ρ, env, vh, R, w⟩ => w ρ [] H Mv.refl R rfl
theorem ra_cons {e : Expr} {es : List Expr} {w : VE → VH → QE → Prop} {ws : VE → VH → (List D → VE → VH → Prop) → Prop} (m1 : ∀ env vh (Q Q' : QE), (∀ x e h, Q x e h → Q' x e h) → w env vh Q → w env vh Q') (m2 : ∀ env vh (Q Q' : List D → VE → VH → Prop), (∀ x e h, Q x e h → Q' x e h) → ws env vh Q → ws env vh Q')
    (h1 : PE X e (tD G B w)) (h2 : PA X es (tL G B ws)) (hs : starEach (e :: es) X.env = (false, eval e X.env) :: starEach es X.env) :
    PA X (e :: es) (tL G B fun env vh Q => w env vh fun x e1 h1 => ws e1 h1 fun xs e2 h2 => Q (x.d :: xs) e2 h2) :=
  (pa_cons h1 h2 hs).imp fun σ H Q ⟨T, ρ, env, vh, R, q⟩ => ⟨T, ρ, env, vh, R, m1 _ _ _ _ (fun x e1 h1 k ρ1 v H1 r => by
    obtain ⟨mv, R1, hv⟩ := r.d
    exact ⟨T, ρ1, e1, h1, R1, m2 _ _ _ _ (fun xs e2 h2 k ρ2 vs H2 mv2 R2 hvs => k ρ2 (v :: vs) H2 (mv.trans mv2) R2 ⟨v, vs, rfl, RD.move mv2 _ _ hv, hvs⟩) k⟩) q⟩
theorem ros_nil : PA X [] (tOs G B fun env vh Q => Q [] env vh) := pa_nil.imp fun σ H Q ⟨T, ρ, env, vh, R, w⟩ => w ρ [] H Mv.refl R rfl
theorem OpVs.move {Z Z' : Addr → Prop} {ρ ρ' : List Addr} {H H' : Hp} {σ : L2.St} (m : Mv Z ρ H Z' ρ' H') : ∀ {os : List Op} {vs : List V}, OpVs G Z ρ H σ os vs → OpVs G Z' ρ' H' σ os vs
  | [], vs, h => h
  | o :: os, vs, h => by
    obtain ⟨v, r, e, h1, h2⟩ := h
    exact ⟨v, r, e, h1.move m, OpVs.move m h2⟩
theorem ros_cons {e : Expr} {es : List Expr} {w : VE → VH → (Op → VE → VH → Prop) → Prop} {ws : VE → VH → (List Op → VE → VH → Prop) → Prop} (m1 : ∀ env vh (Q Q' : Op → VE → VH → Prop), (∀ x e h, Q x e h → Q' x e h) → w env vh Q → w env vh Q') (m2 : ∀ env vh (Q Q' : List Op → VE → VH → Prop), (∀ x e h, Q x e h → Q' x e h) → ws env vh Q → ws env vh Q')
    (h1 : PE X e (tO G B w)) (h2 : PA X es (tOs G B ws)) (hs : starEach (e :: es) X.env = (false, eval e X.env) :: starEach es X.env) :
    PA X (e :: es) (tOs G B fun env vh Q => w env vh fun x e1 h1 => ws e1 h1 fun xs e2 h2 => Q (x :: xs) e2 h2) :=
  (pa_cons h1 h2 hs).imp fun σ H Q ⟨T, ρ, env, vh, R, q⟩ => ⟨T, ρ, env, vh, R, m1 _ _ _ _ (fun x e1 h1 k ρ1 v H1 mv R1 ov =>
    ⟨T, ρ1, e1, h1, R1, m2 _ _ _ _ (fun xs e2 h2 k ρ2 vs H2 mv2 R2 ovs => k ρ2 (v :: vs) H2 (mv.trans mv2) R2 ⟨v, vs, rfl, ov.move mv2, ovs⟩) k⟩) q⟩
theorem re_tup {es : List Expr} {x1 : Nat} {pos : Pos} {ws : VE → VH → (List D → VE → VH → Prop) → Prop} (m : ∀ env vh (Q Q' : List D → VE → VH → Prop), (∀ x e h, Q x e h → Q' x e h) → ws env vh Q → ws env vh Q') (h : PA X es (tL G B ws)) :
    PE X (.Tuple es x1 pos) (tD G B fun env vh Q => ws env vh fun ds e1 h1 => ds.length ≤ 16777216 ∧ fin false (.v (.tup ds)) e1 h1 Q) :=
  (pe_tup h).imp fun σ H Q ⟨T, ρ, env, vh, R, w⟩ => ⟨T, ρ, env, vh, R, m _ _ _ _ (fun ds e1 h1 ⟨hz, k⟩ ρ' vs H' mv R' hv => ⟨by rw [sizeLine_eq, ← hv.length]; exact hz, fun p hp => k ρ' _ _ (Res.of_out mv R' (out_tup hp hv))⟩) w⟩
theorem re_lst {es : List Expr} {pos : Pos} {ws : VE → VH → (List D → VE → VH → Prop) → Prop} (m : ∀ env vh (Q Q' : List D → VE → VH → Prop), (∀ x e h, Q x e h → Q' x e h) → ws env vh Q → ws env vh Q') (h : PA X es (tL G B ws)) :
    PE X (.List es pos) (tD G B fun env vh Q => ws env vh fun ds e1 h1 => ds.length ≤ 16777216 ∧ fin false (.fr ds) e1 h1 Q) :=
  (pe_lst h).imp fun σ H Q ⟨T, ρ, env, vh, R, w⟩ => ⟨T, ρ, env, vh, R, m _ _ _ _ (fun ds e1 h1 ⟨hz, k⟩ ρ' vs H' mv R' hv => ⟨by rw [sizeLine_eq, ← hv.length]; exact hz, fun p hp => k ρ' _ _ (Res.of_out mv R' (out_lst hp hv))⟩) w⟩

/-! ### calls -/
theorem re_blt (o : XOk X G B K Φ Γ fs) (hc : hotN ∉ fs) {f : Bf} {x : Str} {e : Expr} {es : List Expr} {p pos : Pos} {ws : VE → VH → (List Op → VE → VH → Prop) → Prop} (m : ∀ env vh (Q Q' : List Op → VE → VH → Prop), (∀ x e h, Q x e h → Q' x e h) → ws env vh Q → ws env vh Q')
    (h : PA X (e :: es) (tOs G B ws)) (hx : x = bltN f) (hg : Gl X x) (he : starEach (e :: es) X.env = (false, eval e X.env) :: starEach es X.env) (hpl : (backTo pos (starEach es X.env)).any (·.1) = false) :
    PE X (.Call (.Name x p) (e :: es) [] pos) (tD G B fun env vh Q => ws env vh fun xs e1 h1 => ∃ ds, ldAll e1 h1 xs = some ds ∧ wpBlt f ds fun z => fin false z e1 h1 Q) := by
  have fin_ : ∀ {t0 : TE}, t0 = tCB (fun xs H Q => ∃ Z ρ ds, RWs G Z ρ H ds xs ∧ wpBlt f ds fun z => ∀ v H', OutV G Z ρ H z v H' → Q v H') (tOs G B ws) → ∀ σ H Q, tD G B (fun env vh Q => ws env vh fun xs e1 h1 => ∃ ds, ldAll e1 h1 xs = some ds ∧ wpBlt f ds fun z => fin false z e1 h1 Q) σ H Q → t0 σ H Q := by
    rintro t0 rfl σ H Q ⟨T, ρ, env, vh, R, w⟩
    exact ⟨T, ρ, env, vh, R, m _ _ _ _ (fun xs e1 h1 ⟨ds, ed, k⟩ ρ' vs H' mv R' hv => ⟨_, ρ', ds, OpVs.rw R' hv ed, wpBlt_mono (fun z k v H1 out => k ρ' v H1 (Res.of_out mv R' out)) k⟩) w⟩
  have hm : X.mg x = none := o.bl x (by rw [hx]; cases f <;> decide +kernel)
  subst hx
  cases f with
  | len => exact (pe_callB (call_d o.hK (o.calm hc) .len) hg hm (by decide +kernel) h (by decide +kernel) (by decide +kernel) he hpl).imp (fin_ rfl)
  | int => exact (pe_callTy (call_d o.hK (o.calm hc) .int) hg hm (by decide +kernel) h (by decide +kernel) (by decide +kernel) he hpl).imp (fin_ rfl)
  | bool => exact (pe_callTy (call_d o.hK (o.calm hc) .bool) hg hm (by decide +kernel) h (by decide +kernel) (by decide +kernel) he hpl).imp (fin_ rfl)
  | str => exact (pe_callTy (call_d o.hK (o.calm hc) .str) hg hm (by decide +kernel) h (by decide +kernel) (by decide +kernel) he hpl).imp (fin_ rfl)
  | tuple => exact (pe_callTy (call_d o.hK (o.calm hc) .tuple) hg hm (by decide +kernel) h (by decide +kernel) (by decide +kernel) he hpl).imp (fin_ rfl)
  | list => exact (pe_callTy (call_d o.hK (o.calm hc) .list) hg hm (by decide +kernel) h (by decide +kernel) (by decide +kernel) he hpl).imp (fin_ rfl)
  | abs => exact (pe_callB (call_d o.hK (o.calm hc) .abs) hg hm (by decide +kernel) h (by decide +kernel) (by decide +kernel) he hpl).imp (fin_ rfl)
  | min2 => exact (pe_callB (call_d o.hK (o.calm hc) .min2) hg hm (by decide +kernel) h (by decide +kernel) (by decide +kernel) he hpl).imp (fin_ rfl)
  | max2 => exact (pe_callB (call_d o.hK (o.calm hc) .max2) hg hm (by decide +kernel) h (by decide +kernel) (by decide +kernel) he hpl).imp (fin_ rfl)
  | sum => exact (pe_callB (call_d o.hK (o.calm hc) .sum) hg hm (by decide +kernel) h (by decide +kernel) (by decide +kernel) he hpl).imp (fin_ rfl)
  | all => exact (pe_callB (call_d o.hK (o.calm hc) .all) hg hm (by decide +kernel) h (by decide +kernel) (by decide +kernel) he hpl).imp (fin_ rfl)
  | any => exact (pe_callB (call_d o.hK (o.calm hc) .any) hg hm (by decide +kernel) h (by decide +kernel) (by decide +kernel) he hpl).imp (fin_ rfl)
  | sorted => exact (pe_callB (call_d o.hK (o.calm hc) .sorted) hg hm (by decide +kernel) h (by decide +kernel) (by decide +kernel) he hpl).imp (fin_ rfl)
  | min1 => exact (pe_callB (call_d o.hK (o.calm hc) .min1) hg hm (by decide +kernel) h (by decide +kernel) (by decide +kernel) he hpl).imp (fin_ rfl)
  | max1 => exact (pe_callB (call_d o.hK (o.calm hc) .max1) hg hm (by decide +kernel) h (by decide +kernel) (by decide +kernel) he hpl).imp (fin_ rfl)

theorem res_of_f {x : DV} {v : V} {ρ' : List Addr} {vh' : VH} {H' : Hp} (R : Rel G B T ρ env vh σ H) (r : ResF G (B.callee T ρ env σ H) x v ρ' vh' H') : Res G B T ρ env σ H x v ρ' env vh' H' := by
  cases x with
  | v d =>
    obtain ⟨S, h⟩ := r
    have m := R.backMv S
    have S2 := R.back S
    rw [Rel.backZ (B := B) (H := H) (H' := H')] at h
    exact ⟨m, S2, h⟩
  | fr ds =>
    obtain ⟨a, vs, e, h1, S, h⟩ := r
    have m := R.backMv S
    have S2 := R.back S
    rw [Rel.backZ (B := B) (H := H) (H' := H')] at h
    exact ⟨a, vs, e, h1, m, S2, h⟩
/-- the heart of a call -/
theorem call_hw {sp : VSp} {ds : List D} {vs : List V} {Q : VK} {Kx : XP} {QQ : DV → VH → Prop} (R : Rel G B T ρ env vh σ H) (h : RDs G (ZZ B.F T ρ env σ) ρ H ds vs)
    (w : sp.run ds vh fun o h2 => match o with
      | .ok x => QQ x h2
      | .exc c xs => Kx c xs env h2) (f : ∀ x h2, QQ x h2 → ∀ ρ' v H', Res G B T ρ env σ H x v ρ' env h2 H' → Q v H') : spV G sp vs H Q (WE (WK G B Kx) σ) := by
  have hh : RDs G (ZZ (B.callee T ρ env σ H).F [] ρ [] []) ρ H ds vs := by rw [calleeZ]; exact h
  refine ⟨(B.callee T ρ env σ H).F, ρ, vh, ds, R.enter, hh, sp.mono _ _ _ _ (fun o h2 k => ?_) w⟩
  cases o with
  | ok x => exact fun ρ' v H' r => f x h2 k ρ' v H' (res_of_f R r)
  | exc c xs =>
    intro ρ' C d H' hc S hx
    have S2 := R.back S
    have hx2 : XF G (ZZ B.F ([] ++ T) ρ' env σ) ρ' H' (G.fl c) d xs := by rw [← Rel.backZ (B := B) (T := T) (ρ := ρ) (env := env) (σ := σ) (H := H) (H' := H')]; exact hx
    exact ⟨c, C, xs, [] ++ T, ρ', env, h2, hc, rfl, S2, hx2, k⟩
theorem pe_callS0 {k : Nat} {f : Addr} {fd : FuncData} {ps : List Str} {sp : Sp} {E : L2.St → XK} {x : Str} {p pos : Pos} (F : FnOk X.prog X.w X.K X.mg X.base (L2.CX X.prog X.w) k f fd ps sp) (hr : Room k X.A) (hg : Gl X x) (hm : X.mg x = some (.ref f)) (hk : PySem.W.keepIn X.K (.ref f) = true) (hb : Binds X.K fd ps []) (hx : ∀ σ, PassesAt (L2.CX X.prog X.w) X σ (E σ))
    (hdb : (x == ("__debug__" : Str)) = false) : PE X (.Call (.Name x p) [] [] pos) (tCallS sp E tNil) := by
  refine ⟨fun pins s σ H Q I h => ?_⟩
  refine wpAny_Call_Name_kw (ld_glob I hg hm ?_ hdb)
  exact PySem.W.callWith_K0 I.kIn hk (run_fnS (us := []) F hr hb (hx σ) I .nil h)
theorem re_call (o : XOk X G B K Φ Γ fs) {f : Str} {e : Expr} {es : List Expr} {p pos : Pos} {ws : VE → VH → (List D → VE → VH → Prop) → Prop} (m : ∀ env vh (Q Q' : List D → VE → VH → Prop), (∀ x e h, Q x e h → Q' x e h) → ws env vh Q → ws env vh Q')
    (h : PA X (e :: es) (tL G B ws)) (hf : f ∈ fs) (hn : f ≠ hotN) (hg : Gl X f) (he : starEach (e :: es) X.env = (false, eval e X.env) :: starEach es X.env) (hpl : (backTo pos (starEach es X.env)).any (·.1) = false) :
    PE X (.Call (.Name f p) (e :: es) [] pos) (tD G B fun env vh Q => ws env vh fun ds e1 h1 => (Φ f).run ds h1 fun o h2 => match o with
      | .ok x => fin false x e1 h2 Q
      | .exc c xs => K c xs e1 h2) := by
  obtain ⟨a, fd, ps, k, hm, hk, hb, F, hr, hdb⟩ := o.fn f hf hn
  refine (pe_callS F hr hg hm hk hb (fun σ => passAt o.tk σ) h hdb he hpl).imp ?_
  rintro σ H Q ⟨T, ρ, env, vh, R, w⟩
  exact ⟨T, ρ, env, vh, R, m _ _ _ _ (fun ds e1 h1 z ρ1 vs H1 mv R1 hv => call_hw R1 hv z fun x h2 y ρ' v H' r => y ρ' v H' (Res.moved mv r)) w⟩
theorem re_call0 (o : XOk X G B K Φ Γ fs) {f : Str} {p pos : Pos} (hf : f ∈ fs) (hn : f ≠ hotN) (hg : Gl X f) :
    PE X (.Call (.Name f p) [] [] pos) (tD G B fun env vh Q => (Φ f).run [] vh fun o h2 => match o with
      | .ok x => fin false x env h2 Q
      | .exc c xs => K c xs env h2) := by
  obtain ⟨a, fd, ps, k, hm, hk, hb, F, hr, hdb⟩ := o.fn f hf hn
  refine (pe_callS0 F hr hg hm hk hb (fun σ => passAt o.tk σ) hdb).imp ?_
  rintro σ H Q ⟨T, ρ, env, vh, R, w⟩
  exact call_hw R (ds := []) rfl w fun x h2 y ρ' v H' r => y ρ' v H' r

/-! ### attributes -/
theorem re_attr (o : XOk X G B K Φ Γ fs) {i : Nat} {f : Str} {e : Expr} {pos : Pos} (he : PE X e (tVar i)) (hb : ∀ n, attributeBase e n X.env (eval e X.env) = eval e X.env) :
    PE X (.Attribute e f pos) (tD G B fun env vh Q => wpE Φ Γ (.attr (.bor i) f) K false env vh Q) := by
  by_cases hc : hotN ∈ fs
  · exact (o.er hc i f e pos he hb).imp fun σ H Q ⟨T, ρ, env, vh, R, hs, d, e1, w⟩ => ⟨T, ρ, env, vh, R, d, e1, w⟩
  · refine ⟨fun pins s σ H Q I ⟨T, ρ, env, vh, R, hs, d, e1, w⟩ => ?_⟩
    have no : Γ "%a" = none := by
      cases q : Γ "%a" with
      | none => rfl
      | some x => exact absurd (o.ok hc _ _ q) (by decide +kernel)
    unfold wpAttr at w
    split at w
    · rw [no] at w
      exact absurd w.1 (by simp)
    · exact w.elim
/-! ### isinstance -/
theorem pa_tys (o : XOk X G B K Φ Γ fs) : ∀ (ns : List String) (es : List Expr), Paired (fun n e => ∃ p, e = Expr.Name (Str.ofString n) p ∧ okTy n = true ∧ Gl X (Str.ofString n)) ns es → PA X es (fun _ H Q => Q (ns.map V.ty) H)
  | [], _, .nil => pa_nil
  | n :: ns, _, .cons (b := e) h t => by
    obtain ⟨p, rfl, h2, h3⟩ := h
    have hm : X.mg (Str.ofString n) = none ∧ bootBuiltins (Str.ofString n) = some (.type n) ∧ (Str.ofString n) ≠ "__name__" ∧ ((Str.ofString n) == ("__debug__" : Str)) = false := by
      have hmem := okTy_mem h2
      have tb : ∀ x ∈ (["int", "bool", "str", "tuple", "list", "dict"] : List String), (Str.ofString x) ∈ bltNames ∧ bootBuiltins (Str.ofString x) = some (.type x) ∧ (Str.ofString x) ≠ "__name__" ∧ ((Str.ofString x) == ("__debug__" : Str)) = false := by decide +kernel
      obtain ⟨q1, q2, q3, q4⟩ := tb n hmem
      exact ⟨o.bl _ q1, q2, q3, q4⟩
    exact (pa_cons (pe_bltn (v := .ty n) (u := .type n) h3 hm.1 hm.2.1 rfl hm.2.2.1 hm.2.2.2) (pa_tys o ns _ t) rfl).imp fun σ H Q w => w
/-- the classes that isinstance is asked for -/
def tysOf : Expr → Option (List String)
  | .Name x _ => (["int", "bool", "str", "tuple", "list", "dict"] : List String).find? (fun n => Str.ofString n == x) |>.map fun n => [n]
  | _ => none
theorem OpV.ty (hK : X.K = G.K) (R : Rel G B T ρ env vh σ H) {x : Op} {v : V} {d : D} {n : String} (h : OpV G (ZZ B.F T ρ env σ) ρ H σ x v) (e : x.ld env vh = some d) (t : tyD d = some n) : TyX X.K H v (.type n) := RW.ty hK (h.rw R e) t
theorem paired_cls : ∀ ns : List String, Paired ClsV (ns.map V.ty) (ns.map Value.type)
  | [] => .nil
  | n :: ns => .cons (.ty n) (paired_cls ns)
theorem re_isi1 (o : XOk X G B K Φ Γ fs) {a : Expr} {n : String} {p p2 pos : Pos} {wa : VE → VH → (Op → VE → VH → Prop) → Prop} (ma : ∀ env vh (Q Q' : Op → VE → VH → Prop), (∀ x e h, Q x e h → Q' x e h) → wa env vh Q → wa env vh Q')
    (ha : PE X a (tO G B wa)) (hg : Gl X "isinstance") (hgn : Gl X (Str.ofString n)) (hn : okTy n = true) (he : starEach [a, .Name (Str.ofString n) p2] X.env = (false, eval a X.env) :: starEach [.Name (Str.ofString n) p2] X.env) :
    PE X (.Call (.Name "isinstance" p) [a, .Name (Str.ofString n) p2] [] pos) (tD G B fun env vh Q => wa env vh fun x e1 h1 => ∃ d m, x.ld e1 h1 = some d ∧ tyD d = some m ∧ [n].all okTy = true ∧ fin false (.v (.bl ([n].any (isTy m)))) e1 h1 Q) := by
  have pa : PA X [a, .Name (Str.ofString n) p2] (tCons (tO G B wa) (fun _ H Q => Q ([n].map V.ty) H)) := pa_cons ha (pa_tys o [n] [_] (.cons ⟨p2, rfl, hn, hgn⟩ .nil)) he
  refine (pe_callB call_isi hg (o.bl _ (by decide +kernel)) (by decide +kernel) pa (by decide +kernel) (by decide +kernel) he rfl).imp ?_
  rintro σ H Q ⟨T, ρ, env, vh, R, w⟩
  refine ⟨T, ρ, env, vh, R, ma _ _ _ _ (fun x e1 h1 ⟨d, m, q1, q2, q3, q4⟩ ρ' v H' mv R' ov => ?_) w⟩
  refine ⟨v, .ty n, .type m, .type n, _, rfl, .ty n, ov.ty o.hK R' q1 q2, kit_is q2 hn, ?_⟩
  have e : [n].any (isTy m) = isTy m n := by simp
  rw [e] at q4
  exact q4 ρ' _ H' ⟨mv, R', rfl⟩
theorem re_isiT (o : XOk X G B K Φ Γ fs) {a : Expr} {ns : List String} {es : List Expr} {k : Nat} {p p2 pos : Pos} {wa : VE → VH → (Op → VE → VH → Prop) → Prop} (ma : ∀ env vh (Q Q' : Op → VE → VH → Prop), (∀ x e h, Q x e h → Q' x e h) → wa env vh Q → wa env vh Q')
    (ha : PE X a (tO G B wa)) (hg : Gl X "isinstance") (hes : Paired (fun n e => ∃ p, e = Expr.Name (Str.ofString n) p ∧ okTy n = true ∧ Gl X (Str.ofString n)) ns es) (hl : ns.length ≤ 1000)
    (he : starEach [a, .Tuple es k p2] X.env = (false, eval a X.env) :: starEach [.Tuple es k p2] X.env) :
    PE X (.Call (.Name "isinstance" p) [a, .Tuple es k p2] [] pos) (tD G B fun env vh Q => wa env vh fun x e1 h1 => ∃ d m, x.ld e1 h1 = some d ∧ tyD d = some m ∧ ns.all okTy = true ∧ fin false (.v (.bl (ns.any (isTy m)))) e1 h1 Q) := by
  have pa : PA X [a, .Tuple es k p2] (tCons (tO G B wa) (tCons (tTup fun _ H Q => Q (ns.map V.ty) H) tNil)) := pa_cons ha (pa_cons (pe_tup (pa_tys o ns es hes)) pa_nil rfl) he
  refine (pe_callB call_isiT hg (o.bl _ (by decide +kernel)) (by decide +kernel) pa (by decide +kernel) (by decide +kernel) he rfl).imp ?_
  rintro σ H Q ⟨T, ρ, env, vh, R, w⟩
  refine ⟨T, ρ, env, vh, R, ma _ _ _ _ (fun x e1 h1 ⟨d, m, q1, q2, q3, q4⟩ ρ' v H' mv R' ov => ?_) w⟩
  refine ⟨by rw [List.length_map, sizeLine_eq]; omega, fun p hp => ?_⟩
  have R2 := R'.grow (same_new (o := .tup (ns.map V.ty)) hp)
  have ov2 := ov.move (Mv.same (same_new (o := .tup (ns.map V.ty)) hp))
  refine ⟨v, p, ns.map V.ty, .type m, ns.map Value.type, _, rfl, upd_same, paired_cls ns, ov2.ty o.hK R2 q1 q2, kit_any q2 q3, ?_⟩
  exact q4 ρ' _ _ ⟨mv.trans (Mv.same (same_new hp)), R2, rfl⟩
end
end R

set_option autoImplicit false
namespace R
open PySem PySem.Spec PyProof.Rows L2
/-! ## R5: targets, what is gone through, comprehensions -/
section
variable {X : Cx} {G : Wd} {B : Base} {T ρ : List Addr} {env : VE} {vh : VH} {σ : L2.St} {H : Hp}
/-! ### targets -/
def gNames : List Nat → TGs
  | [] => gNil
  | i :: is => gCons (gName i) (gNames is)
def gOf (K : PySem.W.Frag) : Tg → TG
  | .one i => gName i
  | .many is => gTup K is.length (gNames is)
/-- the slots that a target writes, one after another -/
def setAllS (σ : L2.St) : List Nat → List V → L2.St
  | i :: is, v :: vs => setAllS (σ.set i (some v)) is vs
  | _, _ => σ
def tgIx : Tg → List Nat
  | .one i => [i]
  | .many is => is
/-- how a bound state came to be -/
inductive Set1 : List Nat → VE → L2.St → VE → L2.St → Prop where
  | nil {env : VE} {σ : L2.St} {is : List Nat} : Set1 is env σ env σ
  | cons {env env2 : VE} {σ σ2 : L2.St} {i : Nat} {is : List Nat} {d : D} {v : V} (hi : i ∈ is) (t : Set1 is (env.set i (.val d)) (σ.set i (some v)) env2 σ2) : Set1 is env σ env2 σ2
theorem Set1.weak {is js : List Nat} {env env2 : VE} {σ σ2 : L2.St} (h : Set1 is env σ env2 σ2) (s : ∀ i, i ∈ is → i ∈ js) : Set1 js env σ env2 σ2 := by
  induction h with
  | nil => exact .nil
  | cons hi _ ih => exact .cons (s _ hi) (ih s)
theorem setValMv {i : Nat} {d : D} {v : V} (R : Rel G B T ρ env vh σ H) : Mv (ZZ B.F T ρ env σ) ρ H (ZZ B.F T ρ (env.set i (.val d)) (σ.set i (some v))) ρ H := Mv.less fun a z => by
  rcases z with z | z | z | ⟨j, z⟩
  · exact .inl z
  · exact .inr (.inl z)
  · exact .inr (.inr (.inl z))
  · rcases Own.of_set z with ⟨_, ds, e, _⟩ | ⟨_, q⟩
    · cases e
    · exact .inr (.inr (.inr ⟨j, q⟩))
theorem names_bind : ∀ {is : List Nat} {ds : List D} {vs : List V} {env env2 : VE} {σ : L2.St} {Q : L2.St → Hp → Prop}, Rel G B T ρ env vh σ H → RDs G (ZZ B.F T ρ env σ) ρ H ds vs → setAllE env is ds = some env2 →
    (∀ σ2, Rel G B T ρ env2 vh σ2 H → Set1 is env σ env2 σ2 → Mv (ZZ B.F T ρ env σ) ρ H (ZZ B.F T ρ env2 σ2) ρ H → Q σ2 H) → gNames is vs σ H Q
  | [], [], vs, env, env2, σ, Q, R, h, e, k => by
    cases e
    cases (show vs = [] from h)
    exact ⟨rfl, k σ R .nil Mv.refl⟩
  | i :: is, d :: ds, vs, env, env2, σ, Q, R, h, e, k => by
    obtain ⟨v, r, rfl, h1, h2⟩ := h
    have m := setValMv (i := i) (d := d) (v := v) R
    exact ⟨v, r, rfl, names_bind (R.setVal h1) (RDs.move m _ _ h2) e fun σ2 R2 s2 m2 => k σ2 R2 (.cons (by simp) (s2.weak fun j hj => List.mem_cons_of_mem _ hj)) (m.trans m2)⟩
  | [], _ :: _, _, _, _, _, _, _, _, e, _ => by cases e
  | _ :: _, [], _, _, _, _, _, _, _, e, _ => by cases e
theorem setAllE_length : ∀ {is : List Nat} {ds : List D} {env env2 : VE}, setAllE env is ds = some env2 → ds.length = is.length
  | [], [], _, _, _ => rfl
  | i :: is, d :: ds, env, env2, e => by rw [List.length_cons, List.length_cons, setAllE_length (is := is) e]
  | [], _ :: _, _, _, e => by cases e
  | _ :: _, [], _, _, e => by cases e
theorem bind_ok {tg : Tg} {d : D} {v : V} {env2 : VE} {Q : L2.St → Hp → Prop} (R : Rel G B T ρ env vh σ H) (h : RD G (ZZ B.F T ρ env σ) ρ H d v) (e : bindT tg d env = some env2)
    (k : ∀ σ2, Rel G B T ρ env2 vh σ2 H → Set1 (tgIx tg) env σ env2 σ2 → Mv (ZZ B.F T ρ env σ) ρ H (ZZ B.F T ρ env2 σ2) ρ H → Q σ2 H) : gOf G.K tg v σ H Q := by
  cases tg with
  | one i =>
    cases e
    exact k _ (R.setVal h) (.cons (by simp [tgIx]) .nil) (setValMv R)
  | many is =>
    cases d with
    | tup ds =>
      obtain ⟨a, vs, rfl, h1, h2⟩ := h
      refine ⟨a, vs, rfl, h1, ?_, names_bind R h2 e k⟩
      rw [← h2.length]
      exact setAllE_length e
    | _ => cases e

/-! ### iterators -/
/-- what an iterator yields, as data -/
structure Wk (G : Wd) (J : It) (Z0 : Addr → Prop) (ρ0 : List Addr) (H0 : Hp) (items : List D) : Prop where
  go : ∀ i Z ρ H, Mv Z0 ρ0 H0 Z ρ H → i < items.length → J.go i H
  stop : ∀ Z ρ H, Mv Z0 ρ0 H0 Z ρ H → J.stop items.length H
  yld : ∀ i Z ρ H x H', Mv Z0 ρ0 H0 Z ρ H → i < items.length → J.yld i H x H' → ∃ d, items[i]? = some d ∧ Same H H' ∧ RD G Z ρ H' d x
def iD (G : Wd) (B : Base) (w : VE → VH → (List D → VE → VH → Prop) → Prop) : TI := fun σ H R => ∃ T ρ env vh, Rel G B T ρ env vh σ H ∧ w env vh fun items e1 h1 =>
  ∀ ρ' H' J, Mv (ZZ B.F T ρ env σ) ρ H (ZZ B.F T ρ' e1 σ) ρ' H' → Rel G B T ρ' e1 h1 σ H' → Wk G J (ZZ B.F T ρ' e1 σ) ρ' H' items → R J H'
theorem wk_list {a : Addr} {vs : List V} {items : List D} {Z0 : Addr → Prop} {ρ0 : List Addr} {H0 : Hp} (hq : ∀ Z ρ H, Mv Z0 ρ0 H0 Z ρ H → SqL G.K H a vs) (h : RDs G Z0 ρ0 H0 items vs) : Wk G (Itl G.K a) Z0 ρ0 H0 items where
  go := fun i Z ρ H m hi => by
    rw [h.length] at hi
    exact ⟨vs, vs[i], hq Z ρ H m, by simp [hi]⟩
  stop := fun Z ρ H m => ⟨vs, hq Z ρ H m, by rw [h.length]; exact Nat.le_refl _⟩
  yld := fun i Z ρ H x H' m hi y => by
    obtain ⟨e, y⟩ := y
    subst e
    obtain ⟨d, h1, h2⟩ := (RDs.move m _ _ h).getV (y vs (hq Z ρ H' m))
    exact ⟨d, h1, Same.refl _, h2⟩
theorem wk_tup {a : Addr} {vs : List V} {items : List D} {Z0 : Addr → Prop} {ρ0 : List Addr} {H0 : Hp} (hq : SqT G.K H0 a vs) (h : RDs G Z0 ρ0 H0 items vs) : Wk G (Itt G.K a) Z0 ρ0 H0 items where
  go := fun i Z ρ H m hi => by
    rw [h.length] at hi
    exact ⟨vs, vs[i], m.sqt hq, by simp [hi]⟩
  stop := fun Z ρ H m => ⟨vs, m.sqt hq, by rw [h.length]; exact Nat.le_refl _⟩
  yld := fun i Z ρ H x H' m hi y => by
    obtain ⟨e, y⟩ := y
    subst e
    obtain ⟨d, h1, h2⟩ := (RDs.move m _ _ h).getV (y vs (m.sqt hq))
    exact ⟨d, h1, Same.refl _, h2⟩
theorem wk_range {lo : Int} {n : Nat} {Z0 : Addr → Prop} {ρ0 : List Addr} {H0 : Hp} {f : Nat → D} (hf : ∀ i : Nat, f i = .int (lo + i)) : Wk G (Itr lo n) Z0 ρ0 H0 ((List.range n).map f) where
  go := fun i Z ρ H m hi => by
    rw [List.length_map, List.length_range] at hi
    exact hi
  stop := fun Z ρ H m => by simp [Itr]
  yld := fun i Z ρ H x H' m hi y => by
    obtain ⟨e, y⟩ := y
    subst e y
    simp at hi
    exact ⟨f i, by simp [hi], Same.refl _, by rw [hf]; rfl⟩
theorem wk_str {x : Str} {Z0 : Addr → Prop} {ρ0 : List Addr} {H0 : Hp} : Wk G (Its x) Z0 ρ0 H0 (x.cps.toList.map fun c => D.str ⟨#[c]⟩) where
  go := fun i Z ρ H m hi => by
    rw [List.length_map, Array.length_toList] at hi
    exact hi
  stop := fun Z ρ H m => by simp [Its]
  yld := fun i Z ρ H y H' m hi q => by
    obtain ⟨e, c, hc, rfl⟩ := q
    subst e
    exact ⟨.str ⟨#[c]⟩, by simp [hc], Same.refl _, rfl⟩
theorem ri_seq {tg e : Expr} {w : VE → VH → QE → Prop} (hK : X.K = G.K) (mono : ∀ env vh (Q Q' : QE), (∀ x e h, Q x e h → Q' x e h) → w env vh Q → w env vh Q') (he : PE X e (tD G B w)) :
    PI X tg e (iD G B fun env vh Q => w env vh fun x e1 h1 => ∃ items, itemsD .seq [x.d] = some items ∧ Q items e1 h1) := by
  refine ⟨fun pins s σ H R I ⟨T, ρ, env, vh, Rl, q⟩ => ?_⟩
  have hz : tD G B w σ H (fun v H1 => (∃ x, v = .str x ∧ R (Its x) H1) ∨ ∃ a, v = .ref a ∧ ((∃ xs, SqL X.K H1 a xs ∧ R (Itl X.K a) H1) ∨ (∃ xs, SqT X.K H1 a xs ∧ R (Itt X.K a) H1))) := by
    refine ⟨T, ρ, env, vh, Rl, mono _ _ _ _ (fun x e1 h1 ⟨items, ei, k⟩ ρ' v H' r => ?_) q⟩
    obtain ⟨m, R', hv⟩ := r.d
    cases hd : x.d with
    | tup xs =>
      rw [hd] at ei hv
      cases ei
      obtain ⟨a, vs, rfl, h1, h2⟩ := hv
      exact .inr ⟨a, rfl, .inr ⟨vs, by rw [hK]; exact h1, by rw [hK]; exact k ρ' H' _ m R' (wk_tup h1 h2)⟩⟩
    | lst xs =>
      rw [hd] at ei hv
      cases ei
      obtain ⟨a, vs, rfl, nz, h1, h2⟩ := hv
      exact .inr ⟨a, rfl, .inl ⟨vs, .of h1, by rw [hK]; exact k ρ' H' _ m R' (wk_list (fun Z ρ H m => .of (m.keep a _ nz h1).2) h2)⟩⟩
    | scr xs =>
      rw [hd] at ei hv
      cases ei
      obtain ⟨a, rfl, h1⟩ := hv
      exact .inr ⟨a, rfl, .inl ⟨_, by rw [hK]; exact h1.sq, by rw [hK]; exact k ρ' H' _ m R' (wk_list (fun Z ρ H m => (m.sqv h1).sq) (RDs.ints _))⟩⟩
    | str y =>
      rw [hd] at ei hv
      cases ei
      exact .inl ⟨y, hv, k ρ' H' _ m R' wk_str⟩
    | _ => rw [hd] at ei; cases ei
  refine thn (he.run pins s σ H _ I hz) fun v s1 ⟨x, H1, I1, r1, q1⟩ => ?_
  rcases q1 with ⟨y, e, q⟩ | ⟨a, e, q1⟩
  · subst e
    obtain ⟨t, rfl⟩ := r1
    cases ha : y.cps.all (· < 128)
    · exact wpAny_pyIter_wide ha (pi_one (tk := s1.toks) I1 _ (turn_str _ y t "str_iterator" (.inr rfl)) ⟨_, Heap.get?_push_size _ rfl, rfl, rfl⟩ q)
    · exact wpAny_pyIter_ascii ha (pi_one (tk := s1.toks) I1 _ (turn_str _ y t "str_ascii_iterator" (.inl rfl)) ⟨_, Heap.get?_push_size _ rfl, rfl, rfl⟩ q)
  subst e
  cases r1
  rcases q1 with ⟨xs, hq, q⟩ | ⟨xs, hq, q⟩
  · obtain ⟨its, rv, p, hz⟩ := I1.list hq
    refine wpAny_pyIter_list p.isList ?_
    refine ⟨s1.heap.objs.size, [s1.heap.objs.size], _, _, H1, rfl, I1.kept (t' := s1.toks) fun b o e => Heap.get?_push_of_some _ e, turn_list a _, ⟨_, Heap.get?_push_size _ rfl, rfl, rfl⟩, fun b hb => ?_, q⟩
    have e : b = s1.heap.objs.size := by simpa using hb
    subst e
    exact I1.fpOk (Nat.le_refl _) (I1.hok.fresh (Nat.le_refl _))
  · obtain ⟨its, rv, p, hz⟩ := I1.tuple hq
    refine wpAny_pyIter_tuple (show s1.heap.IsTuple a its.toArray from p) ?_
    refine ⟨s1.heap.objs.size, [s1.heap.objs.size], _, _, H1, rfl, I1.kept (t' := s1.toks) fun b o e => Heap.get?_push_of_some _ e, turn_tuple a _, ⟨_, Heap.get?_push_size _ rfl, rfl, rfl⟩, fun b hb => ?_, q⟩
    have e : b = s1.heap.objs.size := by simpa using hb
    subst e
    exact I1.fpOk (Nat.le_refl _) (I1.hok.fresh (Nat.le_refl _))
theorem pi_imp {tg e : Expr} {t t' : TI} (h : PI X tg e t) (f : ∀ σ H R, t' σ H R → t σ H R) : PI X tg e t' := ⟨fun pins s σ H R I hw => h.run pins s σ H R I (f σ H R hw)⟩
theorem items_rng1 {ds items : List D} (h : itemsD .rng1 ds = some items) : ∃ n : Int, ds = [.int n] ∧ -(2 ^ 62) ≤ n ∧ n < 2 ^ 62 ∧ items = (List.range n.toNat).map fun (i : Nat) => D.int (i : Int) := by
  match ds, h with
  | [.int n], h =>
    have h : (if -(2 ^ 62) ≤ n ∧ n < 2 ^ 62 then some ((List.range n.toNat).map fun (i : Nat) => D.int (i : Int)) else none) = some items := h
    split at h
    · rename_i hc
      cases h
      exact ⟨n, rfl, hc.1, hc.2, rfl⟩
    · cases h
theorem items_rng2 {ds items : List D} (h : itemsD .rng2 ds = some items) : ∃ a b : Int, ds = [.int a, .int b] ∧ (-(2 ^ 62) ≤ a ∧ a < 2 ^ 62 ∧ -(2 ^ 62) ≤ b ∧ b < 2 ^ 62) ∧ items = (List.range (b - a).toNat).map fun (i : Nat) => D.int (a + (i : Int)) := by
  match ds, h with
  | [.int a, .int b], h =>
    have h : (if -(2 ^ 62) ≤ a ∧ a < 2 ^ 62 ∧ -(2 ^ 62) ≤ b ∧ b < 2 ^ 62 then some ((List.range (b - a).toNat).map fun (i : Nat) => D.int (a + (i : Int))) else none) = some items := h
    split at h
    · rename_i hc
      cases h
      exact ⟨a, b, rfl, hc, rfl⟩
    · cases h
theorem ri_rng1 {tg a : Expr} {p pos : Pos} {ws : VE → VH → (List D → VE → VH → Prop) → Prop} (m : ∀ env vh (Q Q' : List D → VE → VH → Prop), (∀ x e h, Q x e h → Q' x e h) → ws env vh Q → ws env vh Q') (ha : PA X [a] (tL G B ws))
    (hg : Gl X "range") (hm : X.mg "range" = none) (hs : starEach [a] X.env = [(false, eval a X.env)]) : PI X tg (.Call (.Name "range" p) [a] [] pos) (iD G B fun env vh Q => ws env vh fun ds e1 h1 => ∃ items, itemsD .rng1 ds = some items ∧ Q items e1 h1) := by
  refine pi_imp (pi_range1 hg hm ha hs) ?_
  rintro σ H R ⟨T, ρ, env, vh, Rl, q⟩
  refine ⟨T, ρ, env, vh, Rl, m _ _ _ _ (fun ds e1 h1 ⟨items, ei, k⟩ ρ' vs H' mv R' hv => ?_) q⟩
  obtain ⟨n, rfl, b1, b2, rfl⟩ := items_rng1 ei
  obtain ⟨v, r, rfl, h1, h2⟩ := hv
  cases (show r = [] from h2)
  cases (show v = .int n from h1)
  exact ⟨n, rfl, b1, b2, k ρ' H' _ mv R' (wk_range fun i => by rw [Int.zero_add])⟩
theorem ri_rng2 {tg a b : Expr} {p pos : Pos} {ws : VE → VH → (List D → VE → VH → Prop) → Prop} (m : ∀ env vh (Q Q' : List D → VE → VH → Prop), (∀ x e h, Q x e h → Q' x e h) → ws env vh Q → ws env vh Q') (ha : PA X [a, b] (tL G B ws))
    (hg : Gl X "range") (hm : X.mg "range" = none) (hs : starEach [a, b] X.env = [(false, eval a X.env), (false, eval b X.env)]) (hs2 : starEach [b] X.env = [(false, eval b X.env)]) : PI X tg (.Call (.Name "range" p) [a, b] [] pos) (iD G B fun env vh Q => ws env vh fun ds e1 h1 => ∃ items, itemsD .rng2 ds = some items ∧ Q items e1 h1) := by
  refine pi_imp (pi_range2 hg hm ha hs hs2) ?_
  rintro σ H R ⟨T, ρ, env, vh, Rl, q⟩
  refine ⟨T, ρ, env, vh, Rl, m _ _ _ _ (fun ds e1 h1 ⟨items, ei, k⟩ ρ' vs H' mv R' hv => ?_) q⟩
  obtain ⟨i, j, rfl, hc, rfl⟩ := items_rng2 ei
  obtain ⟨v, r, rfl, h1, h2⟩ := hv
  obtain ⟨w, r, rfl, h3, h4⟩ := h2
  cases (show r = [] from h4)
  cases (show v = .int i from h1)
  cases (show w = .int j from h3)
  exact ⟨i, j, rfl, hc, k ρ' H' _ mv R' (wk_range fun i => rfl)⟩
theorem items_rng3 {ds items : List D} (h : itemsD .rng3 ds = some items) : ∃ a b : Int, ds = [.int a, .int b, .int (-1)] ∧ (-(2 ^ 62) ≤ a ∧ a < 2 ^ 62 ∧ -(2 ^ 62) ≤ b ∧ b < 2 ^ 62) ∧ items = (List.range (a - b).toNat).map fun (i : Nat) => D.int (a - (i : Int)) := by
  match ds, h with
  | [.int a, .int b, .int c], h =>
    have h : (if c = -1 ∧ -(2 ^ 62) ≤ a ∧ a < 2 ^ 62 ∧ -(2 ^ 62) ≤ b ∧ b < 2 ^ 62 then some ((List.range (a - b).toNat).map fun (i : Nat) => D.int (a - (i : Int))) else none) = some items := h
    split at h
    · rename_i hc
      cases h
      obtain ⟨rfl, hc⟩ := hc
      exact ⟨a, b, rfl, hc, rfl⟩
    · cases h
theorem wk_rangeC {lo c : Int} {n : Nat} {Z0 : Addr → Prop} {ρ0 : List Addr} {H0 : Hp} {f : Nat → D} (hf : ∀ i : Nat, f i = .int (lo + (i : Nat) * c)) : Wk G (Itc lo c n) Z0 ρ0 H0 ((List.range n).map f) where
  go := fun i Z ρ H m hi => by
    rw [List.length_map, List.length_range] at hi
    exact hi
  stop := fun Z ρ H m => by simp [Itc]
  yld := fun i Z ρ H x H' m hi y => by
    obtain ⟨e, y⟩ := y
    subst e y
    simp at hi
    exact ⟨f i, by simp [hi], Same.refl _, by rw [hf]; rfl⟩
theorem ri_rng3 {tg a b c : Expr} {p pos : Pos} {ws : VE → VH → (List D → VE → VH → Prop) → Prop} (m : ∀ env vh (Q Q' : List D → VE → VH → Prop), (∀ x e h, Q x e h → Q' x e h) → ws env vh Q → ws env vh Q') (ha : PA X [a, b, c] (tL G B ws))
    (hg : Gl X "range") (hm : X.mg "range" = none) (hs : starEach [a, b, c] X.env = (false, eval a X.env) :: starEach [b, c] X.env) (hpl : (backTo pos (starEach [b, c] X.env)).any (·.1) = false) :
    PI X tg (.Call (.Name "range" p) [a, b, c] [] pos) (iD G B fun env vh Q => ws env vh fun ds e1 h1 => ∃ items, itemsD .rng3 ds = some items ∧ Q items e1 h1) := by
  refine pi_imp (pi_range3 hg hm ha hs hpl) ?_
  rintro σ H R ⟨T, ρ, env, vh, Rl, q⟩
  refine ⟨T, ρ, env, vh, Rl, m _ _ _ _ (fun ds e1 h1 ⟨items, ei, k⟩ ρ' vs H' mv R' hv => ?_) q⟩
  obtain ⟨i, j, rfl, hc, rfl⟩ := items_rng3 ei
  obtain ⟨v, r, rfl, h1, h2⟩ := hv
  obtain ⟨w, r, rfl, h3, h4⟩ := h2
  obtain ⟨u, r, rfl, h5, h6⟩ := h4
  cases (show r = [] from h6)
  cases (show v = .int i from h1)
  cases (show w = .int j from h3)
  cases (show u = .int (-1) from h5)
  exact ⟨i, j, -1, _, rfl, RgC.neg hc.1 hc.2.1 hc.2.2.1 hc.2.2.2, k ρ' H' _ mv R' (wk_rangeC fun i => by rw [Int.mul_neg, Int.mul_one]; rfl)⟩
/-! zip, enumerate -/
theorem rd_pair {Z : Addr → Prop} {ρ : List Addr} {H : Hp} {t : Addr} {x y : V} {dx dy : D} (ht : H t = none) (hx : RD G Z ρ H dx x) (hy : RD G Z ρ H dy y) : Same H (upd H t (.tup [x, y])) ∧ RD G Z ρ (upd H t (.tup [x, y])) (.tup [dx, dy]) (.ref t) := by
  have s := same_new (o := .tup [x, y]) ht
  exact ⟨s, t, [x, y], rfl, .inl (.inl upd_same), x, [y], rfl, RD.move (Mv.same s) _ _ hx, y, [], rfl, RD.move (Mv.same s) _ _ hy, rfl⟩
theorem RDs.zip {Z : Addr → Prop} {ρ : List Addr} {H : Hp} {i : Nat} {xs ys : List D} {vs ws : List V} {x y : V} (h1 : RDs G Z ρ H xs vs) (h2 : RDs G Z ρ H ys ws) (e1 : vs[i]? = some x) (e2 : ws[i]? = some y) :
    ∃ dx dy, (List.zipWith (fun x y => D.tup [x, y]) xs ys)[i]? = some (.tup [dx, dy]) ∧ RD G Z ρ H dx x ∧ RD G Z ρ H dy y := by
  obtain ⟨dx, q1, r1⟩ := h1.getV e1
  obtain ⟨dy, q2, r2⟩ := h2.getV e2
  exact ⟨dx, dy, by rw [List.getElem?_zipWith, q1, q2], r1, r2⟩
theorem wk_zipL {a b : Addr} {vs ws : List V} {xs ys : List D} {Z0 : Addr → Prop} {ρ0 : List Addr} {H0 : Hp} (hq : ∀ Z ρ H, Mv Z0 ρ0 H0 Z ρ H → SqL G.K H a vs) (hq2 : ∀ Z ρ H, Mv Z0 ρ0 H0 Z ρ H → SqL G.K H b ws) (h : RDs G Z0 ρ0 H0 xs vs) (h2 : RDs G Z0 ρ0 H0 ys ws) :
    Wk G (Itz G.K a b) Z0 ρ0 H0 (List.zipWith (fun x y => D.tup [x, y]) xs ys) where
  go := fun i Z ρ H m hi => by
    rw [List.length_zipWith, h.length, h2.length] at hi
    exact ⟨vs, ws, vs[i]'(by omega), ws[i]'(by omega), hq Z ρ H m, hq2 Z ρ H m, by simp, by simp⟩
  stop := fun Z ρ H m => ⟨vs, ws, hq Z ρ H m, hq2 Z ρ H m, by rw [List.length_zipWith, h.length, h2.length]; omega⟩
  yld := fun i Z ρ H v H' m hi y => by
    obtain ⟨t, x, y, rfl, ht, rfl, hx, hy⟩ := y
    obtain ⟨dx, dy, e, r1, r2⟩ := (RDs.move m _ _ h).zip (RDs.move m _ _ h2) (hx vs (hq Z ρ H m)) (hy ws (hq2 Z ρ H m))
    obtain ⟨s, r⟩ := rd_pair ht r1 r2
    exact ⟨_, e, s, r⟩
theorem wk_zipT {a b : Addr} {vs ws : List V} {xs ys : List D} {Z0 : Addr → Prop} {ρ0 : List Addr} {H0 : Hp} (hq : SqT G.K H0 a vs) (hq2 : SqT G.K H0 b ws) (h : RDs G Z0 ρ0 H0 xs vs) (h2 : RDs G Z0 ρ0 H0 ys ws) :
    Wk G (RZ.ItzT G.K a b) Z0 ρ0 H0 (List.zipWith (fun x y => D.tup [x, y]) xs ys) where
  go := fun i Z ρ H m hi => by
    rw [List.length_zipWith, h.length, h2.length] at hi
    exact ⟨vs, ws, vs[i]'(by omega), ws[i]'(by omega), m.sqt hq, m.sqt hq2, by simp, by simp⟩
  stop := fun Z ρ H m => ⟨vs, ws, m.sqt hq, m.sqt hq2, by rw [List.length_zipWith, h.length, h2.length]; omega⟩
  yld := fun i Z ρ H v H' m hi y => by
    obtain ⟨t, x, y, rfl, ht, rfl, hx, hy⟩ := y
    obtain ⟨dx, dy, e, r1, r2⟩ := (RDs.move m _ _ h).zip (RDs.move m _ _ h2) (hx vs (m.sqt hq)) (hy ws (m.sqt hq2))
    obtain ⟨s, r⟩ := rd_pair ht r1 r2
    exact ⟨_, e, s, r⟩
theorem ri_zip (hK : X.K = G.K) {a b : Expr} {p pos tpos : Pos} {elts : List Expr} {kk : Nat} {ws : VE → VH → (List D → VE → VH → Prop) → Prop} (m : ∀ env vh (Q Q' : List D → VE → VH → Prop), (∀ x e h, Q x e h → Q' x e h) → ws env vh Q → ws env vh Q') (ha : PA X [a, b] (tL G B ws))
    (hg : Gl X "zip") (hm : X.mg "zip" = none) (hs : starEach [a, b] X.env = (false, eval a X.env) :: starEach [b] X.env) (hpl : (backTo pos (starEach [b] X.env)).any (·.1) = false) :
    PI X (.Tuple elts kk tpos) (.Call (.Name "zip" p) [a, b] [] pos) (iD G B fun env vh Q => ws env vh fun ds e1 h1 => ∃ items, itemsD .zip ds = some items ∧ Q items e1 h1) := by
  refine pi_imp (RZ.pi_zipA hg hm ha hs hpl) ?_
  rintro σ H R ⟨T, ρ, env, vh, Rl, q⟩
  refine ⟨T, ρ, env, vh, Rl, m _ _ _ _ (fun ds e1 h1 ⟨items, ei, k⟩ ρ' vs H' mv R' hv => ?_) q⟩
  match ds, ei, hv with
  | [.lst xs, .lst ys], ei, ⟨v, r, e1, ⟨a, us, e2, nz1, u1, u2⟩, w, r2, e3, ⟨b, ws, e4, nz2, u3, u4⟩, e5⟩ =>
    cases ei
    cases (show r2 = [] from e5)
    subst e4 e3 e2 e1
    refine ⟨a, b, us, ws, rfl, .inl ⟨.of u1, .of u3, ?_⟩⟩
    rw [hK]
    exact k ρ' H' _ mv R' (wk_zipL (fun Z ρ H m => .of (m.keep a _ nz1 u1).2) (fun Z ρ H m => .of (m.keep b _ nz2 u3).2) u2 u4)
  | [.tup xs, .tup ys], ei, ⟨v, r, e1, ⟨a, us, e2, u1, u2⟩, w, r2, e3, ⟨b, ws, e4, u3, u4⟩, e5⟩ =>
    cases ei
    cases (show r2 = [] from e5)
    subst e4 e3 e2 e1
    refine ⟨a, b, us, ws, rfl, .inr ⟨by rw [hK]; exact u1, by rw [hK]; exact u3, ?_⟩⟩
    rw [hK]
    exact k ρ' H' _ mv R' (wk_zipT u1 u3 u2 u4)
end
end R

set_option autoImplicit false
namespace R
open PySem PySem.Spec PyProof.Rows L2
/-! ## R5c: list comprehensions -/
section
variable {X : Cx} {G : Wd} {B : Base} {T ρ : List Addr} {env : VE} {vh : VH} {σ : L2.St} {H : Hp} {D : Addr}
/-- the base of a turn: D the list that is made -/
def Base.wth (B : Base) (D : Addr) (T ρ : List Addr) (env : VE) (σ : L2.St) (H : Hp) : Base := ⟨fun a => B.F a ∨ a = D, MZ T ρ env σ, H, ρ⟩
theorem wthZ {T0 ρ0 : List Addr} {env0 : VE} {σ0 : L2.St} {H0 : Hp} : ZZ (B.wth D T0 ρ0 env0 σ0 H0).F T ρ env σ = ZZ B.F (D :: T) ρ env σ := funext fun a => propext ⟨fun z => (by
    rcases z with (z | z) | z | z
    · exact .inl z
    · exact .inr (.inl (by rw [show a = D from z]; exact List.mem_cons_self))
    · exact .inr (.inl (List.mem_cons_of_mem _ z))
    · exact .inr (.inr z)), fun z => (by
    rcases z with z | z | z
    · exact .inl (.inl z)
    · rcases List.mem_cons.mp z with e | z
      · exact .inl (.inr e)
      · exact .inr (.inl z)
    · exact .inr (.inr z))⟩
theorem mzCons {a : Addr} (z : MZ T ρ env σ a) : MZ (D :: T) ρ env σ a := z.imp (List.mem_cons_of_mem _) id
theorem Rel.notD (R : Rel G B (D :: T) ρ env vh σ H) : ¬ MZ T ρ env σ D := by
  rintro (z | z | ⟨i, z⟩)
  · exact (List.nodup_cons.mp R.tn).1 z
  · exact R.tr D List.mem_cons_self z
  · exact (R.ot i D z).1 List.mem_cons_self
theorem Rel.inD (R : Rel G B (D :: T) ρ env vh σ H) : Rel G (B.wth D T ρ env σ H) T ρ env vh σ H := by
  refine ⟨R.vl, R.rn, (List.nodup_cons.mp R.tn).2, fun a h => R.tr a (List.mem_cons_of_mem _ h), fun i a h => ⟨fun z => (R.ot i a h).1 (List.mem_cons_of_mem _ z), (R.ot i a h).2⟩, R.oi, fun a f z => ?_, fun a z => ?_, fun n o a h1 h2 => ?_, R.sl, fun i s h => ?_, fun _ _ h _ => h, fun _ _ h => h, fun _ z => .inl z, fun _ _ h => h⟩
  · rcases f with f | f
    · exact R.fm a f (mzCons z)
    · cases f
      exact R.notD z
  · rw [wthZ] at z
    exact R.tk a z
  · rw [wthZ]
    exact R.ob n o a h1 h2
  · rw [wthZ]
    exact R.st i s h
theorem Rel.outD {ρ' : List Addr} {env' : VE} {vh' : VH} {σ' : L2.St} {H' : Hp} (R : Rel G B (D :: T) ρ env vh σ H) (S : Rel G (B.wth D T ρ env σ H) T ρ' env' vh' σ' H') :
    Rel G B (D :: T) ρ' env' vh' σ' H' ∧ Mv (ZZ B.F (D :: T) ρ env σ) ρ H (ZZ B.F (D :: T) ρ' env' σ') ρ' H' ∧ H' D = H D := by
  have sD : ¬ MZ T ρ' env' σ' D := S.fm D (.inr rfl)
  have back : ∀ a, H a = none → B.mu a ∨ B.H0 a = none := fun a q => by
    by_cases hm : B.mu a
    · exact .inl hm
    · cases e : B.H0 a with
      | none => exact .inr rfl
      | some u =>
        have := R.kp a u e hm
        rw [q] at this
        cases this
  refine ⟨⟨S.vl, S.rn, List.nodup_cons.mpr ⟨(List.nodup_cons.mp R.tn).1, S.tn⟩, fun a h => ?_, fun i a h => ⟨fun z => ?_, (S.ot i a h).2⟩, S.oi, fun a f z => ?_, fun a z => ?_, fun n o a h1 h2 => ?_, S.sl, fun i s h => ?_, fun a u h nm => ?_, fun a xs h => S.tp a xs (R.tp a xs h), fun a z => ?_, fun n a h => S.pr n a (R.pr n a h)⟩, ⟨S.pr, fun a u nz h => ⟨fun z => ?_, ?_⟩, S.tp⟩, ?_⟩
  · rcases List.mem_cons.mp h with e | h
    · cases e
      exact fun z => sD (.inr (.inl z))
    · exact S.tr a h
  · rcases List.mem_cons.mp z with e | z
    · cases e
      exact sD (.inr (.inr ⟨i, h⟩))
    · exact (S.ot i a h).1 z
  · rcases z with z | z
    · rcases List.mem_cons.mp z with e | z
      · cases e
        exact R.fm D f (.inl List.mem_cons_self)
      · exact S.fm a (.inl f) (.inl z)
    · exact S.fm a (.inl f) (.inr z)
  · rw [← wthZ (T0 := T) (ρ0 := ρ) (env0 := env) (σ0 := σ) (H0 := H)] at z
    exact S.tk a z
  · rw [← wthZ (T0 := T) (ρ0 := ρ) (env0 := env) (σ0 := σ) (H0 := H)]
    exact S.ob n o a h1 h2
  · rw [← wthZ (T0 := T) (ρ0 := ρ) (env0 := env) (σ0 := σ) (H0 := H)]
    exact S.st i s h
  · exact S.kp a u (R.kp a u h nm) fun z => (R.zn a (mzCons z)).elim nm fun q => (by rw [h] at q; cases q)
  · rcases z with z | z
    · rcases List.mem_cons.mp z with e | z
      · cases e
        exact R.zn D (.inl List.mem_cons_self)
      · rcases S.zn a (.inl z) with q | q
        · exact R.zn a (mzCons q)
        · exact back a q
    · rcases S.zn a (.inr z) with q | q
      · exact R.zn a (mzCons q)
      · exact back a q
  · rw [← wthZ (T0 := T) (ρ0 := ρ) (env0 := env) (σ0 := σ) (H0 := H)] at z
    rcases z with (z | z) | z
    · exact nz (.inl z)
    · exact nz (.inr (.inl (by rw [show a = D from z]; exact List.mem_cons_self)))
    · rcases S.zn a z with q | q
      · exact nz (.inr (mzCons q))
      · have q : H a = none := q
        rw [h] at q
        cases q
  · exact S.kp a u h fun z => nz (.inr (mzCons z))
  · obtain ⟨u, hu, _⟩ := R.tk D (.inr (.inl List.mem_cons_self))
    exact (S.kp D u hu R.notD).trans hu.symm

/-! ### names forgotten and bound -/
theorem wipeE_length (env : VE) : ∀ is : List Nat, (wipeE env is).length = env.length
  | [] => rfl
  | i :: is => by unfold wipeE; rw [List.length_set, wipeE_length env is]
theorem wipeE_out {env : VE} {i : Nat} : ∀ {is : List Nat}, i ∉ is → (wipeE env is)[i]? = env[i]?
  | [], _ => rfl
  | j :: is, h => by
    unfold wipeE
    rw [List.getElem?_set_ne (fun e => h (by rw [← e]; exact List.mem_cons_self)), wipeE_out fun z => h (List.mem_cons_of_mem _ z)]
theorem wipeE_in {env : VE} {i : Nat} {s : Slot} : ∀ {is : List Nat}, i ∈ is → (wipeE env is)[i]? = some s → s = .no
  | j :: is, h, e => by
    unfold wipeE at e
    rcases set_getE e with ⟨_, e⟩ | ⟨ne, e⟩
    · exact e
    · exact wipeE_in ((List.mem_cons.mp h).resolve_left ne) e
theorem wipe_out {σ : L2.St} {i : Nat} : ∀ {is : List Nat}, i ∉ is → (wipe σ is)[i]? = σ[i]?
  | [], _ => rfl
  | j :: is, h => by
    unfold wipe
    rw [List.getElem?_set_ne (fun e => h (by rw [← e]; exact List.mem_cons_self)), wipe_out fun z => h (List.mem_cons_of_mem _ z)]
theorem wipe_in {σ : L2.St} {i : Nat} : ∀ {is : List Nat}, i ∈ is → i < σ.length → (wipe σ is)[i]? = some none
  | j :: is, h, hi => by
    unfold wipe
    by_cases e : j = i
    · subst e
      exact List.getElem?_set_self (by rw [wipe_length]; exact hi)
    · rw [List.getElem?_set_ne e]
      exact wipe_in ((List.mem_cons.mp h).resolve_left (Ne.symm e)) hi
theorem noOwn_in {env : VE} {i : Nat} {ds : List R.D} : ∀ {is : List Nat}, noOwn env is → i ∈ is → env[i]? ≠ some (.own ds)
  | j :: is, h, hi, e => by
    rcases List.mem_cons.mp hi with q | q
    · subst q
      have h1 := h.1
      rw [e] at h1
      exact h1
    · exact noOwn_in h.2 q e
/-- outside is, all is as it was; within, nothing is held alone -/
structure Cl (is : List Nat) (env : VE) (σ : L2.St) (env2 : VE) (σ2 : L2.St) : Prop where
  le : env2.length = env.length
  ls : σ2.length = σ.length
  out : ∀ i, i ∉ is → env2[i]? = env[i]? ∧ σ2[i]? = σ[i]?
  inn : ∀ i, i ∈ is → ∀ ds, env2[i]? ≠ some (.own ds)
theorem Set1.cl {is js : List Nat} {env0 env env2 : VE} {σ0 σ σ2 : L2.St} (h : Set1 is env σ env2 σ2) (s : ∀ i, i ∈ is → i ∈ js) : Cl js env0 σ0 env σ → Cl js env0 σ0 env2 σ2 := by
  induction h with
  | nil => exact id
  | @cons env env2 σ σ2 i is d v hi _ ih =>
    refine fun c => ih s ⟨by rw [List.length_set]; exact c.le, by rw [List.length_set]; exact c.ls, fun j hj => ?_, fun j hj ds e => ?_⟩
    · have ne : i ≠ j := fun e => hj (by rw [← e]; exact s i hi)
      rw [List.getElem?_set_ne ne, List.getElem?_set_ne ne]
      exact c.out j hj
    · rcases set_getE e with ⟨_, e⟩ | ⟨_, e⟩
      · cases e
      · exact c.inn j hj ds e
theorem wipe_cl {is : List Nat} : Cl is env σ (wipeE env is) (wipe σ is) :=
  ⟨wipeE_length _ _, wipe_length _ _, fun i hi => ⟨wipeE_out hi, wipe_out hi⟩, fun i hi ds e => by have := wipeE_in hi e; cases this⟩
theorem Cl.own {is : List Nat} {env2 : VE} {σ2 : L2.St} (c : Cl is env σ env2 σ2) (no : noOwn env is) {a : Addr} {i : Nat} : Own env2 σ2 a i ↔ Own env σ a i := by
  constructor
  · rintro ⟨ds, h1, h2⟩
    by_cases hi : i ∈ is
    · exact absurd h1 (c.inn i hi ds)
    · obtain ⟨q1, q2⟩ := c.out i hi
      exact ⟨ds, q1 ▸ h1, q2 ▸ h2⟩
  · rintro ⟨ds, h1, h2⟩
    by_cases hi : i ∈ is
    · exact absurd h1 (noOwn_in no hi)
    · obtain ⟨q1, q2⟩ := c.out i hi
      exact ⟨ds, q1.trans h1, q2.trans h2⟩
theorem Cl.zz {is : List Nat} {env2 : VE} {σ2 : L2.St} (c : Cl is env σ env2 σ2) (no : noOwn env is) {F : Addr → Prop} : ZZ F T ρ env2 σ2 = ZZ F T ρ env σ := funext fun a => propext
  ⟨fun z => z.imp id (Or.imp id (Or.imp id fun ⟨i, h⟩ => ⟨i, (c.own no).mp h⟩)), fun z => z.imp id (Or.imp id (Or.imp id fun ⟨i, h⟩ => ⟨i, (c.own no).mpr h⟩))⟩
theorem Cl.wipe {is : List Nat} {env2 : VE} {σ2 : L2.St} (c : Cl is env σ env2 σ2) : wipe σ2 is = wipe σ is := by
  apply List.ext_getElem?
  intro i
  by_cases hi : i ∈ is
  · by_cases hl : i < σ.length
    · rw [wipe_in hi hl, wipe_in hi (by rw [c.ls]; exact hl)]
    · rw [List.getElem?_eq_none (by rw [wipe_length, c.ls]; omega), List.getElem?_eq_none (by rw [wipe_length]; omega)]
  · rw [wipe_out hi, wipe_out hi, (c.out i hi).2]
theorem Rel.wipeR {is : List Nat} (R : Rel G B T ρ env vh σ H) : Rel G B T ρ (wipeE env is) vh (wipe σ is) H := by
  have hO : ∀ i a, Own (wipeE env is) (wipe σ is) a i → Own env σ a i := fun i a ⟨ds, h1, h2⟩ => by
    by_cases hi : i ∈ is
    · have := wipeE_in hi h1
      cases this
    · exact ⟨ds, (wipeE_out hi) ▸ h1, (wipe_out hi) ▸ h2⟩
  refine R.weak (fun _ h => h) R.tn (fun i a h => hO i a h) (by rw [wipeE_length, wipe_length]; exact R.sl) fun i s h => ?_
  by_cases hi : i ∈ is
  · cases wipeE_in hi h
    trivial
  · rw [wipe_out hi]
    rw [wipeE_out hi] at h
    exact (R.st i s h).move (Mv.less fun b z => z.imp id (Or.imp id (Or.imp id fun ⟨j, z⟩ => ⟨j, hO j b z⟩))) fun _ _ _ _ => rfl
/-- behind a turn -/
theorem Rel.unset {is : List Nat} {ρ' : List Addr} {env2 : VE} {vh' : VH} {σ2 : L2.St} {H' : Hp} (R : Rel G B T ρ env vh σ H) (c : Cl is env σ env2 σ2) (no : noOwn env is) (S : Rel G B T ρ' env2 vh' σ2 H')
    (m : Mv (ZZ B.F T ρ env σ) ρ H (ZZ B.F T ρ' env2 σ2) ρ' H') : Rel G B T ρ' env vh' σ H' := by
  refine S.weak (fun _ h => h) S.tn (fun i a h => (c.own no).mpr h) R.sl fun i s h => ?_
  rw [← c.zz no (T := T) (ρ := ρ') (F := B.F)]
  have q := R.st i s h
  cases s with
  | no => trivial
  | val d =>
    obtain ⟨v, h1, h2⟩ := q
    exact ⟨v, h1, RD.move m _ _ h2⟩
  | own ds =>
    have hi : i ∉ is := fun z => noOwn_in no z h
    obtain ⟨q1, q2⟩ := c.out i hi
    have z := S.st i _ (q1.trans h)
    rw [q2] at z
    exact z
theorem Rel.tmpUpd {u : HO} (R : Rel G B (D :: T) ρ env vh σ H) (mu : Mt u) : Rel G B (D :: T) ρ env vh σ (upd H D u) := by
  obtain ⟨o, e, mo⟩ := R.tk D (.inr (.inl List.mem_cons_self))
  refine R.write (.inl List.mem_cons_self) e mo mu rfl rfl (fun _ _ => Iff.rfl) (fun n o a h1 h2 => ⟨fun _ => h1, fun z => ?_⟩) (fun i s h => .inl ⟨h, fun ds es z => ?_⟩)
  · cases z
    exact absurd (List.mem_of_getElem? h2) (R.tr D List.mem_cons_self)
  · subst es
    exact (R.ot i D ⟨ds, h, z⟩).1 List.mem_cons_self

/-! ### the comprehension -/
def tW (G : Wd) (w : VE → VH → (Bool → VH → Prop) → Prop) : TT := fun σ H Q => ∃ B T ρ env vh, Rel G B T ρ env vh σ H ∧ w env vh fun b h1 => ∀ ρ' H', Mv (ZZ B.F T ρ env σ) ρ H (ZZ B.F T ρ' env σ) ρ' H' → Rel G B T ρ' env h1 σ H' → Q b H'
def tDx (G : Wd) (w : VE → VH → QE → Prop) : TE := fun σ H Q => ∃ B, tD G B w σ H Q
theorem pe_all {e : Expr} {w : VE → VH → QE → Prop} (h : ∀ B, PE X e (tD G B w)) : PE X e (tDx G w) := ⟨fun pins s σ H Q I ⟨B, z⟩ => (h B).run pins s σ H Q I z⟩
theorem pts_w0 : PTs X [] (tW G fun env vh Q => Q true vh) := ⟨fun pins s σ H Q I ⟨B, T, ρ, env, vh, R, z⟩ => pts_nil.run pins s σ H Q I (z ρ H Mv.refl R)⟩
theorem pts_w1 {c : Expr} {w : VE → VH → QE → Prop} (mono : ∀ env vh (Q Q' : QE), (∀ x e h, Q x e h → Q' x e h) → w env vh Q → w env vh Q') (h : ∀ B, PT X c (tB G B w)) :
    PTs X [c] (tW G fun env vh Q => w env vh fun x e1 h1 => e1 = env ∧ ∃ k, x = .v (.bl k) ∧ Q k h1) := ⟨fun pins s σ H Q I ⟨B, T, ρ, env, vh, R, z⟩ => (pts_one (h B)).run pins s σ H Q I ⟨T, ρ, env, vh, R, mono _ _ _ _ (fun x e1 h1 ⟨ee, k, ex, y⟩ => ⟨k, ex, fun ρ' H' m R' => by
  subst ee
  exact y ρ' H' m R'⟩) z⟩⟩

theorem lc_sound {own : List (Str × Nat)} {tgI : Tg} {wi : VE → VH → (List R.D → VE → VH → Prop) → Prop} {wt : VE → VH → (Bool → VH → Prop) → Prop} {we : VE → VH → QE → Prop}
    (mi : ∀ env vh (Q Q' : List R.D → VE → VH → Prop), (∀ x e h, Q x e h → Q' x e h) → wi env vh Q → wi env vh Q') (mt : ∀ env vh (Q Q' : Bool → VH → Prop), (∀ x h, Q x h → Q' x h) → wt env vh Q → wt env vh Q') (me : ∀ env vh (Q Q' : QE), (∀ x e h, Q x e h → Q' x e h) → we env vh Q → we env vh Q')
    (hsub : ∀ i, i ∈ tgIx tgI → i ∈ own.map (·.2)) :
    ∀ σ H Q, tD G B (fun env vh Q => wi env vh fun items e1 h1 => noOwn e1 (own.map (·.2)) ∧ lcGo (fun d h R => ∃ e2, bindT tgI d (wipeE e1 (own.map (·.2))) = some e2 ∧ wt e2 h fun b h3 => ifP b (we e2 h3 fun x e4 h4 => e4 = e2 ∧ R (some x.d) h4) (R none h3)) items h1 [] fun acc h2 => Q (.fr acc) e1 h2) σ H Q →
      tLc (iD G B wi) (gOf G.K tgI) (tW G wt) (tDx G we) (own.map (·.2)) σ H Q := by
  generalize own.map (·.2) = is at hsub ⊢
  rintro σ H Q ⟨T, ρ, env, vh, R0, w⟩
  refine ⟨T, ρ, env, vh, R0, mi _ _ _ _ (fun items e1 h1 ⟨no, go⟩ ρ1 H1 J m1 R1 wk => ?_) w⟩
  intro D hD
  generalize hQQ : (fun (acc : List R.D) (h2 : VH) => ∀ (ρ' : List Addr) (v : V) (H' : Hp), Res G B T ρ env σ H (.fr acc) v ρ' e1 h2 H' → Q v H') = QQ at go
  generalize hturn : (fun (d : R.D) (h : VH) (R : Option R.D → VH → Prop) => ∃ e2, bindT tgI d (wipeE e1 is) = some e2 ∧ wt e2 h fun b h3 => ifP b (we e2 h3 fun x e4 h4 => e4 = e2 ∧ R (some x.d) h4) (R none h3)) = turn at go
  have hm0 : Mv (ZZ B.F T ρ1 e1 σ) ρ1 H1 (ZZ B.F (D :: T) ρ1 e1 σ) ρ1 (upd H1 D (.lst [])) := Mv.fresh (same_new hD) fun b z => by
      rcases z with z | z | z
      · exact .inl (.inl z)
      · rcases List.mem_cons.mp z with e | z
        · exact .inr (by rw [e]; exact hD)
        · exact .inl (.inr (.inl z))
      · exact .inl (.inr (.inr z))
  let Pv : Nat → Hp → Prop := fun i H => ∃ ρ' h vs acc, H D = some (.lst vs) ∧ RDs G (ZZ B.F (D :: T) ρ' e1 σ) ρ' H acc vs ∧ Rel G B (D :: T) ρ' e1 h σ H ∧ Mv (ZZ B.F T ρ1 e1 σ) ρ1 H1 (ZZ B.F (D :: T) ρ' e1 σ) ρ' H ∧ lcGo turn (items.drop i) h acc QQ
  refine ⟨fun i m H => m = items.length - i ∧ i ≤ items.length ∧ Pv i H, ⟨items.length, by simp, Nat.zero_le _, ρ1, h1, [], [], upd_same, rfl, R1.tmp hD trivial, hm0, go⟩, ?_⟩
  rintro i m H2 ⟨rfl, hil, ρ', h, vs, acc, hD', hacc, R', m', go'⟩
  by_cases hlt : i < items.length
  · refine .inr ⟨wk.go i _ ρ' H2 m' hlt, Pv (i + 1), fun H' p' => ⟨items.length - (i + 1), by omega, rfl, hlt, p'⟩, fun x H3 y => ?_⟩
    obtain ⟨d, hd, sm, hx⟩ := wk.yld i _ ρ' H2 x H3 m' hlt y
    have hdrop : items.drop i = d :: items.drop (i + 1) := by
      rw [List.drop_eq_getElem_cons hlt]
      rw [List.getElem?_eq_getElem hlt] at hd
      rw [Option.some.inj hd]
    rw [hdrop] at go'
    subst hturn
    obtain ⟨e2, hb, tw⟩ := go'
    have Rg := R'.grow sm
    have mg : Mv (ZZ B.F (D :: T) ρ' e1 σ) ρ' H2 (ZZ B.F (D :: T) ρ' e1 σ) ρ' H3 := Mv.same sm
    have Ri := Rg.inD
    have Rw := Ri.wipeR (is := is)
    have hx2 : RD G (ZZ (B.wth D T ρ' e1 σ H3).F T ρ' (wipeE e1 is) (L2.wipe σ is)) ρ' H3 d x := by
      rw [wipe_cl.zz no, wthZ]
      exact hx
    refine bind_ok Rw hx2 hb fun σ2 R4 s2 m4 => ?_
    have c : Cl is e1 σ e2 σ2 := s2.cl hsub wipe_cl
    have m4' : Mv (ZZ (B.wth D T ρ' e1 σ H3).F T ρ' e1 σ) ρ' H3 (ZZ (B.wth D T ρ' e1 σ H3).F T ρ' e2 σ2) ρ' H3 := by
      rw [wipe_cl.zz no] at m4
      exact m4
    refine ⟨c.wipe, ⟨_, T, ρ', e2, h, R4, mt _ _ _ _ (fun b h3 z ρ3 H4 m5 R5 => ?_) tw⟩⟩
    cases b with
    | false =>
      refine L2.iteF ?_
      obtain ⟨S, mm, eD⟩ := Rg.outD (Ri.unset c no R5 (m4'.trans m5))
      have mm2 := mg.trans mm
      exact ⟨ρ3, h3, vs, acc, eD.trans (sm _ _ hD'), RDs.move mm2 _ _ hacc, S, m'.trans mm2, z⟩
    | true =>
      refine L2.iteT ⟨_, T, ρ3, e2, h3, R5, me _ _ _ _ (fun y e4 h4 ⟨ee, zq⟩ ρ6 v H6 r => ?_) z⟩
      subst ee
      obtain ⟨m6, R6, hv⟩ := r.d
      obtain ⟨S, mm, eD⟩ := Rg.outD (Ri.unset c no R6 ((m4'.trans m5).trans m6))
      have mm2 := mg.trans mm
      have hv2 : RD G (ZZ B.F (D :: T) ρ6 e1 σ) ρ6 H6 y.d v := by
        rw [c.zz no, wthZ] at hv
        exact hv
      have eD2 : H6 D = some (.lst vs) := eD.trans (sm _ _ hD')
      have hz : D ∈ D :: T := List.mem_cons_self
      have mu : Mv (ZZ B.F (D :: T) ρ6 e1 σ) ρ6 H6 (ZZ B.F (D :: T) ρ6 e1 σ) ρ6 (upd H6 D (.lst (vs ++ [v]))) := Mv.upd (.inr (.inl hz)) eD2 trivial
      refine ⟨vs, eD2, ?_, ρ6, h4, vs ++ [v], acc ++ [y.d], upd_same, ?_, S.tmpUpd trivial, (m'.trans mm2).trans mu, zq.2⟩
      · rw [sizeLine_eq, ← hacc.length]
        exact zq.1
      · exact RDs.append (RDs.move (mm2.trans mu) _ _ hacc) (.one (RD.move mu _ _ hv2))
  · have e : i = items.length := by omega
    subst e
    refine .inl ⟨wk.stop _ ρ' H2 m', ?_⟩
    subst hQQ
    rw [List.drop_length] at go'
    exact go' ρ' (.ref D) H2 ⟨D, vs, rfl, hD', m1.trans m', R', hacc⟩
theorem re_lc {K : XP} {Φ : Fns} {Γ : Cns} {fs : List Str} (o : XOk X G B K Φ Γ fs) (hc : hotN ∉ fs) {elt tg iter : Expr} {ifs : List Expr} {scope : Scope} {own : List (Str × Nat)} {pos : Pos} {tgI : Tg} {wi : VE → VH → (List R.D → VE → VH → Prop) → Prop} {wt : VE → VH → (Bool → VH → Prop) → Prop} {we : VE → VH → QE → Prop}
    (mi : ∀ env vh (Q Q' : List R.D → VE → VH → Prop), (∀ x e h, Q x e h → Q' x e h) → wi env vh Q → wi env vh Q') (mt : ∀ env vh (Q Q' : Bool → VH → Prop), (∀ x h, Q x h → Q' x h) → wt env vh Q → wt env vh Q') (me : ∀ env vh (Q Q' : QE), (∀ x e h, Q x e h → Q' x e h) → we env vh Q → we env vh Q')
    (hi : PI X tg iter (iD G B wi)) (ok : BlkOk X.N X.env.scope scope own)
    (hg : ∀ (s : Shared) (H : Hp) (C : Addr) (cl : List (Str × Addr)) (fp : List Addr), PG (X.blk s H scope (compEnvC scope cl C X.env) fp) tg (gOf G.K tgI)) (ht : ∀ (s : Shared) (H : Hp) (C : Addr) (cl : List (Str × Addr)) (fp : List Addr), PTs (X.blk s H scope (compEnvC scope cl C X.env) fp) ifs (tW G wt))
    (he : ∀ (s : Shared) (H : Hp) (C : Addr) (cl : List (Str × Addr)) (fp : List Addr), PE (X.blk s H scope (compEnvC scope cl C X.env) fp) elt (tDx G we)) (hs : ∀ x, foldedSetIterable iter X.env x = pure x) (hsub : ∀ i, i ∈ tgIx tgI → i ∈ own.map (·.2)) :
    PE X (.ListComp elt [⟨tg, iter, ifs, 0⟩] scope pos) (tD G B (fun env vh Q => wi env vh fun items e1 h1 => noOwn e1 (own.map (·.2)) ∧ lcGo (fun d h R => ∃ e2, bindT tgI d (wipeE e1 (own.map (·.2))) = some e2 ∧ wt e2 h fun b h3 => ifP b (we e2 h3 fun x e4 h4 => e4 = e2 ∧ R (some x.d) h4) (R none h3)) items h1 [] fun acc h2 => Q (.fr acc) e1 h2)) :=
  (pe_lc (o.calm hc) o.nd hi ok hg ht he hs).imp (lc_sound mi mt me hsub)
end
end R

set_option autoImplicit false
namespace R
open PySem PySem.Spec PyProof.Rows L2
/-! ## R5d: dicts that are written out -/
section
variable {X : Cx} {G : Wd} {B : Base} {T ρ : List Addr} {env : VE} {vh : VH} {σ : L2.St} {H : Hp}
variable {K : XP} {Φ : Fns} {Γ : Cns} {fs : List Str}
theorem XOk.any (o : XOk X G B K Φ Γ fs) (hc : hotN ∉ fs) (B' : Base) : XOk X G B' (fun _ _ _ _ => False) Φ Γ fs :=
  ⟨o.hK, o.calm, o.nd, o.hu, fun u s' x => by
    obtain ⟨a, B1, sI, pins, σ, H, cls, d, e, I, nb, up, sky, na, os, ag, w⟩ := x
    obtain ⟨_, _, _, _, _, _, _, _, _, _, _, k⟩ := w
    exact k.elim, o.fn, o.cn, o.bl, o.rm, o.ok, fun h => absurd h hc⟩
theorem mergeK_new : ∀ (more kvs : List (Key × V)), ((kvs ++ more).map (·.1)).Nodup → L2.mergeK kvs more = kvs ++ more
  | [], kvs, _ => by rw [List.append_nil]; rfl
  | p :: r, kvs, h => by
    have hv : valV kvs p.1 = none := by
      have e := valV_any p.1 kvs
      cases hq : valV kvs p.1 with
      | none => rfl
      | some z =>
        rw [hq, Option.isSome_some, List.any_eq_true] at e
        obtain ⟨q, hm, hd⟩ := e
        have hd := of_decide_eq_true hd
        rw [List.map_append, List.map_cons] at h
        have := (List.nodup_append.mp h).2.2 q.1 (List.mem_map_of_mem hm) p.1 List.mem_cons_self
        exact absurd hd this
    show L2.mergeK (putK kvs p.1 p.2) r = _
    rw [putK_new p.2 hv, mergeK_new r (kvs ++ [(p.1, p.2)]) (by rw [List.append_assoc]; exact h), List.append_assoc]
    rfl
def keyE : Expr → Option Key
  | .Constant (.str x) _ _ => some (.inr x)
  | .Constant (.int i) _ _ => some (.inl i)
  | _ => none
def keysOf : List (Option Expr) → Option (List Key)
  | [] => some []
  | some e :: r => match keyE e, keysOf r with
    | some k, some ks => some (k :: ks)
    | _, _ => none
  | _ => none
theorem keyE_ok {X : Cx} {e : Expr} {k : Key} (h : keyE e = some k) : PE X e (tC (kV k)) := by
  unfold keyE at h
  split at h
  · cases h; exact pe_str
  · cases h; exact pe_int
  · cases h
abbrev noK : XP := fun _ _ _ _ => False
def trsOf (G : Wd) (Φ : Fns) (Γ : Cns) : List Key → List E → List (TE × TE)
  | k :: ks, ir :: irs => (tC (kV k), tDx G (wpE Φ Γ ir noK false)) :: trsOf G Φ Γ ks irs
  | _, _ => []
theorem pps_ok {pos : Pos} : ∀ {keys : List (Option Expr)} {values : List Expr} {ks : List Key} {irs : List E}, keysOf keys = some ks → Paired (fun e ir => ∀ B', PE X e (tD G B' (wpE Φ Γ ir noK false))) values irs → keys.length = values.length →
    PPs X pos keys values (trsOf G Φ Γ ks irs)
  | [], values, ks, irs, hk, hv, hl => by
    cases hk
    cases hv with
    | nil => exact pps_nil
    | cons _ _ => cases hl
  | k :: keys, values, ks, irs, hk, hv, hl => by
    unfold keysOf at hk
    split at hk
    · rename_i e; cases e
    · rename_i e0 r e
      cases e
      split at hk
      · rename_i k' ks' h0 h1
        cases hk
        cases hv with
        | nil => cases hl
        | cons h t => exact pps_cons (keyE_ok h0) (pe_all h) (pps_ok h1 t (by simpa using hl))
      · cases hk
    · cases hk
theorem tPairs_ok : ∀ (ks : List Key) (irs : List E) {ρ : List Addr} {env : VE} {vh : VH} {H : Hp} {QQ : List D → VE → VH → Prop} {P : List (V × V) → Hp → Prop}, Rel G B T ρ env vh σ H → ks.length = irs.length → wpEs Φ Γ irs noK env vh QQ →
    (∀ ds e1 h1 ρ' vs H', QQ ds e1 h1 → Mv (ZZ B.F T ρ env σ) ρ H (ZZ B.F T ρ' e1 σ) ρ' H' → Rel G B T ρ' e1 h1 σ H' → RDs G (ZZ B.F T ρ' e1 σ) ρ' H' ds vs → P (List.zipWith (fun k v => (kV k, v)) ks vs) H') → tPairs (trsOf G Φ Γ ks irs) σ H P
  | [], [], ρ, env, vh, H, QQ, P, R, hl, w, f => f [] env vh ρ [] H w Mv.refl R rfl
  | k :: ks, [], ρ, env, vh, H, QQ, P, R, hl, w, f => by cases hl
  | [], ir :: irs, ρ, env, vh, H, QQ, P, R, hl, w, f => by cases hl
  | k :: ks, ir :: irs, ρ, env, vh, H, QQ, P, R, hl, w, f => by
    show tDx G (wpE Φ Γ ir noK false) σ H fun y H2 => tPairs (trsOf G Φ Γ ks irs) σ H2 fun ps H3 => P ((kV k, y) :: ps) H3
    refine ⟨B, T, ρ, env, vh, R, wpE_mono ir noK false _ _ _ _ (fun x e1 h1 w1 ρ1 v H1 r => ?_) w⟩
    obtain ⟨m1, R1, hv⟩ := r.d
    exact tPairs_ok ks irs R1 (by simpa using hl) w1 fun ds e2 h2 ρ2 vs H2 q m2 R2 hvs => f (x.d :: ds) e2 h2 ρ2 (v :: vs) H2 q (m1.trans m2) R2 ⟨v, vs, rfl, RD.move m2 _ _ hv, hvs⟩
theorem zip_keys : ∀ (ks : List Key) (vs : List V), List.zipWith (fun k v => (kV k, v)) ks vs = (List.zipWith (fun (k : Key) v => (k, v)) ks vs).map fun kv => (kV kv.1, kv.2)
  | [], _ => rfl
  | _ :: _, [] => rfl
  | k :: ks, v :: vs => by
    simp only [List.zipWith_cons_cons, List.map_cons]
    rw [zip_keys ks vs]
theorem zip_fst : ∀ (ks : List Key) (vs : List V), ks.length = vs.length → (List.zipWith (fun (k : Key) v => (k, v)) ks vs).map (·.1) = ks
  | [], [], _ => rfl
  | [], _ :: _, h => by cases h
  | _ :: _, [], h => by cases h
  | k :: ks, v :: vs, h => by
    simp only [List.zipWith_cons_cons, List.map_cons]
    rw [zip_fst ks vs (by simpa using h)]
theorem zip_snd : ∀ (ks : List Key) (vs : List V), ks.length = vs.length → (List.zipWith (fun (k : Key) v => (k, v)) ks vs).map (·.2) = vs
  | [], [], _ => rfl
  | [], _ :: _, h => by cases h
  | _ :: _, [], h => by cases h
  | k :: ks, v :: vs, h => by
    simp only [List.zipWith_cons_cons, List.map_cons]
    rw [zip_snd ks vs (by simpa using h)]
theorem Rel.notZ {p : Addr} (R : Rel G B (p :: T) ρ env vh σ H) : ¬ ZZ B.F T ρ env σ p := by
  rintro (z | z | z | ⟨i, z⟩)
  · exact R.fm p z (.inl List.mem_cons_self)
  · exact (List.nodup_cons.mp R.tn).1 z
  · exact R.tr p List.mem_cons_self z
  · exact (R.ot i p z).1 List.mem_cons_self
theorem re_dct {keys : List (Option Expr)} {values : List Expr} {pos : Pos} {ks : List Key} {irs : List E} (hk : keysOf keys = some ks) (hv : Paired (fun e ir => ∀ B', PE X e (tD G B' (wpE Φ Γ ir noK false))) values irs)
    (hall : keys.all (·.isSome) = true) (hl : keys.length = values.length) (hl2 : ks.length = irs.length) (h15 : keys.length ≤ 15) :
    PE X (.Dict keys values pos) (tD G B fun env vh Q => wpE Φ Γ (.dct ks irs) K false env vh Q) := by
  by_cases h0 : keys = []
  · subst h0
    cases hk
    have : values = [] := List.length_eq_zero_iff.mp hl.symm
    subst this
    have : irs = [] := List.length_eq_zero_iff.mp hl2.symm
    subst this
    refine pe_dnewK.imp fun σ H Q ⟨T, ρ, env, vh, R, w⟩ => fun p hp => ?_
    have R1 := R.tmp hp (o := .dK []) trivial
    refine w.2 ρ _ _ ⟨Mv.fresh (same_new hp) fun b z => .inl z, R1.dropT, p, [], [], rfl, R1.notZ, upd_same, rfl, rfl, rfl⟩
  · refine (pe_disp (pps_ok hk hv hl) hall hl h0 h15).imp fun σ H Q ⟨T, ρ, env, vh, R, w⟩ => fun p hp => ?_
    have R1 := R.tmp hp (o := .dK []) trivial
    have m0 : Mv (ZZ B.F T ρ env σ) ρ H (ZZ B.F (p :: T) ρ env σ) ρ (upd H p (.dK [])) := Mv.fresh (same_new hp) fun b z => by
      rcases z with z | z | z
      · exact .inl (.inl z)
      · rcases List.mem_cons.mp z with e | z
        · exact .inr (by rw [e]; exact hp)
        · exact .inl (.inr (.inl z))
      · exact .inl (.inr (.inr z))
    refine tPairs_ok ks irs R1.inD hl2 w fun ds e1 h1 ρ' vs H' q m R2 hvs => ?_
    obtain ⟨S, mm, eD⟩ := R1.outD R2
    rw [wthZ] at hvs
    have hlen : ks.length = vs.length := q.1.1.trans hvs.length
    have eD2 : H' p = some (.dK []) := eD.trans upd_same
    refine ⟨eD2, List.zipWith (fun (k : Key) v => (k, v)) ks vs, zip_keys ks vs, by rw [List.length_zipWith]; have := q.1.2.1; omega, ?_⟩
    have hnd : ((([] : List (Key × V)) ++ List.zipWith (fun (k : Key) v => (k, v)) ks vs).map Prod.fst).Nodup := by
      rw [List.nil_append, zip_fst ks vs hlen]
      exact q.1.2.2
    rw [mergeK_new _ _ hnd, List.nil_append]
    have S2 := S.tmpUpd (u := .dK (List.zipWith (fun (k : Key) v => (k, v)) ks vs)) trivial
    have mu : Mv (ZZ B.F (p :: T) ρ' e1 σ) ρ' H' (ZZ B.F (p :: T) ρ' e1 σ) ρ' (upd H' p (.dK (List.zipWith (fun (k : Key) v => (k, v)) ks vs))) := Mv.upd (.inr (.inl List.mem_cons_self)) eD2 trivial
    have md : Mv (ZZ B.F (p :: T) ρ' e1 σ) ρ' (upd H' p (.dK (List.zipWith (fun (k : Key) v => (k, v)) ks vs))) (ZZ B.F T ρ' e1 σ) ρ' (upd H' p (.dK (List.zipWith (fun (k : Key) v => (k, v)) ks vs))) := Mv.less fun b z => by
      rcases z with z | z | z
      · exact .inl z
      · exact .inr (.inl (List.mem_cons_of_mem _ z))
      · exact .inr (.inr z)
    refine q.2 ρ' _ _ ⟨((m0.trans mm).trans mu).trans md, S2.dropT, p, _, vs, rfl, S2.notZ, upd_same, zip_fst ks vs hlen, zip_snd ks vs hlen, RDs.move (mu.trans md) _ _ hvs⟩
end
end R

set_option autoImplicit false
namespace R
open PySem PySem.Spec PyProof.Rows L2
/-! ## RS: statements and what they come to -/
inductive S where
  | pass | brk | cont | retN
  | set (i : Nat) (e : E) | setO (i : Nat) (e : E) | setS (i : Nat) (e : E)
  | par (i j : Nat) (a b : E)
  | unp (is : List Nat) (e : E)
  | aug (i : Nat) (op : Operator) (e : E)
  | sidx (o i e : E)
  | app (o e : E) | ext (o e : E)
  | ret (e : E) | retO (i : Nat) | expr (e : E)
  | cond (c : E) (a b : List S)
  | forS (tg : Tg) (k : Ik) (es : List E) (body : List S)
  | whl (c : E) (body : List S)
  | raise (c : Str) (es : List E)
  | tryS (tb : List (Str × List Str × List Str)) (body : List S) (cs : List (Str × Option Nat)) (sus : List (List S))
  | never

structure VEnds where
  nx : VE → VH → Prop
  rt : DV → VH → Prop
  bk : VE → VH → Prop
  ct : VE → VH → Prop

def wpAug (op : Operator) (c d : D) (Q : D → Prop) : Prop := match op, c, d with
  | .Add, .int i, .int j => Q (.int (i + j))
  | .Sub, .int i, .int j => Q (.int (i - j))
  | _, _, _ => False
/-- o[k] = x -/
def setSh (n : Nat) (k x : D) (vh : VH) (Q : VH → Prop) : Prop := match vh[n]?, k with
  | some (.lst xs), .int j => ∃ m, ixN xs.length j = some m ∧ Q (vh.set n (.lst (xs.set m x)))
  | _, _ => False
def wpSet (o : Op) (k x : D) (env : VE) (vh : VH) (Q : VE → VH → Prop) : Prop := match o with
  | .dat (.ref n) => setSh n k x vh (Q env)
  | .dat _ => False
  | .slt i => match env[i]?, k with
    | some (.val (.ref n)), _ => setSh n k x vh (Q env)
    | some (.own xs), .int j => ∃ m, ixN xs.length j = some m ∧ Q (env.set i (.own (xs.set m x))) vh
    | _, _ => False
/-- o is a list that may be written -/
def isLs (o : Op) (env : VE) (vh : VH) : Prop := match o with
  | .dat (.ref n) => ∃ xs, vh[n]? = some (.lst xs)
  | .dat _ => False
  | .slt i => match env[i]? with
    | some (.val (.ref n)) => ∃ xs, vh[n]? = some (.lst xs)
    | some (.own xs) => True
    | _ => False
/-- o.append(x) -/
def appSh (n : Nat) (x : D) (vh : VH) (Q : VH → Prop) : Prop := match vh[n]? with
  | some (.lst xs) => xs.length < 16777216 ∧ Q (vh.set n (.lst (xs ++ [x])))
  | _ => False
def wpApp (o : Op) (x : D) (env : VE) (vh : VH) (Q : VE → VH → Prop) : Prop := match o with
  | .dat (.ref n) => appSh n x vh (Q env)
  | .dat _ => False
  | .slt i => match env[i]? with
    | some (.val (.ref n)) => appSh n x vh (Q env)
    | some (.own xs) => xs.length < 16777216 ∧ Q (env.set i (.own (xs ++ [x]))) vh
    | _ => False
/-- o.extend(xs) -/
def seqD : D → Option (List D)
  | .tup xs => some xs
  | .lst xs => some xs
  | _ => none
def extSh (n : Nat) (ds : List D) (vh : VH) (Q : VH → Prop) : Prop := match vh[n]? with
  | some (.lst xs) => xs.length + ds.length ≤ 16777216 ∧ Q (vh.set n (.lst (xs ++ ds)))
  | _ => False
def wpExt (o : Op) (ds : List D) (env : VE) (vh : VH) (Q : VE → VH → Prop) : Prop := match o with
  | .dat (.ref n) => extSh n ds vh (Q env)
  | .dat _ => False
  | .slt i => match env[i]? with
    | some (.val (.ref n)) => extSh n ds vh (Q env)
    | some (.own xs) => xs.length + ds.length ≤ 16777216 ∧ Q (env.set i (.own (xs ++ ds))) vh
    | _ => False
def forGo (turn : D → (VE → VH → Prop) → VE → VH → Prop) : List D → VE → VH → (VE → VH → Prop) → Prop
  | [], env, vh, Q => Q env vh
  | d :: ds, env, vh, Q => turn d (fun e h => forGo turn ds e h Q) env vh

/-- the constants within an except suite: the exception, its class and those above, its fields -/
def errG (Γ : Cns) (ns anc : List Str) (xs : List D) (a : Addr) : Cns := fun y => if y = ("%a" : Str) then some (.adr a) else if y = ("%c" : Str) then some (.tup (anc.map .str)) else match (ns.zip xs).find? fun p => decide (eNm p.1 = y) with
  | some p => some p.2
  | none => Γ y
/-- the slot of a clause's name -/
@[reducible] def offE (o : Option Nat) (env : VE) : VE := match o with
  | none => env
  | some i => env.set i .no
@[reducible] def onE (o : Option Nat) (a : Addr) (env : VE) : VE := match o with
  | none => env
  | some i => env.set i (.val (.adr a))
@[reducible] def offV (o : Option Nat) (V : VEnds) : VEnds := { nx := fun e h => V.nx (offE o e) h, rt := V.rt, bk := fun e h => V.bk (offE o e) h, ct := fun e h => V.ct (offE o e) h }
def noX : XP := fun _ _ _ _ => False
mutual
def wpS (Φ : Fns) (Γ : Cns) : S → XP → VEnds → VE → VH → Prop
  | .pass, K, V, env, vh => V.nx env vh
  | .brk, K, V, env, vh => V.bk env vh
  | .cont, K, V, env, vh => V.ct env vh
  | .retN, K, V, env, vh => V.rt (.v .non) vh
  | .set i e, K, V, env, vh => wpE Φ Γ e K false env vh fun x e1 h1 => V.nx (e1.set i (.val x.d)) h1
  | .setO i e, K, V, env, vh => wpE Φ Γ e K false env vh fun x e1 h1 => match x with
    | .fr ds => V.nx (e1.set i (.own ds)) h1
    | .v _ => False
  | .setS i e, K, V, env, vh => wpE Φ Γ e K false env vh fun x e1 h1 => match x with
    | .fr ds => V.nx (e1.set i (.val (.ref h1.length))) (h1 ++ [.lst ds])
    | .v _ => False
  | .par i j a b, K, V, env, vh => wpEs Φ Γ [a, b] K env vh fun ds e1 h1 => match ds with
    | [x, y] => V.nx ((e1.set i (.val x)).set j (.val y)) h1
    | _ => False
  | .unp is e, K, V, env, vh => wpE Φ Γ e K false env vh fun x e1 h1 => ∃ e2, bindT (.many is) x.d e1 = some e2 ∧ V.nx e2 h1
  | .aug i op e, K, V, env, vh => match env[i]? with
    | some (.val c) => wpE Φ Γ e K false env vh fun y e1 h1 => wpAug op c y.d fun z => V.nx (e1.set i (.val z)) h1
    | _ => False
  | .sidx o i e, K, V, env, vh => wpE Φ Γ e K false env vh fun x e1 h1 => asO o (wpE Φ Γ o) K e1 h1 fun oo e2 h2 => wpE Φ Γ i K false e2 h2 fun ix e3 h3 => wpSet oo ix.d x.d e3 h3 V.nx
  | .app o e, K, V, env, vh => asO o (wpE Φ Γ o) K env vh fun oo e1 h1 => isLs oo e1 h1 ∧ wpE Φ Γ e K false e1 h1 fun x e2 h2 => wpApp oo x.d e2 h2 V.nx
  | .ext o e, K, V, env, vh => asO o (wpE Φ Γ o) K env vh fun oo e1 h1 => isLs oo e1 h1 ∧ wpE Φ Γ e K false e1 h1 fun x e2 h2 => ∃ ys, seqD x.d = some ys ∧ wpExt oo ys e2 h2 V.nx
  | .ret e, K, V, env, vh => wpE Φ Γ e K false env vh fun x e1 h1 => V.rt x h1
  | .retO i, K, V, env, vh => match env[i]? with
    | some (.own ds) => V.rt (.fr ds) vh
    | _ => False
  | .expr e, K, V, env, vh => wpE Φ Γ e K false env vh fun x e1 h1 => V.nx e1 h1
  | .cond c a b, K, V, env, vh => wpE Φ Γ c K true env vh fun x e1 h1 => match x with
    | .v (.bl k) => ifP k (wpB Φ Γ a K V e1 h1) (wpB Φ Γ b K V e1 h1)
    | _ => False
  | .forS tg k es body, K, V, env, vh => wpEs Φ Γ es K env vh fun ds e1 h1 => ∃ items, itemsD k ds = some items ∧
      forGo (fun d N e h => ∃ e2, bindT tg d e = some e2 ∧ wpB Φ Γ body K { V with nx := N, ct := N, bk := V.nx } e2 h) items e1 h1 V.nx
  | .whl c body, K, V, env, vh => ∃ I : Nat → VE → VH → Prop, (∃ n, I n env vh) ∧ ∀ n env vh, I n env vh → wpE Φ Γ c K true env vh fun x e1 h1 => match x with
    | .v (.bl k) => ifP k (wpB Φ Γ body K { V with nx := fun e h => ∃ m, m < n ∧ I m e h, ct := fun e h => ∃ m, m < n ∧ I m e h, bk := V.nx } e1 h1) (V.nx e1 h1)
    | _ => False
  | .raise c es, K, V, env, vh => wpEs Φ Γ es K env vh fun ds e1 h1 => K c ds e1 h1
  | .tryS tb body cs sus, K, V, env, vh => wpB Φ Γ body (fun c xs e h => match tb.lookup c with
      | some (ns, anc) => wpH Φ Γ ns anc xs cs sus (K c xs e h) V e h
      | none => False) V env vh
  | .never, K, V, env, vh => False
/-- what the clauses do -/
def wpH (Φ : Fns) (Γ : Cns) (ns anc : List Str) (xs : List D) : List (Str × Option Nat) → List (List S) → Prop → VEnds → VE → VH → Prop
  | [], _, P, V, env, vh => P
  | _ :: _, [], P, V, env, vh => False
  | (c, o) :: cs, su :: sus, P, V, env, vh => ifP (anc.contains c) (∀ a, wpB Φ (errG Γ ns anc xs a) su noX (offV o V) (onE o a env) vh) (wpH Φ Γ ns anc xs cs sus P V env vh)
def wpB (Φ : Fns) (Γ : Cns) : List S → XP → VEnds → VE → VH → Prop
  | [], K, V, env, vh => V.nx env vh
  | s :: ss, K, V, env, vh => wpS Φ Γ s K { V with nx := fun e h => wpB Φ Γ ss K V e h } env vh
end
end R

set_option autoImplicit false
namespace R
open PySem PySem.Spec PyProof.Rows L2
/-! ## REq: one text of the small language, or another -/
mutual
def eqE : E → E → Bool
  | .non, .non => true
  | .bl a0, .bl b0 => decide (a0 = b0)
  | .int a0, .int b0 => decide (a0 = b0)
  | .str a0, .str b0 => decide (a0 = b0)
  | .var a0, .var b0 => decide (a0 = b0)
  | .bor a0, .bor b0 => decide (a0 = b0)
  | .glo a0, .glo b0 => decide (a0 = b0)
  | .skip, .skip => true
  | .tup a0, .tup b0 => eqEs a0 b0
  | .lst a0, .lst b0 => eqEs a0 b0
  | .bin a0 a1 a2, .bin b0 b1 b2 => decide (a0 = b0) && eqE a1 b1 && eqE a2 b2
  | .neg a0, .neg b0 => eqE a0 b0
  | .cmp a0 a1 a2, .cmp b0 b1 b2 => decide (a0 = b0) && eqE a1 b1 && eqE a2 b2
  | .chain a0 a1 a2 a3 a4, .chain b0 b1 b2 b3 b4 => decide (a0 = b0) && decide (a1 = b1) && eqE a2 b2 && eqE a3 b3 && eqE a4 b4
  | .and a0 a1, .and b0 b1 => eqE a0 b0 && eqE a1 b1
  | .or a0 a1, .or b0 b1 => eqE a0 b0 && eqE a1 b1
  | .not a0, .not b0 => eqE a0 b0
  | .ite a0 a1 a2, .ite b0 b1 b2 => eqE a0 b0 && eqE a1 b1 && eqE a2 b2
  | .idx a0 a1, .idx b0 b1 => eqE a0 b0 && eqE a1 b1
  | .sli a0 a1 a2, .sli b0 b1 b2 => eqE a0 b0 && eqE a1 b1 && eqE a2 b2
  | .call a0 a1, .call b0 b1 => decide (a0 = b0) && eqEs a1 b1
  | .blt a0 a1, .blt b0 b1 => decide (a0 = b0) && eqEs a1 b1
  | .isi a0 a1, .isi b0 b1 => eqE a0 b0 && decide (a1 = b1)
  | .lc a0 a1 a2 a3 a4 a5, .lc b0 b1 b2 b3 b4 b5 => eqE a0 b0 && decide (a1 = b1) && decide (a2 = b2) && decide (a3 = b3) && eqEs a4 b4 && eqEs a5 b5
  | .attr a0 a1, .attr b0 b1 => eqE a0 b0 && decide (a1 = b1)
  | .dct a0 a1, .dct b0 b1 => decide (a0 = b0) && eqEs a1 b1
  | _, _ => false
def eqEs : List E → List E → Bool
  | [], [] => true
  | x :: xs, y :: ys => eqE x y && eqEs xs ys
  | _, _ => false
end
mutual
def eqS : S → S → Bool
  | .pass, .pass => true
  | .brk, .brk => true
  | .cont, .cont => true
  | .retN, .retN => true
  | .set a0 a1, .set b0 b1 => decide (a0 = b0) && eqE a1 b1
  | .setO a0 a1, .setO b0 b1 => decide (a0 = b0) && eqE a1 b1
  | .setS a0 a1, .setS b0 b1 => decide (a0 = b0) && eqE a1 b1
  | .par a0 a1 a2 a3, .par b0 b1 b2 b3 => decide (a0 = b0) && decide (a1 = b1) && eqE a2 b2 && eqE a3 b3
  | .unp a0 a1, .unp b0 b1 => decide (a0 = b0) && eqE a1 b1
  | .aug a0 a1 a2, .aug b0 b1 b2 => decide (a0 = b0) && decide (a1 = b1) && eqE a2 b2
  | .sidx a0 a1 a2, .sidx b0 b1 b2 => eqE a0 b0 && eqE a1 b1 && eqE a2 b2
  | .app a0 a1, .app b0 b1 => eqE a0 b0 && eqE a1 b1
  | .ext a0 a1, .ext b0 b1 => eqE a0 b0 && eqE a1 b1
  | .ret a0, .ret b0 => eqE a0 b0
  | .retO a0, .retO b0 => decide (a0 = b0)
  | .expr a0, .expr b0 => eqE a0 b0
  | .cond a0 a1 a2, .cond b0 b1 b2 => eqE a0 b0 && eqSs a1 b1 && eqSs a2 b2
  | .forS a0 a1 a2 a3, .forS b0 b1 b2 b3 => decide (a0 = b0) && decide (a1 = b1) && eqEs a2 b2 && eqSs a3 b3
  | .whl a0 a1, .whl b0 b1 => eqE a0 b0 && eqSs a1 b1
  | .raise a0 a1, .raise b0 b1 => decide (a0 = b0) && eqEs a1 b1
  | .tryS a0 a1 a2 a3, .tryS b0 b1 b2 b3 => decide (a0 = b0) && eqSs a1 b1 && decide (a2 = b2) && eqSss a3 b3
  | .never, .never => true
  | _, _ => false
def eqSs : List S → List S → Bool
  | [], [] => true
  | x :: xs, y :: ys => eqS x y && eqSs xs ys
  | _, _ => false
def eqSss : List (List S) → List (List S) → Bool
  | [], [] => true
  | x :: xs, y :: ys => eqSs x y && eqSss xs ys
  | _, _ => false
end
mutual
theorem eqE_ok : ∀ (a b : E), eqE a b = true → a = b
  | .non, b, h => by
    cases b <;> first | rfl | cases h
  | .bl a0, b, h => by
    cases b with
    | bl b0 =>
      simp only [eqE, Bool.and_eq_true] at h
      have h0 := h
      have e0 := of_decide_eq_true h0
      rw [e0]
    | _ => cases h
  | .int a0, b, h => by
    cases b with
    | int b0 =>
      simp only [eqE, Bool.and_eq_true] at h
      have h0 := h
      have e0 := of_decide_eq_true h0
      rw [e0]
    | _ => cases h
  | .str a0, b, h => by
    cases b with
    | str b0 =>
      simp only [eqE, Bool.and_eq_true] at h
      have h0 := h
      have e0 := of_decide_eq_true h0
      rw [e0]
    | _ => cases h
  | .var a0, b, h => by
    cases b with
    | var b0 =>
      simp only [eqE, Bool.and_eq_true] at h
      have h0 := h
      have e0 := of_decide_eq_true h0
      rw [e0]
    | _ => cases h
  | .bor a0, b, h => by
    cases b with
    | bor b0 =>
      simp only [eqE, Bool.and_eq_true] at h
      have h0 := h
      have e0 := of_decide_eq_true h0
      rw [e0]
    | _ => cases h
  | .glo a0, b, h => by
    cases b with
    | glo b0 =>
      simp only [eqE, Bool.and_eq_true] at h
      have h0 := h
      have e0 := of_decide_eq_true h0
      rw [e0]
    | _ => cases h
  | .skip, b, h => by
    cases b <;> first | rfl | cases h
  | .tup a0, b, h => by
    cases b with
    | tup b0 =>
      simp only [eqE, Bool.and_eq_true] at h
      have h0 := h
      have e0 := eqEs_ok a0 b0 h0
      rw [e0]
    | _ => cases h
  | .lst a0, b, h => by
    cases b with
    | lst b0 =>
      simp only [eqE, Bool.and_eq_true] at h
      have h0 := h
      have e0 := eqEs_ok a0 b0 h0
      rw [e0]
    | _ => cases h
  | .bin a0 a1 a2, b, h => by
    cases b with
    | bin b0 b1 b2 =>
      simp only [eqE, Bool.and_eq_true] at h
      obtain ⟨⟨h0, h1⟩, h2⟩ := h
      have e0 := of_decide_eq_true h0
      have e1 := eqE_ok a1 b1 h1
      have e2 := eqE_ok a2 b2 h2
      rw [e0, e1, e2]
    | _ => cases h
  | .neg a0, b, h => by
    cases b with
    | neg b0 =>
      simp only [eqE, Bool.and_eq_true] at h
      have h0 := h
      have e0 := eqE_ok a0 b0 h0
      rw [e0]
    | _ => cases h
  | .cmp a0 a1 a2, b, h => by
    cases b with
    | cmp b0 b1 b2 =>
      simp only [eqE, Bool.and_eq_true] at h
      obtain ⟨⟨h0, h1⟩, h2⟩ := h
      have e0 := of_decide_eq_true h0
      have e1 := eqE_ok a1 b1 h1
      have e2 := eqE_ok a2 b2 h2
      rw [e0, e1, e2]
    | _ => cases h
  | .chain a0 a1 a2 a3 a4, b, h => by
    cases b with
    | chain b0 b1 b2 b3 b4 =>
      simp only [eqE, Bool.and_eq_true] at h
      obtain ⟨⟨⟨⟨h0, h1⟩, h2⟩, h3⟩, h4⟩ := h
      have e0 := of_decide_eq_true h0
      have e1 := of_decide_eq_true h1
      have e2 := eqE_ok a2 b2 h2
      have e3 := eqE_ok a3 b3 h3
      have e4 := eqE_ok a4 b4 h4
      rw [e0, e1, e2, e3, e4]
    | _ => cases h
  | .and a0 a1, b, h => by
    cases b with
    | and b0 b1 =>
      simp only [eqE, Bool.and_eq_true] at h
      obtain ⟨h0, h1⟩ := h
      have e0 := eqE_ok a0 b0 h0
      have e1 := eqE_ok a1 b1 h1
      rw [e0, e1]
    | _ => cases h
  | .or a0 a1, b, h => by
    cases b with
    | or b0 b1 =>
      simp only [eqE, Bool.and_eq_true] at h
      obtain ⟨h0, h1⟩ := h
      have e0 := eqE_ok a0 b0 h0
      have e1 := eqE_ok a1 b1 h1
      rw [e0, e1]
    | _ => cases h
  | .not a0, b, h => by
    cases b with
    | not b0 =>
      simp only [eqE, Bool.and_eq_true] at h
      have h0 := h
      have e0 := eqE_ok a0 b0 h0
      rw [e0]
    | _ => cases h
  | .ite a0 a1 a2, b, h => by
    cases b with
    | ite b0 b1 b2 =>
      simp only [eqE, Bool.and_eq_true] at h
      obtain ⟨⟨h0, h1⟩, h2⟩ := h
      have e0 := eqE_ok a0 b0 h0
      have e1 := eqE_ok a1 b1 h1
      have e2 := eqE_ok a2 b2 h2
      rw [e0, e1, e2]
    | _ => cases h
  | .idx a0 a1, b, h => by
    cases b with
    | idx b0 b1 =>
      simp only [eqE, Bool.and_eq_true] at h
      obtain ⟨h0, h1⟩ := h
      have e0 := eqE_ok a0 b0 h0
      have e1 := eqE_ok a1 b1 h1
      rw [e0, e1]
    | _ => cases h
  | .sli a0 a1 a2, b, h => by
    cases b with
    | sli b0 b1 b2 =>
      simp only [eqE, Bool.and_eq_true] at h
      obtain ⟨⟨h0, h1⟩, h2⟩ := h
      have e0 := eqE_ok a0 b0 h0
      have e1 := eqE_ok a1 b1 h1
      have e2 := eqE_ok a2 b2 h2
      rw [e0, e1, e2]
    | _ => cases h
  | .call a0 a1, b, h => by
    cases b with
    | call b0 b1 =>
      simp only [eqE, Bool.and_eq_true] at h
      obtain ⟨h0, h1⟩ := h
      have e0 := of_decide_eq_true h0
      have e1 := eqEs_ok a1 b1 h1
      rw [e0, e1]
    | _ => cases h
  | .blt a0 a1, b, h => by
    cases b with
    | blt b0 b1 =>
      simp only [eqE, Bool.and_eq_true] at h
      obtain ⟨h0, h1⟩ := h
      have e0 := of_decide_eq_true h0
      have e1 := eqEs_ok a1 b1 h1
      rw [e0, e1]
    | _ => cases h
  | .isi a0 a1, b, h => by
    cases b with
    | isi b0 b1 =>
      simp only [eqE, Bool.and_eq_true] at h
      obtain ⟨h0, h1⟩ := h
      have e0 := eqE_ok a0 b0 h0
      have e1 := of_decide_eq_true h1
      rw [e0, e1]
    | _ => cases h
  | .lc a0 a1 a2 a3 a4 a5, b, h => by
    cases b with
    | lc b0 b1 b2 b3 b4 b5 =>
      simp only [eqE, Bool.and_eq_true] at h
      obtain ⟨⟨⟨⟨⟨h0, h1⟩, h2⟩, h3⟩, h4⟩, h5⟩ := h
      have e0 := eqE_ok a0 b0 h0
      have e1 := of_decide_eq_true h1
      have e2 := of_decide_eq_true h2
      have e3 := of_decide_eq_true h3
      have e4 := eqEs_ok a4 b4 h4
      have e5 := eqEs_ok a5 b5 h5
      rw [e0, e1, e2, e3, e4, e5]
    | _ => cases h
  | .attr a0 a1, b, h => by
    cases b with
    | attr b0 b1 =>
      simp only [eqE, Bool.and_eq_true] at h
      obtain ⟨h0, h1⟩ := h
      have e0 := eqE_ok a0 b0 h0
      have e1 := of_decide_eq_true h1
      rw [e0, e1]
    | _ => cases h
  | .dct a0 a1, b, h => by
    cases b with
    | dct b0 b1 =>
      simp only [eqE, Bool.and_eq_true] at h
      obtain ⟨h0, h1⟩ := h
      have e0 := of_decide_eq_true h0
      have e1 := eqEs_ok a1 b1 h1
      rw [e0, e1]
    | _ => cases h
theorem eqEs_ok : ∀ (a b : List E), eqEs a b = true → a = b
  | [], b, h => by
    cases b <;> first | rfl | cases h
  | x :: xs, b, h => by
    cases b with
    | nil => cases h
    | cons y ys =>
      simp only [eqEs, Bool.and_eq_true] at h
      rw [eqE_ok x y h.1, eqEs_ok xs ys h.2]
end
mutual
theorem eqS_ok : ∀ (a b : S), eqS a b = true → a = b
  | .pass, b, h => by
    cases b <;> first | rfl | cases h
  | .brk, b, h => by
    cases b <;> first | rfl | cases h
  | .cont, b, h => by
    cases b <;> first | rfl | cases h
  | .retN, b, h => by
    cases b <;> first | rfl | cases h
  | .set a0 a1, b, h => by
    cases b with
    | set b0 b1 =>
      simp only [eqS, Bool.and_eq_true] at h
      obtain ⟨h0, h1⟩ := h
      have e0 := of_decide_eq_true h0
      have e1 := eqE_ok a1 b1 h1
      rw [e0, e1]
    | _ => cases h
  | .setO a0 a1, b, h => by
    cases b with
    | setO b0 b1 =>
      simp only [eqS, Bool.and_eq_true] at h
      obtain ⟨h0, h1⟩ := h
      have e0 := of_decide_eq_true h0
      have e1 := eqE_ok a1 b1 h1
      rw [e0, e1]
    | _ => cases h
  | .setS a0 a1, b, h => by
    cases b with
    | setS b0 b1 =>
      simp only [eqS, Bool.and_eq_true] at h
      obtain ⟨h0, h1⟩ := h
      have e0 := of_decide_eq_true h0
      have e1 := eqE_ok a1 b1 h1
      rw [e0, e1]
    | _ => cases h
  | .par a0 a1 a2 a3, b, h => by
    cases b with
    | par b0 b1 b2 b3 =>
      simp only [eqS, Bool.and_eq_true] at h
      obtain ⟨⟨⟨h0, h1⟩, h2⟩, h3⟩ := h
      have e0 := of_decide_eq_true h0
      have e1 := of_decide_eq_true h1
      have e2 := eqE_ok a2 b2 h2
      have e3 := eqE_ok a3 b3 h3
      rw [e0, e1, e2, e3]
    | _ => cases h
  | .unp a0 a1, b, h => by
    cases b with
    | unp b0 b1 =>
      simp only [eqS, Bool.and_eq_true] at h
      obtain ⟨h0, h1⟩ := h
      have e0 := of_decide_eq_true h0
      have e1 := eqE_ok a1 b1 h1
      rw [e0, e1]
    | _ => cases h
  | .aug a0 a1 a2, b, h => by
    cases b with
    | aug b0 b1 b2 =>
      simp only [eqS, Bool.and_eq_true] at h
      obtain ⟨⟨h0, h1⟩, h2⟩ := h
      have e0 := of_decide_eq_true h0
      have e1 := of_decide_eq_true h1
      have e2 := eqE_ok a2 b2 h2
      rw [e0, e1, e2]
    | _ => cases h
  | .sidx a0 a1 a2, b, h => by
    cases b with
    | sidx b0 b1 b2 =>
      simp only [eqS, Bool.and_eq_true] at h
      obtain ⟨⟨h0, h1⟩, h2⟩ := h
      have e0 := eqE_ok a0 b0 h0
      have e1 := eqE_ok a1 b1 h1
      have e2 := eqE_ok a2 b2 h2
      rw [e0, e1, e2]
    | _ => cases h
  | .app a0 a1, b, h => by
    cases b with
    | app b0 b1 =>
      simp only [eqS, Bool.and_eq_true] at h
      obtain ⟨h0, h1⟩ := h
      have e0 := eqE_ok a0 b0 h0
      have e1 := eqE_ok a1 b1 h1
      rw [e0, e1]
    | _ => cases h
  | .ext a0 a1, b, h => by
    cases b with
    | ext b0 b1 =>
      simp only [eqS, Bool.and_eq_true] at h
      obtain ⟨h0, h1⟩ := h
      have e0 := eqE_ok a0 b0 h0
      have e1 := eqE_ok a1 b1 h1
      rw [e0, e1]
    | _ => cases h
  | .ret a0, b, h => by
    cases b with
    | ret b0 =>
      simp only [eqS, Bool.and_eq_true] at h
      have h0 := h
      have e0 := eqE_ok a0 b0 h0
      rw [e0]
    | _ => cases h
  | .retO a0, b, h => by
    cases b with
    | retO b0 =>
      simp only [eqS, Bool.and_eq_true] at h
      have h0 := h
      have e0 := of_decide_eq_true h0
      rw [e0]
    | _ => cases h
  | .expr a0, b, h => by
    cases b with
    | expr b0 =>
      simp only [eqS, Bool.and_eq_true] at h
      have h0 := h
      have e0 := eqE_ok a0 b0 h0
      rw [e0]
    | _ => cases h
  | .cond a0 a1 a2, b, h => by
    cases b with
    | cond b0 b1 b2 =>
      simp only [eqS, Bool.and_eq_true] at h
      obtain ⟨⟨h0, h1⟩, h2⟩ := h
      have e0 := eqE_ok a0 b0 h0
      have e1 := eqSs_ok a1 b1 h1
      have e2 := eqSs_ok a2 b2 h2
      rw [e0, e1, e2]
    | _ => cases h
  | .forS a0 a1 a2 a3, b, h => by
    cases b with
    | forS b0 b1 b2 b3 =>
      simp only [eqS, Bool.and_eq_true] at h
      obtain ⟨⟨⟨h0, h1⟩, h2⟩, h3⟩ := h
      have e0 := of_decide_eq_true h0
      have e1 := of_decide_eq_true h1
      have e2 := eqEs_ok a2 b2 h2
      have e3 := eqSs_ok a3 b3 h3
      rw [e0, e1, e2, e3]
    | _ => cases h
  | .whl a0 a1, b, h => by
    cases b with
    | whl b0 b1 =>
      simp only [eqS, Bool.and_eq_true] at h
      obtain ⟨h0, h1⟩ := h
      have e0 := eqE_ok a0 b0 h0
      have e1 := eqSs_ok a1 b1 h1
      rw [e0, e1]
    | _ => cases h
  | .raise a0 a1, b, h => by
    cases b with
    | raise b0 b1 =>
      simp only [eqS, Bool.and_eq_true] at h
      obtain ⟨h0, h1⟩ := h
      have e0 := of_decide_eq_true h0
      have e1 := eqEs_ok a1 b1 h1
      rw [e0, e1]
    | _ => cases h
  | .tryS a0 a1 a2 a3, b, h => by
    cases b with
    | tryS b0 b1 b2 b3 =>
      simp only [eqS, Bool.and_eq_true] at h
      obtain ⟨⟨⟨h0, h1⟩, h2⟩, h3⟩ := h
      have e0 := of_decide_eq_true h0
      have e1 := eqSs_ok a1 b1 h1
      have e2 := of_decide_eq_true h2
      have e3 := eqSss_ok a3 b3 h3
      rw [e0, e1, e2, e3]
    | _ => cases h
  | .never, b, h => by
    cases b <;> first | rfl | cases h
theorem eqSs_ok : ∀ (a b : List S), eqSs a b = true → a = b
  | [], b, h => by
    cases b <;> first | rfl | cases h
  | x :: xs, b, h => by
    cases b with
    | nil => cases h
    | cons y ys =>
      simp only [eqSs, Bool.and_eq_true] at h
      rw [eqS_ok x y h.1, eqSs_ok xs ys h.2]
theorem eqSss_ok : ∀ (a b : List (List S)), eqSss a b = true → a = b
  | [], b, h => by
    cases b <;> first | rfl | cases h
  | x :: xs, b, h => by
    cases b with
    | nil => cases h
    | cons y ys =>
      simp only [eqSss, Bool.and_eq_true] at h
      rw [eqSs_ok x y h.1, eqSss_ok xs ys h.2]
end
def eqO (a : Option (List S)) (b : List S) : Bool := match a with
  | some a => eqSs a b
  | none => false
theorem eqO_ok {a : Option (List S)} {b : List S} (h : eqO a b = true) : a = some b := by
  cases a with
  | none => cases h
  | some a => rw [eqSs_ok a b h]
end R

set_option autoImplicit false
theorem _root_.L2.PS.imp {X : L2.Cx} {st : PySem.Stmt} {t t' : L2.TS} (h : L2.PS X st t) (f : ∀ D σ H, t' D σ H → t D σ H) : L2.PS X st t' := ⟨fun pins s σ H D I hw => h.run pins s σ H D I (f D σ H hw)⟩
theorem _root_.L2.PSs.imp {X : L2.Cx} {st : List PySem.Stmt} {t t' : L2.TS} (h : L2.PSs X st t) (f : ∀ D σ H, t' D σ H → t D σ H) : L2.PSs X st t' := ⟨fun pins s σ H D I hw => h.run pins s σ H D I (f D σ H hw)⟩
namespace R
open PySem PySem.Spec PyProof.Rows L2
/-! ## R6: rules for statements -/
/-- how the ends are met -/
structure VD (G : Wd) (B : Base) (V : VEnds) (D : Ends) : Prop where
  nx : ∀ ρ env vh σ H, Rel G B [] ρ env vh σ H → V.nx env vh → D.nx σ H
  rt : ∀ x v ρ vh H, ResF G B x v ρ vh H → V.rt x vh → D.rt v H
  bk : ∀ ρ env vh σ H, Rel G B [] ρ env vh σ H → V.bk env vh → D.bk σ H
  ct : ∀ ρ env vh σ H, Rel G B [] ρ env vh σ H → V.ct env vh → D.ct σ H
def tS (G : Wd) (B : Base) (w : VEnds → VE → VH → Prop) : TS := fun D σ H => ∃ ρ env vh V, Rel G B [] ρ env vh σ H ∧ VD G B V D ∧ w V env vh
/-- what a def's body is run in -/
structure SOk (X : Cx) (G : Wd) (B : Base) (K : XP) (Φ : Fns) (Γ : Cns) (fs : List Str) : Prop extends XOk X G B K Φ Γ fs where
  po : PassesOwn (model X.prog X.w) X.A X.env X.xe
  fnT : ∀ x, X.fn x = true
  stk : X.stack = X.env :: X.outer
  frm : X.env.frame = some X.env.locals
  exN : X.ex = []
section
variable {X : Cx} {G : Wd} {B : Base} {K : XP} {Φ : Fns} {Γ : Cns} {fs : List Str} {T ρ : List Addr} {env : VE} {vh : VH} {σ : L2.St} {H : Hp}
theorem SOk.now (o : SOk X G B K Φ Γ fs) (hc : hotN ∉ fs) (R : Rel G B T ρ env vh σ H) : SOk X G (B.now T ρ env σ H) K Φ Γ fs :=
  { o with er := fun h => absurd h hc, tk := o.tk.imp fun cls d σ' H' ⟨c, C, xs, T', ρ', env', vh', h1, h2, S, x, k⟩ => ⟨c, C, xs, T', ρ', env', vh', h1, h2, R.unbase S, x, k⟩ }
theorem ResF.unbase {x : DV} {v : V} {ρ' : List Addr} {vh' : VH} {H' : Hp} (R : Rel G B T ρ env vh σ H) (r : ResF G (B.now T ρ env σ H) x v ρ' vh' H') : ResF G B x v ρ' vh' H' := by
  cases x with
  | v d => exact ⟨R.unbase r.1, r.2⟩
  | fr ds =>
    obtain ⟨a, vs, e, h, S, h2⟩ := r
    exact ⟨a, vs, e, h, R.unbase S, h2⟩
theorem Res.ret {x : DV} {v : V} {ρ' : List Addr} {env' : VE} {vh' : VH} {H' : Hp} (r : Res G B [] ρ env σ H x v ρ' env' vh' H') : ResF G B x v ρ' vh' H' := by
  cases x with
  | v d =>
    obtain ⟨m, S, h⟩ := r
    exact ⟨S.ret, Rel.ret_d h⟩
  | fr ds =>
    obtain ⟨a, vs, e, h, m, S, h2⟩ := r
    exact ⟨a, vs, e, h, S.ret, Rel.ret_ds h2⟩

theorem rs_nil : PSs X [] (tS G B fun V env vh => V.nx env vh) := pss_nil.imp fun D σ H ⟨ρ, env, vh, V, R, vd, w⟩ => vd.nx _ _ _ _ _ R w
theorem rs_cons {st : Stmt} {rest : List Stmt} {w1 w2 : VEnds → VE → VH → Prop} (h1 : PS X st (tS G B w1)) (h2 : PSs X rest (tS G B w2)) : PSs X (st :: rest) (tS G B fun V env vh => w1 { V with nx := fun e h => w2 V e h } env vh) :=
  (pss_cons h1 h2).imp fun D σ H ⟨ρ, env, vh, V, R, vd, w⟩ => ⟨ρ, env, vh, { V with nx := fun e h => w2 V e h }, R, ⟨fun ρ' env' vh' σ' H' R' z => ⟨ρ', env', vh', V, R', vd, z⟩, vd.rt, vd.bk, vd.ct⟩, w⟩
theorem rs_pass {pos : Pos} : PS X (.Pass pos) (tS G B fun V env vh => V.nx env vh) := ps_pass.imp fun D σ H ⟨ρ, env, vh, V, R, vd, w⟩ => vd.nx _ _ _ _ _ R w
theorem rs_doc {x j pos pos'} : PS X (.Expr (.Constant (.str x) j pos) pos') (tS G B fun V env vh => V.nx env vh) := ps_doc.imp fun D σ H ⟨ρ, env, vh, V, R, vd, w⟩ => vd.nx _ _ _ _ _ R w
theorem rs_break {pos : Pos} : PS X (.Break pos) (tS G B fun V env vh => V.bk env vh) := ps_break.imp fun D σ H ⟨ρ, env, vh, V, R, vd, w⟩ => vd.bk _ _ _ _ _ R w
theorem rs_cont {pos : Pos} : PS X (.Continue pos) (tS G B fun V env vh => V.ct env vh) := ps_continue.imp fun D σ H ⟨ρ, env, vh, V, R, vd, w⟩ => vd.ct _ _ _ _ _ R w
theorem rs_never {st : Stmt} : PS X st (tS G B fun V env vh => False) := ps_never.imp fun D σ H ⟨ρ, env, vh, V, R, vd, w⟩ => w.elim
theorem rs_retN {pos : Pos} : PS X (.Return none pos) (tS G B fun V env vh => V.rt (.v .non) vh) := ps_retN.imp fun D σ H ⟨ρ, env, vh, V, R, vd, w⟩ => vd.rt (.v .non) _ ρ _ _ ⟨R.ret, rfl⟩ w
theorem rs_ret {e : Expr} {pos : Pos} {we : VE → VH → QE → Prop} (me : ∀ env vh (Q Q' : QE), (∀ x e h, Q x e h → Q' x e h) → we env vh Q → we env vh Q') (h : PE X e (tD G B we)) :
    PS X (.Return (some e) pos) (tS G B fun V env vh => we env vh fun x e1 h1 => V.rt x h1) :=
  (ps_ret h).imp fun D σ H ⟨ρ, env, vh, V, R, vd, w⟩ => ⟨[], ρ, env, vh, R, me _ _ _ _ (fun x e1 h1 z ρ' v H' r => vd.rt _ _ _ _ _ r.ret z) w⟩
theorem rs_retO {e : Expr} {pos : Pos} {i : Nat} (h : PE X e (tVar i)) :
    PS X (.Return (some e) pos) (tS G B fun V env vh => match env[i]? with
      | some (.own ds) => V.rt (.fr ds) vh
      | _ => False) :=
  (ps_ret h).imp fun D σ H ⟨ρ, env, vh, V, R, vd, w⟩ => by
    dsimp only at w
    split at w
    · rename_i ds e
      obtain ⟨a, vs, h1, h2, S, h3⟩ := R.take e
      exact ⟨_, h1, vd.rt (.fr ds) _ _ _ _ ⟨a, vs, rfl, h2, S.ret, Rel.ret_ds h3⟩ w⟩
    · exact w.elim
theorem rs_expr {e : Expr} {pos : Pos} {we : VE → VH → QE → Prop} (me : ∀ env vh (Q Q' : QE), (∀ x e h, Q x e h → Q' x e h) → we env vh Q → we env vh Q') (h : PE X e (tD G B we)) (hs : swapsWith e none pos.line X.env = pure false) :
    PS X (.Expr e pos) (tS G B fun V env vh => we env vh fun x e1 h1 => V.nx e1 h1) :=
  (ps_expr h hs).imp fun D σ H ⟨ρ, env, vh, V, R, vd, w⟩ => ⟨[], ρ, env, vh, R, me _ _ _ _ (fun x e1 h1 z ρ' v H' r => vd.nx _ _ _ _ _ r.d.2.1 z) w⟩

/-! ### stores -/
abbrev PAs (X : Cx) (G : Wd) (B : Base) (st : Stmt) (i : Nat) (we : VE → VH → QE → Prop) : Prop := PS X st (tAsg (tD G B we) (gName i))
theorem rs_set {st : Stmt} {i : Nat} {we : VE → VH → QE → Prop} (me : ∀ env vh (Q Q' : QE), (∀ x e h, Q x e h → Q' x e h) → we env vh Q → we env vh Q') (h : PAs X G B st i we) :
    PS X st (tS G B fun V env vh => we env vh fun x e1 h1 => V.nx (e1.set i (.val x.d)) h1) :=
  h.imp fun D σ H ⟨ρ, env, vh, V, R, vd, w⟩ => ⟨[], ρ, env, vh, R, me _ _ _ _ (fun x e1 h1 z ρ' v H' r => by
    obtain ⟨m, R', hv⟩ := r.d
    exact vd.nx _ _ _ _ _ (R'.setVal hv) z) w⟩
theorem rs_setO {st : Stmt} {i : Nat} {we : VE → VH → QE → Prop} (me : ∀ env vh (Q Q' : QE), (∀ x e h, Q x e h → Q' x e h) → we env vh Q → we env vh Q') (h : PAs X G B st i we) :
    PS X st (tS G B fun V env vh => we env vh fun x e1 h1 => match x with
      | .fr ds => V.nx (e1.set i (.own ds)) h1
      | .v _ => False) :=
  h.imp fun D σ H ⟨ρ, env, vh, V, R, vd, w⟩ => ⟨[], ρ, env, vh, R, me _ _ _ _ (fun x e1 h1 z ρ' v H' r => by
    cases x with
    | v d => exact z.elim
    | fr ds =>
      obtain ⟨a, vs, rfl, h1, m, R', hv⟩ := r
      exact vd.nx _ _ _ _ _ (R'.setOwn h1 hv) z) w⟩
theorem rs_setS {st : Stmt} {i : Nat} {we : VE → VH → QE → Prop} (me : ∀ env vh (Q Q' : QE), (∀ x e h, Q x e h → Q' x e h) → we env vh Q → we env vh Q') (h : PAs X G B st i we) :
    PS X st (tS G B fun V env vh => we env vh fun x e1 h1 => match x with
      | .fr ds => V.nx (e1.set i (.val (.ref h1.length))) (h1 ++ [.lst ds])
      | .v _ => False) :=
  h.imp fun D σ H ⟨ρ, env, vh, V, R, vd, w⟩ => ⟨[], ρ, env, vh, R, me _ _ _ _ (fun x e1 h1 z ρ' v H' r => by
    cases x with
    | v d => exact z.elim
    | fr ds =>
      obtain ⟨a, vs, rfl, h2, m, R', hv⟩ := r
      have S := R'.share (o := .lst ds) ⟨vs, h2, hv⟩
      have ha : (ρ' ++ [a])[h1.length]? = some a := by rw [R'.vl]; simp
      exact vd.nx _ _ _ _ _ (S.setVal (d := .ref h1.length) ⟨a, ha, rfl⟩) z) w⟩
theorem pas_set (o : SOk X G B K Φ Γ fs) {i : Nat} {x : Str} {e : Expr} {pos pos' : Pos} {we : VE → VH → QE → Prop} (hi : X.N[i]? = some x) (hx : Loc X.env.scope x) (he : PE X e (tD G B we)) (hs : swapsWith e (some (.Name x pos')) pos.line X.env = pure false) :
    PAs X G B (.Assign [.Name x pos'] e pos) i we := ps_set o.nd hi hx he hs (.inl (o.fnT x))
theorem rs_par (o : SOk X G B K Φ Γ fs) (hc : hotN ∉ fs) {i j : Nat} {x y : Str} {a b : Expr} {px py pt : Pos} {kt k2 : Nat} {pt2 pos : Pos} {ws : VE → VH → (List R.D → VE → VH → Prop) → Prop} (m : ∀ env vh (Q Q' : List R.D → VE → VH → Prop), (∀ x e h, Q x e h → Q' x e h) → ws env vh Q → ws env vh Q')
    (hi : X.N[i]? = some x) (hj : X.N[j]? = some y) (hij : i ≠ j) (hx : X.env.scope.names.lookup x = some .local) (hy : X.env.scope.names.lookup y = some .local) (ha : PA X [a, b] (tL G B ws))
    (hw : swappedStores [.Tuple [.Name x px, .Name y py] kt pt] (.Tuple [a, b] k2 pt2) X.env = pure (some [x, y])) (hs : swapsWithSole [.Tuple [.Name x px, .Name y py] kt pt] (.Tuple [a, b] k2 pt2) pos.line X.env = pure false) :
    PS X (.Assign [.Tuple [.Name x px, .Name y py] kt pt] (.Tuple [a, b] k2 pt2) pos) (tS G B fun V env vh => ws env vh fun ds e1 h1 => match ds with
      | [x, y] => V.nx ((e1.set i (.val x)).set j (.val y)) h1
      | _ => False) :=
  (ps_par (o.calm hc) o.nd hi hj hij hx hy ha hw hs).imp fun D σ H ⟨ρ, env, vh, V, R, vd, w⟩ => ⟨[], ρ, env, vh, R, m _ _ _ _ (fun ds e1 h1 z ρ' vs H' mv R' hv => by
    match ds, z, hv with
    | [p, q], z, ⟨v, r, e1, hp, w, r2, e2, hq, e3⟩ =>
      cases (show r2 = [] from e3)
      subst e2 e1
      exact ⟨v, w, rfl, vd.nx _ _ _ _ _ ((R'.setVal hp).setVal (RD.move (setValMv R') _ _ hq)) z⟩) w⟩
theorem rs_unp (o : SOk X G B K Φ Γ fs) {is : List Nat} {ts : List Expr} {kt : Nat} {pt pos : Pos} {e : Expr} {we : VE → VH → QE → Prop} (me : ∀ env vh (Q Q' : QE), (∀ x e h, Q x e h → Q' x e h) → we env vh Q → we env vh Q') (he : PE X e (tD G B we))
    (hg : PG X (.Tuple ts kt pt) (gOf G.K (.many is))) (hs : swapsWithSole [.Tuple ts kt pt] e pos.line X.env = pure false) (hw : swappedStores [.Tuple ts kt pt] e X.env = pure none) (h1 : (assignEach [.Tuple ts kt pt] X.env).map (·.2) = [assign (.Tuple ts kt pt) X.env]) :
    PS X (.Assign [.Tuple ts kt pt] e pos) (tS G B fun V env vh => we env vh fun x e1 h1 => ∃ e2, bindT (.many is) x.d e1 = some e2 ∧ V.nx e2 h1) :=
  (ps_asg he hg hs hw h1).imp fun D σ H ⟨ρ, env, vh, V, R, vd, w⟩ => ⟨[], ρ, env, vh, R, me _ _ _ _ (fun x e1 h1 ⟨e2, hb, z⟩ ρ' v H' r => by
    obtain ⟨m, R', hv⟩ := r.d
    exact bind_ok R' hv hb fun σ2 R2 _ _ => vd.nx _ _ _ _ _ R2 z) w⟩
/-- a op= b -/
theorem ip_d (op : Operator) : PIp X op (fun x y H Q => ∃ Z ρ c d, RW G Z ρ H c x ∧ RW G Z ρ H d y ∧ wpAug op c d fun z => ∀ v H', Same H H' → RD G Z ρ H' z v → Q v H') := by
  rintro pins s σ H x y v u Q I r1 r2 ⟨Z, ρ, c, d, hc, hd, q⟩
  unfold wpAug at q
  split at q
  · cases (show x = _ from hc)
    cases (show y = _ from hd)
    exact ip_add pins s σ H _ _ v u Q I r1 r2 ⟨_, _, rfl, rfl, q _ _ (Same.refl _) rfl⟩
  · cases (show x = _ from hc)
    cases (show y = _ from hd)
    exact ip_sub pins s σ H _ _ v u Q I r1 r2 ⟨_, _, rfl, rfl, q _ _ (Same.refl _) rfl⟩
  · exact q.elim
theorem rs_aug (o : SOk X G B K Φ Γ fs) {i : Nat} {x : Str} {e : Expr} {op : Operator} {pos pos' : Pos} {we : VE → VH → QE → Prop} (me : ∀ env vh (Q Q' : QE), (∀ x e h, Q x e h → Q' x e h) → we env vh Q → we env vh Q') (hi : X.N[i]? = some x) (hx : Loc X.env.scope x) (he : PE X e (tD G B we)) :
    PS X (.AugAssign (.Name x pos') op e pos) (tS G B fun V env vh => match env[i]? with
      | some (.val c) => we env vh fun y e1 h1 => wpAug op c y.d fun z => V.nx (e1.set i (.val z)) h1
      | _ => False) :=
  (ps_aug o.nd hi hx he (ip_d (G := G) op) (.inl (o.fnT x))).imp fun D σ H ⟨ρ, env, vh, V, R, vd, w⟩ => by
    dsimp only at w
    split at w
    · rename_i c hc
      obtain ⟨v, e, hv⟩ := R.st i _ hc
      refine ⟨v, e, [], ρ, env, vh, R, me _ _ _ _ (fun y e1 h1 z ρ' u H' r => ?_) w⟩
      obtain ⟨m, R', hu⟩ := r.d
      have mono : ∀ {Q Q' : _root_.R.D → Prop}, (∀ x, Q x → Q' x) → wpAug op c y.d Q → wpAug op c y.d Q' := fun {Q Q'} f h => by
        unfold wpAug at *
        split at h <;> first | exact f _ h | exact h
      exact ⟨_, ρ', c, y.d, (RD.move m _ _ hv).w, hu.w, mono (fun zz q vv H2 sm hz => vd.nx _ _ _ _ _ ((R'.grow sm).setVal hz) q) z⟩
    · exact w.elim
theorem set_sh {n : Nat} {k x : R.D} {Q : VH → Prop} {a kv xv : V} {D : Hp → Prop} (R : Rel G B T ρ env vh σ H) (ha : RD G (ZZ B.F T ρ env σ) ρ H (.ref n) a) (hk : RD G (ZZ B.F T ρ env σ) ρ H k kv) (hx : RD G (ZZ B.F T ρ env σ) ρ H x xv) (w : setSh n k x vh Q)
    (f : ∀ vh' H', Rel G B T ρ env vh' σ H' → Q vh' → D H') : rSetL a kv xv H D := by
  obtain ⟨p, hp, rfl⟩ := ha
  unfold setSh at w
  split at w
  · rename_i xs j hn
    cases (show kv = _ from hk)
    obtain ⟨m, hm, q⟩ := w
    obtain ⟨vs, h1, h2⟩ := R.ob n _ p hn hp
    have hz : ZZ B.F T ρ env σ p := .inr (.inr (.inl (List.mem_of_getElem? hp)))
    have mu : Mv (ZZ B.F T ρ env σ) ρ H (ZZ B.F T ρ env σ) ρ (upd H p (.lst (vs.set m xv))) := Mv.upd hz h1 trivial
    refine ⟨p, vs, j, m, rfl, rfl, h1, by rw [← h2.length]; exact hm, f _ _ (R.shUpd hn hp trivial (o' := .lst (xs.set m x)) ⟨_, upd_same, ?_⟩) q⟩
    exact RDs.set m (RDs.move mu _ _ h2) (RD.move mu _ _ hx)
  · exact w.elim
theorem set_op {oo : Op} {k x : R.D} {Q : VE → VH → Prop} {a kv xv : V} {D : Hp → Prop} (R : Rel G B T ρ env vh σ H) (ha : OpV G (ZZ B.F T ρ env σ) ρ H σ oo a) (hk : RD G (ZZ B.F T ρ env σ) ρ H k kv) (hx : RD G (ZZ B.F T ρ env σ) ρ H x xv) (w : wpSet oo k x env vh Q)
    (f : ∀ env' vh' H', Rel G B T ρ env' vh' σ H' → Q env' vh' → D H') : rSetL a kv xv H D := by
  cases oo with
  | dat d =>
    cases d with
    | ref n => exact set_sh R ha hk hx w fun vh' H' R' q => f _ _ _ R' q
    | _ => exact (show False from w).elim
  | slt i =>
    have ha : σ[i]? = some (some a) := ha
    unfold wpSet at w
    dsimp only at w
    split at w
    · rename_i n hs
      obtain ⟨v, e, hv⟩ := R.st i _ hs
      rw [ha] at e
      cases e
      exact set_sh R hv hk hx w fun vh' H' R' q => f _ _ _ R' q
    · rename_i xs j hs
      cases (show kv = _ from hk)
      obtain ⟨m, hm, q⟩ := w
      obtain ⟨p, vs, e, h1, h2⟩ := R.st i _ hs
      rw [ha] at e
      cases e
      have hz : ZZ B.F T ρ env σ p := .inr (.inr (.inr ⟨i, _, hs, ha⟩))
      have mu : Mv (ZZ B.F T ρ env σ) ρ H (ZZ B.F T ρ env σ) ρ (upd H p (.lst (vs.set m xv))) := Mv.upd hz h1 trivial
      exact ⟨p, vs, j, m, rfl, rfl, h1, by rw [← h2.length]; exact hm, f _ _ _ (R.ownUpd hs ha h1 (RDs.set m h2 hx)) q⟩
    · exact w.elim
theorem rs_sidx (o : SOk X G B K Φ Γ fs) {a i e : Expr} {tpos pos : Pos} {wo : VE → VH → (Op → VE → VH → Prop) → Prop} {wi we : VE → VH → QE → Prop} (mo : ∀ env vh (Q Q' : Op → VE → VH → Prop), (∀ x e h, Q x e h → Q' x e h) → wo env vh Q → wo env vh Q')
    (mi : ∀ env vh (Q Q' : QE), (∀ x e h, Q x e h → Q' x e h) → wi env vh Q → wi env vh Q') (me : ∀ env vh (Q Q' : QE), (∀ x e h, Q x e h → Q' x e h) → we env vh Q → we env vh Q')
    (ho : PE X a (tO G B wo)) (hi : PE X i (tD G B wi)) (he : PE X e (tD G B we))
    (ha : ∀ v, assign (.Subscript a i tpos) X.env v = (do
      let ov ← holding [v] (eval a X.env)
      let iv ← holding [v, ov] (eval i X.env)
      standAt tpos
      holding [v, ov, iv] (setItem ov iv v)
      release [v, ov, iv] []))
    (hs : swapsWithSole [.Subscript a i tpos] e pos.line X.env = pure false) (hw : swappedStores [.Subscript a i tpos] e X.env = pure none) (h1 : (assignEach [.Subscript a i tpos] X.env).map (·.2) = [assign (.Subscript a i tpos) X.env]) :
    PS X (.Assign [.Subscript a i tpos] e pos) (tS G B fun V env vh => we env vh fun x e1 h1 => wo e1 h1 fun oo e2 h2 => wi e2 h2 fun ix e3 h3 => wpSet oo ix.d x.d e3 h3 V.nx) :=
  (ps_asg he (pg_sub ho hi set_list ha) hs hw h1).imp fun D σ H ⟨ρ, env, vh, V, R, vd, w⟩ => ⟨[], ρ, env, vh, R, me _ _ _ _ (fun x e1 h1 z ρ' v H' r => by
    obtain ⟨m, R', hv⟩ := r.d
    refine ⟨[], ρ', e1, h1, R', mo _ _ _ _ (fun oo e2 h2 z ρ2 a H2 m2 R2 hoo => ?_) z⟩
    refine ⟨[], ρ2, e2, h2, R2, mi _ _ _ _ (fun ix e3 h3 z ρ3 iv H3 r3 => ?_) z⟩
    obtain ⟨m3, R3, hi⟩ := r3.d
    exact set_op R3 (hoo.move m3) hi (RD.move (m2.trans m3) _ _ hv) z fun env' vh' H' R' q => vd.nx _ _ _ _ _ R' q) w⟩

/-! ### append -/
theorem is_ls {oo : Op} {a : V} (R : Rel G B T ρ env vh σ H) (ha : OpV G (ZZ B.F T ρ env σ) ρ H σ oo a) (w : isLs oo env vh) : tyV X.K "list" a H := by
  have sh : ∀ {n : Nat} {a : V}, RD G (ZZ B.F T ρ env σ) ρ H (.ref n) a → (∃ xs, vh[n]? = some (.lst xs)) → tyV X.K "list" a H := fun {n a} h ⟨xs, hn⟩ => by
    obtain ⟨p, hp, rfl⟩ := h
    obtain ⟨vs, h1, h2⟩ := R.ob n _ p hn hp
    exact .inl ⟨rfl, vs, .of h1⟩
  cases oo with
  | dat d =>
    cases d with
    | ref n => exact sh ha w
    | _ => exact (show False from w).elim
  | slt i =>
    have ha : σ[i]? = some (some a) := ha
    unfold isLs at w
    dsimp only at w
    split at w
    · rename_i n hs
      obtain ⟨v, e, hv⟩ := R.st i _ hs
      rw [ha] at e
      cases e
      exact sh hv w
    · rename_i xs hs
      obtain ⟨p, vs, e, h1, h2⟩ := R.st i _ hs
      rw [ha] at e
      cases e
      exact .inl ⟨rfl, vs, .of h1⟩
    · exact w.elim
theorem app_sh {n : Nat} {x : R.D} {Q : VH → Prop} {a xv : V} {D : VK} (R : Rel G B T ρ env vh σ H) (ha : RD G (ZZ B.F T ρ env σ) ρ H (.ref n) a) (hx : RD G (ZZ B.F T ρ env σ) ρ H x xv) (w : appSh n x vh Q)
    (f : ∀ vh' H', Rel G B T ρ env vh' σ H' → Q vh' → D .non H') : rAppend a [xv] H D := by
  obtain ⟨p, hp, rfl⟩ := ha
  unfold appSh at w
  split at w
  · rename_i xs hn
    obtain ⟨hl, q⟩ := w
    obtain ⟨vs, h1, h2⟩ := R.ob n _ p hn hp
    have hz : ZZ B.F T ρ env σ p := .inr (.inr (.inl (List.mem_of_getElem? hp)))
    have mu : Mv (ZZ B.F T ρ env σ) ρ H (ZZ B.F T ρ env σ) ρ (upd H p (.lst (vs ++ [xv]))) := Mv.upd hz h1 trivial
    refine ⟨p, vs, xv, rfl, rfl, h1, by rw [sizeLine_eq, ← h2.length]; exact hl, f _ _ (R.shUpd hn hp trivial (o' := .lst (xs ++ [x])) ⟨_, upd_same, ?_⟩) q⟩
    exact RDs.append (RDs.move mu _ _ h2) (.one (RD.move mu _ _ hx))
  · exact w.elim
theorem app_op {oo : Op} {x : R.D} {Q : VE → VH → Prop} {a xv : V} {D : VK} (R : Rel G B T ρ env vh σ H) (ha : OpV G (ZZ B.F T ρ env σ) ρ H σ oo a) (hx : RD G (ZZ B.F T ρ env σ) ρ H x xv) (w : wpApp oo x env vh Q)
    (f : ∀ env' vh' H', Rel G B T ρ env' vh' σ H' → Q env' vh' → D .non H') : rAppend a [xv] H D := by
  cases oo with
  | dat d =>
    cases d with
    | ref n => exact app_sh R ha hx w fun vh' H' R' q => f _ _ _ R' q
    | _ => exact (show False from w).elim
  | slt i =>
    have ha : σ[i]? = some (some a) := ha
    unfold wpApp at w
    dsimp only at w
    split at w
    · rename_i n hs
      obtain ⟨v, e, hv⟩ := R.st i _ hs
      rw [ha] at e
      cases e
      exact app_sh R hv hx w fun vh' H' R' q => f _ _ _ R' q
    · rename_i xs hs
      obtain ⟨hl, q⟩ := w
      obtain ⟨p, vs, e, h1, h2⟩ := R.st i _ hs
      rw [ha] at e
      cases e
      exact ⟨p, vs, xv, rfl, rfl, h1, by rw [sizeLine_eq, ← h2.length]; exact hl, f _ _ _ (R.ownUpd hs ha h1 (RDs.append h2 (.one hx))) q⟩
    · exact w.elim
theorem rs_app (o : SOk X G B K Φ Γ fs) {a e : Expr} {apos cpos pos : Pos} {wo : VE → VH → (Op → VE → VH → Prop) → Prop} {we : VE → VH → QE → Prop} (mo : ∀ env vh (Q Q' : Op → VE → VH → Prop), (∀ x e h, Q x e h → Q' x e h) → wo env vh Q → wo env vh Q')
    (me : ∀ env vh (Q Q' : QE), (∀ x e h, Q x e h → Q' x e h) → we env vh Q → we env vh Q') (ho : PE X a (tO G B wo)) (he : PE X e (tD G B we))
    (hbase : attributeBase a "append" X.env (eval a X.env) = eval a X.env) (hline : (apos.endLine == cpos.line) = true) (hs1 : starEach [e] X.env = (false, eval e X.env) :: starEach [] X.env) :
    PS X (.Expr (.Call (.Attribute a "append" apos) [e] [] cpos) pos) (tS G B fun V env vh => wo env vh fun oo e1 h1 => isLs oo e1 h1 ∧ we e1 h1 fun x e2 h2 => wpApp oo x.d e2 h2 V.nx) := by
  have pe := pe_bm PySem.F.plainAttrs_list PySem.F.slot_list_append PySem.F.type_list_append mt_append ho (pa_cons he pa_nil hs1) hbase (by rw [hs1]; rfl) hline hs1 rfl
  refine (ps_expr pe rfl).imp fun D σ H ⟨ρ, env, vh, V, R, vd, w⟩ => ⟨[], ρ, env, vh, R, mo _ _ _ _ (fun oo e1 h1 ⟨il, z⟩ ρ1 a H1 m1 R1 hoo => ?_) w⟩
  refine ⟨is_ls R1 hoo il, [], ρ1, e1, h1, R1, me _ _ _ _ (fun x e2 h2 z ρ2 v H2 r2 => ?_) z⟩
  obtain ⟨m2, R2, hv⟩ := r2.d
  exact app_op (D := fun _ H => D.nx σ H) R2 (hoo.move m2) hv z fun env' vh' H' R' q => vd.nx _ _ _ _ _ R' q

/-! ### extend -/
def rExtA (K : PySem.W.Frag) : V → List V → Hp → VK → Prop := fun x vs H Q => ∃ l b xs zs, x = .ref l ∧ vs = [.ref b] ∧ H l = some (.lst xs) ∧ (SqT K H b zs ∨ H b = some (.lst zs)) ∧ xs.length + zs.length ≤ sizeLine ∧ Q .non (upd H l (.lst (xs ++ zs)))
theorem mt_extA {X : Cx} : MtM X "list.extend" (rExtA X.K) := by
  intro pins s σ H x vs v us Q I rx rv h
  obtain ⟨l, b, xs, zs, rfl, rfl, hH, hB | hB, hz, q⟩ := h
  · cases rx
    obtain ⟨u, rfl, ru⟩ := rv.one
    cases ru
    obtain ⟨z, its, n, r, hl, e⟩ := I.lstM hH
    obtain ⟨its2, r2, ⟨⟨cls, dd, data, sl⟩, ho, hc, n2, hd⟩, hzz⟩ := I.tuple hB
    simp only at hc hd
    subst hc hd
    have hl2 : its2.length = zs.length := (Vals.length r2).symm
    have hsz : its.toArray.size + its2.toArray.size ≤ sizeLine := by rw [List.size_toArray, List.size_toArray]; omega
    have hlong : ¬ (!its.toArray.isEmpty && Builtin.List.listTooLong (its.toArray.size + its2.toArray.size)) = true := by
      rw [notLongL hsz, Bool.and_false]
      exact Bool.false_ne_true
    refine call_meets F.slot_list_extend ⟨_, e, rfl⟩ F.entry_list_extend (F.args_list_extend_2 _ _)
      (list_extend_tup l its.toArray n b its2.toArray n2 dd sl hlong (by rw [List.size_toArray]; omega) (by omega)) ⟨e, ho, ?_⟩
    refine ⟨.non, _, I.lset (its' := its ++ its2) hH e (by simp) (r.append r2) ?_, rfl, q⟩
    rw [List.length_append]
    omega
  · exact mt_extend pins s σ H _ _ v us Q I rx rv ⟨l, b, xs, zs, rfl, rfl, hH, hB, hz, q⟩
theorem ext_seq {K : PySem.W.Frag} (hK : K = G.K) {x : R.D} {ys : List R.D} {v : V} {Z : Addr → Prop} (hx : RD G Z ρ H x v) (e : seqD x = some ys) : ∃ b zs, v = .ref b ∧ (SqT K H b zs ∨ H b = some (.lst zs)) ∧ RDs G Z ρ H ys zs := by
  cases x with
  | tup xs =>
    cases e
    obtain ⟨a, vs, rfl, h1, h2⟩ := hx
    exact ⟨a, vs, rfl, .inl (by rw [hK]; exact h1), h2⟩
  | lst xs =>
    cases e
    obtain ⟨a, vs, rfl, _, h1, h2⟩ := hx
    exact ⟨a, vs, rfl, .inr h1, h2⟩
  | _ => cases e
theorem ext_sh {K : PySem.W.Frag} {n : Nat} {ys : List R.D} {Q : VH → Prop} {a : V} {b : Addr} {zs : List V} {D : VK} (R : Rel G B T ρ env vh σ H) (ha : RD G (ZZ B.F T ρ env σ) ρ H (.ref n) a) (hb : SqT K H b zs ∨ H b = some (.lst zs)) (hx : RDs G (ZZ B.F T ρ env σ) ρ H ys zs) (w : extSh n ys vh Q)
    (f : ∀ vh' H', Rel G B T ρ env vh' σ H' → Q vh' → D .non H') : rExtA K a [.ref b] H D := by
  obtain ⟨p, hp, rfl⟩ := ha
  unfold extSh at w
  split at w
  · rename_i xs hn
    obtain ⟨hl, q⟩ := w
    obtain ⟨vs, h1, h2⟩ := R.ob n _ p hn hp
    have hz : ZZ B.F T ρ env σ p := .inr (.inr (.inl (List.mem_of_getElem? hp)))
    have mu : Mv (ZZ B.F T ρ env σ) ρ H (ZZ B.F T ρ env σ) ρ (upd H p (.lst (vs ++ zs))) := Mv.upd hz h1 trivial
    refine ⟨p, b, vs, zs, rfl, rfl, h1, hb, by rw [sizeLine_eq, ← h2.length, ← hx.length]; exact hl, f _ _ (R.shUpd hn hp trivial (o' := .lst (xs ++ ys)) ⟨_, upd_same, ?_⟩) q⟩
    exact RDs.append (RDs.move mu _ _ h2) (RDs.move mu _ _ hx)
  · exact w.elim
theorem ext_op {K : PySem.W.Frag} {oo : Op} {ys : List R.D} {Q : VE → VH → Prop} {a : V} {b : Addr} {zs : List V} {D : VK} (R : Rel G B T ρ env vh σ H) (ha : OpV G (ZZ B.F T ρ env σ) ρ H σ oo a) (hb : SqT K H b zs ∨ H b = some (.lst zs)) (hx : RDs G (ZZ B.F T ρ env σ) ρ H ys zs) (w : wpExt oo ys env vh Q)
    (f : ∀ env' vh' H', Rel G B T ρ env' vh' σ H' → Q env' vh' → D .non H') : rExtA K a [.ref b] H D := by
  cases oo with
  | dat d =>
    cases d with
    | ref n => exact ext_sh R ha hb hx w fun vh' H' R' q => f _ _ _ R' q
    | _ => exact (show False from w).elim
  | slt i =>
    have ha : σ[i]? = some (some a) := ha
    unfold wpExt at w
    dsimp only at w
    split at w
    · rename_i n hs
      obtain ⟨v, e, hv⟩ := R.st i _ hs
      rw [ha] at e
      cases e
      exact ext_sh R hv hb hx w fun vh' H' R' q => f _ _ _ R' q
    · rename_i xs hs
      obtain ⟨hl, q⟩ := w
      obtain ⟨p, vs, e, h1, h2⟩ := R.st i _ hs
      rw [ha] at e
      cases e
      exact ⟨p, b, vs, zs, rfl, rfl, h1, hb, by rw [sizeLine_eq, ← h2.length, ← hx.length]; exact hl, f _ _ _ (R.ownUpd hs ha h1 (RDs.append h2 hx)) q⟩
    · exact w.elim
theorem rs_ext (o : SOk X G B K Φ Γ fs) {a e : Expr} {apos cpos pos : Pos} {wo : VE → VH → (Op → VE → VH → Prop) → Prop} {we : VE → VH → QE → Prop} (mo : ∀ env vh (Q Q' : Op → VE → VH → Prop), (∀ x e h, Q x e h → Q' x e h) → wo env vh Q → wo env vh Q')
    (me : ∀ env vh (Q Q' : QE), (∀ x e h, Q x e h → Q' x e h) → we env vh Q → we env vh Q') (ho : PE X a (tO G B wo)) (he : PE X e (tD G B we))
    (hbase : attributeBase a "extend" X.env (eval a X.env) = eval a X.env) (hline : (apos.endLine == cpos.line) = true) (hs1 : starEach [e] X.env = (false, eval e X.env) :: starEach [] X.env) :
    PS X (.Expr (.Call (.Attribute a "extend" apos) [e] [] cpos) pos) (tS G B fun V env vh => wo env vh fun oo e1 h1 => isLs oo e1 h1 ∧ we e1 h1 fun x e2 h2 => ∃ ys, seqD x.d = some ys ∧ wpExt oo ys e2 h2 V.nx) := by
  have pe := pe_bm PySem.F.plainAttrs_list PySem.F.slot_list_extend PySem.F.type_list_extend mt_extA ho (pa_cons he pa_nil hs1) hbase (by rw [hs1]; rfl) hline hs1 rfl
  refine (ps_expr pe rfl).imp fun D σ H ⟨ρ, env, vh, V, R, vd, w⟩ => ⟨[], ρ, env, vh, R, mo _ _ _ _ (fun oo e1 h1 ⟨il, z⟩ ρ1 a H1 m1 R1 hoo => ?_) w⟩
  refine ⟨is_ls R1 hoo il, [], ρ1, e1, h1, R1, me _ _ _ _ (fun x e2 h2 ⟨ys, ey, z⟩ ρ2 v H2 r2 => ?_) z⟩
  obtain ⟨m2, R2, hv⟩ := r2.d
  obtain ⟨b, zs, rfl, hb, hys⟩ := ext_seq (K := X.K) o.hK hv ey
  exact ext_op (D := fun _ H => D.nx σ H) R2 (hoo.move m2) hb hys z fun env' vh' H' R' q => vd.nx _ _ _ _ _ R' q

/-! ### if, for, while -/
theorem rs_cond {c : Expr} {a b : List Stmt} {pos : Pos} {wc : VE → VH → QE → Prop} {wa wb : VEnds → VE → VH → Prop} (mc : ∀ env vh (Q Q' : QE), (∀ x e h, Q x e h → Q' x e h) → wc env vh Q → wc env vh Q') (hc : PT X c (tB G B wc)) (ha : PSs X a (tS G B wa)) (hb : PSs X b (tS G B wb)) :
    PS X (.If c a b pos) (tS G B fun V env vh => wc env vh fun x e1 h1 => match x with
      | .v (.bl k) => ifP k (wa V e1 h1) (wb V e1 h1)
      | _ => False) :=
  (ps_if hc ha hb).imp fun D σ H ⟨ρ, env, vh, V, R, vd, w⟩ => ⟨[], ρ, env, vh, R, mc _ _ _ _ (fun x e1 h1 z => by
    split at z
    · rename_i k
      refine ⟨k, rfl, fun ρ' H' m R' => ?_⟩
      cases k with
      | true => exact L2.iteT ⟨ρ', e1, h1, V, R', vd, z⟩
      | false => exact L2.iteF ⟨ρ', e1, h1, V, R', vd, z⟩
    · exact z.elim) w⟩
theorem rs_for (o : SOk X G B K Φ Γ fs) (hc : hotN ∉ fs) {tg iter : Expr} {body : List Stmt} {pos : Pos} {tgI : Tg} {wi : VE → VH → (List R.D → VE → VH → Prop) → Prop} {wb : VEnds → VE → VH → Prop}
    (mi : ∀ env vh (Q Q' : List R.D → VE → VH → Prop), (∀ x e h, Q x e h → Q' x e h) → wi env vh Q → wi env vh Q')
    (hi : PI X tg iter (iD G B wi)) (hg : PG X tg (gOf G.K tgI)) (hb : ∀ B, SOk X G B K Φ Γ fs → PSs X body (tS G B wb)) (hs : ∀ x, foldedSetIterable iter X.env x = pure x) :
    PS X (.For tg iter body [] pos) (tS G B fun V env vh => wi env vh fun items e1 h1 => forGo (fun d N e h => ∃ e2, bindT tgI d e = some e2 ∧ wb { V with nx := N, ct := N, bk := V.nx } e2 h) items e1 h1 V.nx) := by
  have hb' : PSs X body (fun D σ H => ∃ B', SOk X G B' K Φ Γ fs ∧ tS G B' wb D σ H) := ⟨fun pins s σ H D I ⟨B', o', z⟩ => (hb B' o').run pins s σ H D I z⟩
  refine (ps_for o.po (o.calm hc) hi hg hb' hs).imp ?_
  rintro D σ H ⟨ρ, env, vh, V, R, vd, w⟩
  refine ⟨[], ρ, env, vh, R, mi _ _ _ _ (fun items e1 h1 go ρ1 H1 J m1 R1 wk => ?_) w⟩
  generalize hturn : (fun (d : _root_.R.D) (N : VE → VH → Prop) (e : VE) (h : VH) => ∃ e2, bindT tgI d e = some e2 ∧ wb { V with nx := N, ct := N, bk := V.nx } e2 h) = turn at go
  let Pv : Nat → L2.St → Hp → Prop := fun i σ' H' => ∃ ρ' e h, Rel G (B.now [] ρ1 e1 σ H1) [] ρ' e h σ' H' ∧ forGo turn (items.drop i) e h V.nx
  refine ⟨fun i m σ' H' => m = items.length - i ∧ i ≤ items.length ∧ Pv i σ' H', ⟨items.length, by simp, Nat.zero_le _, ρ1, e1, h1, R1.rebase, go⟩, ?_⟩
  rintro i m σ' H' ⟨rfl, hil, ρ', e, h, S, go'⟩
  have m' := R1.moved S
  by_cases hlt : i < items.length
  · refine .inr ⟨wk.go i _ ρ' H' m' hlt, Pv (i + 1), fun σ'' H'' p' => ⟨items.length - (i + 1), by omega, rfl, hlt, p'⟩, fun x H2 y => ?_⟩
    obtain ⟨d, hd, sm, hx⟩ := wk.yld i _ ρ' H' x H2 m' hlt y
    have hdrop : items.drop i = d :: items.drop (i + 1) := by
      rw [List.drop_eq_getElem_cons hlt]
      rw [List.getElem?_eq_getElem hlt] at hd
      rw [Option.some.inj hd]
    rw [hdrop] at go'
    subst hturn
    obtain ⟨e2, hbd, wbd⟩ := go'
    refine bind_ok (S.grow sm) hx hbd fun σ2 R2 _ _ => ⟨_, o.now hc R1, ρ', e2, h, { V with nx := fun e h => forGo _ (items.drop (i + 1)) e h V.nx, ct := fun e h => forGo _ (items.drop (i + 1)) e h V.nx, bk := V.nx }, R2, ⟨fun ρ3 e3 h3 σ3 H3 R3 z => ⟨ρ3, e3, h3, R3, z⟩, fun x v ρ3 h3 H3 r z => vd.rt _ _ _ _ _ (ResF.unbase R1 r) z, fun ρ3 e3 h3 σ3 H3 R3 z => vd.nx _ _ _ _ _ (R1.unbase R3) z, fun ρ3 e3 h3 σ3 H3 R3 z => ⟨ρ3, e3, h3, R3, z⟩⟩, wbd⟩
  · have ee : i = items.length := by omega
    subst ee
    rw [List.drop_length] at go'
    exact .inl ⟨wk.stop _ ρ' H' m', vd.nx _ _ _ _ _ (R1.unbase S) go'⟩
theorem rs_whl (o : SOk X G B K Φ Γ fs) {c : Expr} {body : List Stmt} {pos : Pos} {wc : VE → VH → QE → Prop} {wb : VEnds → VE → VH → Prop} (mc : ∀ env vh (Q Q' : QE), (∀ x e h, Q x e h → Q' x e h) → wc env vh Q → wc env vh Q') (hc : PT X c (tB G B wc)) (hb : PSs X body (tS G B wb)) :
    PS X (.While c body [] pos) (tS G B fun V env vh => ∃ I : Nat → VE → VH → Prop, (∃ n, I n env vh) ∧ ∀ n env vh, I n env vh → wc env vh fun x e1 h1 => match x with
      | .v (.bl k) => ifP k (wb { V with nx := fun e h => ∃ m, m < n ∧ I m e h, ct := fun e h => ∃ m, m < n ∧ I m e h, bk := V.nx } e1 h1) (V.nx e1 h1)
      | _ => False) :=
  (ps_while o.po hc hb).imp fun D σ H ⟨ρ, env, vh, V, R, vd, I, ⟨n0, i0⟩, step⟩ => by
    refine ⟨fun m σ H => ∃ ρ e h, Rel G B [] ρ e h σ H ∧ I m e h, ⟨n0, ρ, env, vh, R, i0⟩, ?_⟩
    rintro m σ H ⟨ρ, e, h, R, hi⟩
    refine ⟨[], ρ, e, h, R, mc _ _ _ _ (fun x e1 h1 z => ?_) (step m e h hi)⟩
    split at z
    · rename_i k
      refine ⟨k, rfl, fun ρ' H' mv R' => ?_⟩
      cases k with
      | true =>
        refine L2.iteT ⟨fun σ' H' => ∃ ρ e h, Rel G B [] ρ e h σ' H' ∧ ∃ m', m' < m ∧ I m' e h, fun σ' H' ⟨ρ, e, h, R, m', l, i⟩ => ⟨m', l, ρ, e, h, R, i⟩, ?_⟩
        exact ⟨ρ', e1, h1, { V with nx := fun e h => ∃ m', m' < m ∧ I m' e h, ct := fun e h => ∃ m', m' < m ∧ I m' e h, bk := V.nx }, R', ⟨fun ρ3 e3 h3 σ3 H3 R3 z => ⟨ρ3, e3, h3, R3, z⟩, vd.rt, vd.nx, fun ρ3 e3 h3 σ3 H3 R3 z => ⟨ρ3, e3, h3, R3, z⟩⟩, z⟩
      | false => exact L2.iteF (vd.nx _ _ _ _ _ R' z)
    · exact z.elim

/-! ### raise, try -/
theorem XF.moveX {Z Z' : Addr → Prop} {ρ' : List Addr} {H' : Hp} {ns : List Str} {d : Option Addr} {xs : List _root_.R.D} (h : XF G Z ρ H ns d xs) (m : Mv Z ρ H Z' ρ' H') (e : ∀ a u, d = some a → H a = some u → H' a = some u) : XF G Z' ρ' H' ns d xs := by
  cases d with
  | none => exact h
  | some a =>
    obtain ⟨ws, vs, h1, h0, h2, h3⟩ := h
    exact ⟨ws, vs, e a _ rfl h1, h0, h2, RDs.move m _ _ h3⟩
theorem rs_raise0 (o : SOk X G B K Φ Γ fs) (hc : hotN ∉ fs) {c : Str} {C : Addr} {p pos pos' : Pos} (hg : Gl X c) (hC : G.cl c = some C) (hf : G.fl c = []) (T : Ex0 X.K X.mg c C) :
    PS X (.Raise (some (.Call (.Name c p) [] [] pos)) none pos') (tS G B fun V env vh => wpS Φ Γ (.raise c []) K V env vh) :=
  (ps_raise (o.calm hc) o.tk (pmk_own0 T hg)).imp fun D σ H ⟨ρ, env, vh, V, R, vd, w⟩ => ⟨c, C, [], [], ρ, env, vh, hC, rfl, R, ⟨rfl, hf⟩, w⟩
theorem rs_raise1 (o : SOk X G B K Φ Γ fs) (hc : hotN ∉ fs) {c f : Str} {C fI : Addr} {p pos pos' : Pos} {e : Expr} {ir : E} (hg : Gl X c) (hC : G.cl c = some C) (hf : G.fl c = [f]) (T : Ex1 X.K X.mg c f C fI)
    (m : ∀ env vh (Q Q' : List _root_.R.D → VE → VH → Prop), (∀ x e h, Q x e h → Q' x e h) → wpEs Φ Γ [ir] K env vh Q → wpEs Φ Γ [ir] K env vh Q') (ha : PA X [e] (tL G B (wpEs Φ Γ [ir] K)))
    (he : starEach [e] X.env = (false, eval e X.env) :: starEach [] X.env) :
    PS X (.Raise (some (.Call (.Name c p) [e] [] pos)) none pos') (tS G B fun V env vh => wpS Φ Γ (.raise c [ir]) K V env vh) := by
  refine (ps_raise (o.calm hc) o.tk (pmk_low T (o.rm hc) ha hg he rfl)).imp ?_
  rintro D σ H ⟨ρ, env, vh, V, R, vd, w⟩
  refine ⟨[], ρ, env, vh, R, wpE_mono ir K false env vh _ _ (fun x e1 h1 z ρ' vs H' mv R' hv => ?_) (show wpE Φ Γ ir K false env vh fun x e1 h1 => K c [x.d] e1 h1 from w)⟩
  obtain ⟨v, r, rfl, h1', hr⟩ := hv
  cases (show r = [] from hr)
  refine ⟨v, rfl, fun d hd => ?_⟩
  have sm : Same H' (upd H' d (.xd [(f, v)])) := same_new hd
  exact ⟨c, C, [x.d], [], ρ', e1, h1, hC, rfl, R'.grow sm, ⟨[(f, v)], [v], upd_same, by rw [hf]; rfl, rfl, ⟨v, [], rfl, RD.move (Mv.same sm) _ _ h1', rfl⟩⟩, z⟩

/-- a slot of which nothing is known -/
theorem Rel.setNo {i : Nat} {o : Option V} (R : Rel G B T ρ env vh σ H) : Rel G B T ρ (env.set i .no) vh (σ.set i o) H := by
  have hO : ∀ j a, Own (env.set i .no) (σ.set i o) a j → Own env σ a j := fun j a z => by
    rcases Own.of_set z with ⟨_, ds, e, _⟩ | ⟨_, q⟩
    · cases e
    · exact q
  have m : Mv (ZZ B.F T ρ env σ) ρ H (ZZ B.F T ρ (env.set i .no) (σ.set i o)) ρ H := Mv.less fun a z => by
    rcases z with z | z | z | ⟨j, z⟩
    · exact .inl z
    · exact .inr (.inl z)
    · exact .inr (.inr (.inl z))
    · exact .inr (.inr (.inr ⟨j, hO j a z⟩))
  refine R.weak (fun _ h => h) R.tn hO (by simpa using R.sl) fun j s hj => ?_
  rcases set_getE hj with ⟨e, e2⟩ | ⟨ne, q⟩
  · subst e2
    trivial
  · rw [List.getElem?_set_ne (Ne.symm ne)]
    exact (R.st j s q).move m fun _ _ _ _ => rfl
theorem Rel.dropAll (R : Rel G B T ρ env vh σ H) : Rel G B [] ρ env vh σ H :=
  R.weak (fun _ h => by cases h) List.nodup_nil (fun _ _ h => h) R.sl fun i s h => (R.st i s h).move (Mv.less fun b z => by
    rcases z with z | z | z
    · exact .inl z
    · cases z
    · exact .inr (.inr z)) fun _ _ _ _ => rfl
theorem dropAMv : Mv (ZZ B.F T ρ env σ) ρ H (ZZ B.F [] ρ env σ) ρ H := Mv.less fun b z => by
  rcases z with z | z | z
  · exact .inl z
  · cases z
  · exact .inr (.inr z)
theorem VD.off {V : VEnds} {D : Ends} {o : Option Nat} (vd : VD G B V D) : VD G B (offV o V) (dGone o D) := by
  cases o with
  | none => exact vd
  | some i => exact ⟨fun ρ env vh σ H R z => vd.nx _ _ _ _ _ R.setNo z, vd.rt, fun ρ env vh σ H R z => vd.bk _ _ _ _ _ R.setNo z, fun ρ env vh σ H R z => vd.ct _ _ _ _ _ R.setNo z⟩
/-- what is so when a suite begins -/
def tSu (G : Wd) (B : Base) (Φ : Fns) (Γ : Cns) (tb : List (Str × List Str × List Str)) (o : Option Nat) (su : List S) : Addr → Value → Option Addr → TS := fun a cls d D σ H =>
  ∃ c C ns anc xs ρ env vh V, G.cl c = some C ∧ cls = .ref C ∧ tb.lookup c = some (ns, anc) ∧ ns = G.fl c ∧ Rel G B [] ρ (onE o a env) vh σ H ∧ XF G (ZZ B.F [] ρ (onE o a env) σ) ρ H ns d xs ∧ VD G B (offV o V) D ∧
    wpB Φ (errG Γ ns anc xs a) su noX (offV o V) (onE o a env) vh
/-- a clause -/
inductive HsOk (X : Cx) (G : Wd) (B : Base) (Φ : Fns) (Γ : Cns) (tb : List (Str × List Str × List Str)) : List ExceptHandler → List (Str × Option Nat) → List (List S) → Prop
  | nil : HsOk X G B Φ Γ tb [] [] []
  | plain {x : Str} {b₀ : Stmt} {suite : List Stmt} {np pos' : Pos} {hds : List ExceptHandler} {cs : List (Str × Option Nat)} {su : List S} {sus : List (List S)} (hg : Gl X x) (hx : HdX G X.K X.mg tb x)
      (hsu : ∀ (a : Addr) (oe : Obj) (cls : Value) (d : Option Addr) (pn : List (Addr × Obj)), Zc cls d oe → (∃ vs, oe.data = .fields vs) → PSs (X.suite a ((a, oe) :: pn)) (b₀ :: suite) (tSu G B Φ Γ tb none su a cls d)) (r : HsOk X G B Φ Γ tb hds cs sus) :
      HsOk X G B Φ Γ tb (.ExceptHandler (some (.Name x np)) none (b₀ :: suite) pos' :: hds) ((x, none) :: cs) (su :: sus)
  | named {x n : Str} {i : Nat} {b₀ : Stmt} {suite : List Stmt} {np pos' : Pos} {hds : List ExceptHandler} {cs : List (Str × Option Nat)} {su : List S} {sus : List (List S)} (hi : X.N[i]? = some n) (hln : X.env.kindOf n = some .local) (hg : Gl X x) (hx : HdX G X.K X.mg tb x)
      (hsu : ∀ (a : Addr) (oe : Obj) (cls : Value) (d : Option Addr) (pn : List (Addr × Obj)), Zc cls d oe → (∃ vs, oe.data = .fields vs) → PSs (X.suite a ((a, oe) :: pn)) (b₀ :: suite) (tSu G B Φ Γ tb (some i) su a cls d)) (r : HsOk X G B Φ Γ tb hds cs sus) :
      HsOk X G B Φ Γ tb (.ExceptHandler (some (.Name x np)) (some n) (b₀ :: suite) pos' :: hds) ((x, some i) :: cs) (su :: sus)
/-- the clauses' values and readings -/
theorem hs_gen {tb : List (Str × List Str × List Str)} (hK : X.K = G.K) {hds : List ExceptHandler} {cs : List (Str × Option Nat)} {sus : List (List S)} (h : HsOk X G B Φ Γ tb hds cs sus) :
    ∃ l, HdsG X hds l ∧ ∀ (W : WX) (V : VEnds) (D : Ends) (P : Prop) c C ns anc xs T ρ env vh cls d σ H, VD G B V D → G.cl c = some C → cls = .ref C → tb.lookup c = some (ns, anc) → ns = G.fl c → Rel G B T ρ env vh σ H → XF G (ZZ B.F T ρ env σ) ρ H ns d xs →
      wpH Φ Γ ns anc xs cs sus P V env vh → (P → W cls d σ H) → wGen X.K W D l cls d σ H := by
  induction h with
  | nil => exact ⟨[], .nil, fun W V D P c C ns anc xs T ρ env vh cls d σ H _ _ _ _ _ _ _ w k => k w⟩
  | @plain x b₀ suite np pos' hds cs su sus hg hx hsu r ih =>
    obtain ⟨l, h1, h2⟩ := ih
    obtain ⟨hdb, cv, hm, hex⟩ := hx
    refine ⟨(cv, none, tSu G B Φ Γ tb none su) :: l, .plain ⟨hg, hdb, .inl hm⟩ hsu h1, fun W V D P c C ns anc xs T ρ env vh cls d σ H vd hC ec ht hn R xf w k => ?_⟩
    obtain ⟨_, e2⟩ := hex c C hC ns anc ht
    rw [hK] at h2 ⊢
    subst ec
    have e2' : PySem.W.exmOne G.K (.ref C) cv = some (anc.contains x) := by rw [← hK]; exact e2
    have w' : ifP (anc.contains x) (∀ a, wpB Φ (errG Γ ns anc xs a) su noX (offV none V) (onE none a env) vh) (wpH Φ Γ ns anc xs cs sus P V env vh) := w
    refine ⟨_, e2', fun hb a na => ?_, fun hb => ?_⟩
    · rw [hb] at w'
      exact ⟨c, C, ns, anc, xs, ρ, env, vh, V, hC, rfl, ht, hn, R.dropAll, xf.moveX dropAMv fun _ _ _ h => h, vd.off, w' a⟩
    · rw [hb] at w'
      exact h2 W V D P c C ns anc xs T ρ env vh _ d σ H vd hC rfl ht hn R xf w' k
  | @named x n i b₀ suite np pos' hds cs su sus hi hln hg hx hsu r ih =>
    obtain ⟨l, h1, h2⟩ := ih
    obtain ⟨hdb, cv, hm, hex⟩ := hx
    refine ⟨(cv, some i, tSu G B Φ Γ tb (some i) su) :: l, .named hi hln ⟨hg, hdb, .inl hm⟩ hsu h1, fun W V D P c C ns anc xs T ρ env vh cls d σ H vd hC ec ht hn R xf w k => ?_⟩
    obtain ⟨_, e2⟩ := hex c C hC ns anc ht
    rw [hK] at h2 ⊢
    subst ec
    have e2' : PySem.W.exmOne G.K (.ref C) cv = some (anc.contains x) := by rw [← hK]; exact e2
    have w' : ifP (anc.contains x) (∀ a, wpB Φ (errG Γ ns anc xs a) su noX (offV (some i) V) (onE (some i) a env) vh) (wpH Φ Γ ns anc xs cs sus P V env vh) := w
    refine ⟨_, e2', fun hb a na => ?_, fun hb => ?_⟩
    · rw [hb] at w'
      have R2 : Rel G B [] ρ (env.set i (.val (.adr a))) vh (σ.set i (some (.ref a))) H := (R.dropAll).setVal (d := .adr a) (v := .ref a) rfl
      refine ⟨c, C, ns, anc, xs, ρ, env, vh, V, hC, rfl, ht, hn, R2, xf.moveX (dropAMv.trans (setValMv R.dropAll)) fun _ _ _ h => h, vd.off, w' a⟩
    · rw [hb] at w'
      exact h2 W V D P c C ns anc xs T ρ env vh _ d σ H vd hC rfl ht hn R xf w' k
theorem rs_try (o : SOk X G B K Φ Γ fs) {tb : List (Str × List Str × List Str)} {body : List Stmt} {irs : List S} {h₀ : ExceptHandler} {hds : List ExceptHandler} {cs : List (Str × Option Nat)} {sus : List (List S)} {pos : Pos}
    (htb : ∀ c C, G.cl c = some C → ∀ ns anc, tb.lookup c = some (ns, anc) → ns = G.fl c)
    (hb : ∀ (X' : Cx) (K' : XP), X'.N = X.N → X'.env = X.env → X'.K = X.K → X'.mg = X.mg → SOk X' G B K' Φ Γ fs → PSs X' body (tS G B fun V env vh => wpB Φ Γ irs K' V env vh)) (er : hotN ∉ fs)
    (hh : HsOk X G B Φ Γ tb (h₀ :: hds) cs sus) : PS X (.Try body (h₀ :: hds) [] [] pos) (tS G B fun V env vh => wpS Φ Γ (.tryS tb irs cs sus) K V env vh) := by
  obtain ⟨l, hl, hw⟩ := hs_gen o.hK hh
  let KV : VEnds → XP := fun V c xs e h => match tb.lookup c with
    | some (ns, anc) => wpH Φ Γ ns anc xs cs sus (K c xs e h) V e h
    | none => False
  have key := ps_try_gen (X := X) (body := body) (h₀ := h₀) (hds := hds) (l := l) (pos := pos) (Wout := WK G B K)
    (tb := fun W D σ H => ∃ ρ env vh V, Rel G B [] ρ env vh σ H ∧ VD G B V D ∧ (∀ cls d σ H, WK G B (KV V) cls d σ H → W cls d σ H) ∧ wpB Φ Γ irs (KV V) V env vh)
    o.stk o.frm o.nd o.tk (fun W pn xe tk po => ⟨fun pins s σ H D I ⟨ρ, env, vh, V, R, vd, hW, w⟩ => by
      have o' : SOk (X.tr pn xe) G B (KV V) Φ Γ fs :=
        { hK := o.hK, calm := o.calm, nd := o.nd, hu := o.hu, tk := tk.imp hW, fn := o.fn, cn := o.cn, bl := o.bl, rm := o.rm, ok := o.ok, er := fun h => absurd h er, po := po, fnT := o.fnT, stk := o.stk, frm := o.frm, exN := o.exN }
      exact (hb (X.tr pn xe) (KV V) rfl rfl rfl rfl o').run pins s σ H D I ⟨ρ, env, vh, V, R, vd, w⟩⟩) hl
  refine key.imp ?_
  rintro D σ H ⟨ρ, env, vh, V, R, vd, w⟩
  refine ⟨ρ, env, vh, V, R, vd, ?_, w⟩
  rintro cls d σ' H' ⟨c, C, xs, T', ρ', env', vh', hC, ec, R', xf, k⟩
  have k : (match tb.lookup c with
    | some (ns, anc) => wpH Φ Γ ns anc xs cs sus (K c xs env' vh') V env' vh'
    | none => False) := k
  cases ht : tb.lookup c with
  | none => rw [ht] at k; exact k.elim
  | some p =>
    obtain ⟨ns, anc⟩ := p
    rw [ht] at k
    have en := htb c C hC ns anc ht
    exact hw (WK G B K) V D (K c xs env' vh') c C ns anc xs T' ρ' env' vh' cls d σ' H' vd hC ec ht en R' (by rw [en]; exact xf) k fun kk => ⟨c, C, xs, T', ρ', env', vh', hC, ec, R', xf, kk⟩
end
end R

set_option autoImplicit false
namespace R
open PySem PySem.Spec PyProof.Rows L2
/-! ## R7: from the text to the small language -/
/-- N: the names of the slots; fs: the defs that may be called -/
structure Tc where
  N : List Str
  fs : List Str
  own : List Str
  sh : List Str
  tb : List (Str × List Str × List Str)
  hs : List Str
/-- within an except suite -/
def Tc.hot (c : Tc) : Tc := { c with fs := [hotN], own := [], sh := [] }
def cool (c : Tc) : Bool := !decide (hotN ∈ c.fs)
inductive Md where
  | V | O | T
def visB (sc : Scope) (x : Str) : Bool := match sc.names.lookup x with
  | some .local => true
  | some .cell => true
  | some .free => true
  | _ => false
def glB (sc : Scope) (x : Str) : Bool := decide (sc.names.lookup x = some .globalImplicit)
def okNm (x : Str) : Bool := !(x == ("__debug__" : Str)) && !(x == ("__classdict__" : Str))
/-- the slot of a name that may be read -/
def slotOf (c : Tc) (sc : Scope) (x : Str) : Option Nat := if visB sc x && okNm x then (match c.N.idxOf? x with
  | some i => if decide (c.N[i]? = some x) then some i else none
  | none => none) else none
def plainE : Expr → Bool
  | .Starred _ _ => false
  | _ => true
def plainIx : Expr → Bool
  | .Slice _ _ _ _ => false
  | _ => true
def notSet : Expr → Bool
  | .Set _ _ _ => false
  | _ => true
/-- its test is its value's truth -/
def plainT : Expr → Bool
  | .UnaryOp .Not _ _ => false
  | .BoolOp _ _ _ => false
  | .IfExp _ _ _ _ => false
  | .Compare _ _ _ _ => false
  | _ => true
def trL (f : Expr → Option E) : List Expr → Option (List E)
  | [] => some []
  | e :: es => if plainE e then (match f e, trL f es with
    | some a, some b => some (a :: b)
    | _, _ => none) else none
def bfOf (f : Str) (n : Nat) : Option Bf := match n with
  | 1 => [Bf.len, .int, .bool, .str, .tuple, .list, .abs, .sum, .all, .any, .sorted, .min1, .max1].find? fun g => decide (bltN g = f)
  | 2 => [Bf.min2, .max2].find? fun g => decide (bltN g = f)
  | _ => none
def tyOf (sc : Scope) : Expr → Option String
  | .Name x _ => match (["int", "bool", "str", "tuple", "list", "dict"] : List String).find? (fun n => decide (Str.ofString n = x)) with
    | some n => if glB sc x && okTy n then some n else none
    | none => none
  | _ => none
def tysOf' (sc : Scope) : List Expr → Option (List String)
  | [] => some []
  | e :: es => match tyOf sc e, tysOf' sc es with
    | some a, some b => some (a :: b)
    | _, _ => none
/-- a finished value's form: fin -/
def finK : E → Bool
  | .non => true
  | .bl _ => true
  | .int _ => true
  | .str _ => true
  | .glo _ => true
  | .tup _ => true
  | .lst _ => true
  | .bin _ _ _ => true
  | .neg _ => true
  | .idx _ _ => true
  | .sli _ _ _ => true
  | .call _ _ => true
  | .blt _ _ => true
  | .isi _ _ => true
  | .lc _ _ _ _ _ _ => true
  | .attr _ _ => true
  | .dct _ _ => true
  | _ => false
/-- the names of a comprehension's own -/
def ownOf (N : List Str) (scope : Scope) : List (Str × Nat) := scope.names.filterMap fun y => match y.2 with
  | .local => (N.idxOf? y.1).map fun i => (y.1, i)
  | .cell => (N.idxOf? y.1).map fun i => (y.1, i)
  | _ => none
/-- a name that may be written; cl: the cells that are the block's own -/
def wrIx (c : Tc) (sc : Scope) (cl : Str → Bool) (x : Str) : Option Nat := match c.N.idxOf? x with
  | some i => if decide (c.N[i]? = some x) && (decide (sc.names.lookup x = some .local) || (decide (sc.names.lookup x = some .cell) && cl x)) then some i else none
  | none => none
def wrIxs (c : Tc) (sc : Scope) (cl : Str → Bool) : List Expr → Option (List Nat)
  | [] => some []
  | .Name x _ :: es => match wrIx c sc cl x, wrIxs c sc cl es with
    | some i, some is => some (i :: is)
    | _, _ => none
  | _ :: _ => none
def trTg (c : Tc) (sc : Scope) (cl : Str → Bool) : Expr → Option Tg
  | .Name x _ => match wrIx c sc cl x with
    | some i => some (.one i)
    | none => none
  | .Tuple es _ _ => match wrIxs c sc cl es with
    | some is => some (.many is)
    | none => none
  | _ => none
def isBor : E → Bool
  | .bor _ => true
  | _ => false
def noBor (e : Option E) : Option E := match e with
  | some e => if isBor e then none else some e
  | none => none
def guardO {α : Type} (b : Bool) (x : Option α) : Option α := match b with
  | true => x
  | false => none
/-- what is gone through -/
def isTup : Expr → Bool
  | .Tuple _ _ _ => true
  | _ => false
def trRg (f : Expr → Option E) (args : List Expr) : Option (Ik × List E) := match args with
  | [a] => (trL f [a]).map fun es => (.rng1, es)
  | [a, b] => (trL f [a, b]).map fun es => (.rng2, es)
  | [a, b, c] => (trL f [a, b, c]).map fun es => (.rng3, es)
  | _ => none
def trZp (f : Expr → Option E) (args : List Expr) : Option (Ik × List E) := match args with
  | [a, b] => (trL f [a, b]).map fun es => (.zip, es)
  | _ => none
def trSeq (f : Expr → Option E) (e : Expr) : Option (Ik × List E) := (f e).map fun x => (.seq, [x])
def trI (f : Expr → Option E) (sc : Scope) (tg : Expr) : Expr → Option (Ik × List E)
  | .Call (.Name x p) args [] pos => if decide (x = ("range" : Str)) then guardO (glB sc x) (trRg f args)
    else if decide (x = ("zip" : Str)) then guardO (glB sc x && isTup tg) (trZp f args)
    else trSeq f (.Call (.Name x p) args [] pos)
  | e => guardO (notSet e) (trSeq f e)
def o2 {α β γ : Type} (f : α → β → γ) : Option α → Option β → Option γ
  | some a, some b => some (f a b)
  | _, _ => none
def o3 {α β γ δ : Type} (f : α → β → γ → δ) : Option α → Option β → Option γ → Option δ
  | some a, some b, some c => some (f a b c)
  | _, _, _ => none
def trP (f : Expr → Option E) : Option Expr → Option E
  | none => some .skip
  | some e => f e
def trIsi (fO : Expr → Option E) (sc : Scope) (args : List Expr) : Option E := match args with
  | [a, .Tuple es k p] => guardO (plainE a && decide (es.length ≤ 1000)) (o2 .isi (fO a) (tysOf' sc es))
  | [a, t] => guardO (plainE a) (o2 (fun x n => .isi x [n]) (fO a) (tyOf sc t))
  | _ => none
def trBlt (fO : Expr → Option E) (f : Str) (args : List Expr) : Option E := match bfOf f args.length with
  | some g => (trL fO args).map (.blt g)
  | none => none
def trCall (c : Tc) (fV fO : Expr → Option E) (sc : Scope) (f : Str) (args : List Expr) : Option E :=
  guardO (glB sc f) (if decide (f ∈ c.fs ∧ f ≠ hotN) then (trL fV args).map (.call f) else if decide (f = ("isinstance" : Str)) then trIsi fO sc args else guardO (cool c) (trBlt fO f args))
def subB (is js : List Nat) : Bool := is.all fun i => decide (i ∈ js)
def trO1 (c : Tc) (f : Md → Scope → Expr → Option E) (sc : Scope) (e : Expr) : Option E := match e with
  | .Name x p => match slotOf c sc x with
    | some i => some (.bor i)
    | none => noBor (f .V sc (.Name x p))
  | e => noBor (f .V sc e)
def trT1 (c : Tc) (f : Md → Scope → Expr → Option E) (sc : Scope) (e : Expr) : Option E := match e with
  | .UnaryOp .Not a _ => (f .T sc a).map .not
  | .BoolOp op [a] _ => f .T sc a
  | .BoolOp .And (a :: b :: rest) pos => o2 .and (f .T sc a) (f .T sc (.BoolOp .And (b :: rest) pos))
  | .BoolOp .Or (a :: b :: rest) pos => o2 .or (f .T sc a) (f .T sc (.BoolOp .Or (b :: rest) pos))
  | .IfExp t a b _ => o3 .ite (f .T sc t) (f .T sc a) (f .T sc b)
  | .Compare a [op] [b] _ => guardO (!behindInMarks op b) (o2 (.cmp op) (f .O sc a) (f .O sc b))
  | .Compare a [op, op'] [b, d] _ => guardO (!lastMarks [op, op'] [b, d]) (o3 (.chain op op') (f .O sc a) (f .O sc b) (f .O sc d))
  | .Name x p => match slotOf c sc x with
    | some i => some (.bor i)
    | none => match f .V sc (.Name x p) with
      | some ir => guardO (finK ir) (some ir)
      | none => none
  | e => guardO (plainT e) (match f .V sc e with
    | some ir => guardO (finK ir) (some ir)
    | none => none)
def trLc (c : Tc) (f : Md → Scope → Expr → Option E) (sc : Scope) (elt : Expr) (gens : List Comprehension) (scope : Scope) : Option E := match gens with
  | [⟨tg, iter, ifs, as⟩] =>
    match trTg c (relS scope sc) (fun x => decide (scope.names.lookup x = some .cell)) tg, trI (f .V sc) sc tg iter, f .V (relS scope sc) elt, trL (f .T (relS scope sc)) ifs with
    | some tgI, some (k, es), some el, some cs => guardO (cool c && decide (as = 0) && blkC c.N sc scope (ownOf c.N scope) && subB (tgIx tgI) ((ownOf c.N scope).map (·.2)) && decide (cs.length ≤ 1)) (some (.lc el tgI ((ownOf c.N scope).map (·.2)) k es cs))
    | _, _, _, _ => none
  | _ => none
def trV1 (c : Tc) (f : Md → Scope → Expr → Option E) (sc : Scope) (e : Expr) : Option E := match e with
  | .Constant .none _ _ => some .non
  | .Constant (.bool b) _ _ => some (.bl b)
  | .Constant (.int i) _ _ => some (.int i)
  | .Constant (.str x) _ _ => some (.str x)
  | .Name x _ => match slotOf c sc x with
    | some i => some (.var i)
    | none => guardO (glB sc x && okG x) (some (.glo x))
  | .Tuple es _ _ => (trL (f .V sc) es).map .tup
  | .List es _ => (trL (f .V sc) es).map .lst
  | .BinOp a op b _ => o2 (.bin op) (f .O sc a) (f .O sc b)
  | .UnaryOp .USub a _ => (f .V sc a).map .neg
  | .UnaryOp .Not a _ => (f .O sc a).map .not
  | .BoolOp op [a] _ => f .V sc a
  | .BoolOp .And (a :: b :: rest) pos => o2 .and (f .V sc a) (f .V sc (.BoolOp .And (b :: rest) pos))
  | .BoolOp .Or (a :: b :: rest) pos => o2 .or (f .V sc a) (f .V sc (.BoolOp .Or (b :: rest) pos))
  | .IfExp t a b _ => o3 .ite (f .T sc t) (f .V sc a) (f .V sc b)
  | .Compare a [op] [b] _ => guardO (!behindInMarks op b) (o2 (.cmp op) (f .O sc a) (f .O sc b))
  | .Compare a [op, op'] [b, d] _ => guardO (!lastMarks [op, op'] [b, d]) (o3 (.chain op op') (f .O sc a) (f .O sc b) (f .O sc d))
  | .Subscript a (.Slice lo hi none _) _ => o3 .sli (f .O sc a) (trP (f .V sc) lo) (trP (f .V sc) hi)
  | .Subscript a b _ => guardO (plainIx b) (o2 .idx (f .O sc a) (f .O sc b))
  | .Call (.Name g p) args [] pos => trCall c (f .V sc) (f .O sc) sc g args
  | .ListComp elt gens scope pos => trLc c f sc elt gens scope
  | .Attribute (.Name x p) m _ => (slotOf c sc x).map fun i => .attr (.bor i) m
  | .Dict keys values _ => guardO (cool c && keys.all (·.isSome) && decide (keys.length = values.length) && decide (keys.length ≤ 15)) (o2 .dct (keysOf keys) (trL (f .V sc) values))
  | _ => none
def tr (c : Tc) : Nat → Md → Scope → Expr → Option E
  | 0, _, _, _ => none
  | n + 1, .O, sc, e => trO1 c (tr c n) sc e
  | n + 1, .T, sc, e => trT1 c (tr c n) sc e
  | n + 1, .V, sc, e => trV1 c (tr c n) sc e
end R

set_option autoImplicit false
namespace R
open PySem PySem.Spec PyProof.Rows L2
/-! ## R8: what the small language says of an expression is so -/
structure Cok (X : Cx) (G : Wd) (B : Base) (K : XP) (Φ : Fns) (Γ : Cns) (c : Tc) (sc : Scope) : Prop where
  o : XOk X G B K Φ Γ c.fs
  hN : X.N = c.N
  hs : X.env.scope = sc
section
variable {X : Cx} {G : Wd} {B : Base} {K : XP} {Φ : Fns} {Γ : Cns} {c : Tc} {sc : Scope}
theorem slot_ok (k : Cok X G B K Φ Γ c sc) {x : Str} {i : Nat} (h : slotOf c sc x = some i) : X.N[i]? = some x ∧ Vis X.env.scope x ∧ (x == ("__debug__" : Str)) = false ∧ (x == ("__classdict__" : Str)) = false := by
  unfold slotOf at h
  split at h
  · rename_i h1
    rw [Bool.and_eq_true] at h1
    split at h
    · split at h
      · rename_i h2
        cases h
        have h3 := h1.2
        unfold okNm at h3
        rw [Bool.and_eq_true, Bool.not_eq_true', Bool.not_eq_true'] at h3
        refine ⟨by rw [k.hN]; exact of_decide_eq_true h2, ?_, h3.1, h3.2⟩
        rw [k.hs]
        have h4 := h1.1
        unfold visB at h4
        split at h4
        · rename_i e; exact .inl e
        · rename_i e; exact .inr (.inl e)
        · rename_i e; exact .inr (.inr e)
        · cases h4
      · cases h
    · cases h
  · cases h
theorem pe_slot (k : Cok X G B K Φ Γ c sc) {x : Str} {i : Nat} {p : Pos} (h : slotOf c sc x = some i) : PE X (.Name x p) (tVar i) := by
  obtain ⟨h1, h2, h3, h4⟩ := slot_ok k h
  exact pe_var h1 h2 h3 h4
theorem gl_ok (k : Cok X G B K Φ Γ c sc) {x : Str} (h : glB sc x = true) : Gl X x := by
  show X.env.scope.names.lookup x = _
  rw [k.hs]
  exact of_decide_eq_true h
theorem star_cons {e : Expr} {es : List Expr} {env : Env} (h : plainE e = true) : starEach (e :: es) env = (false, eval e env) :: starEach es env := by
  cases e <;> first | rfl | cases h
theorem back_any {env : Env} {pos : Pos} : ∀ {es : List Expr}, es.all plainE = true → (backTo pos (starEach es env)).any (·.1) = false
  | [], _ => rfl
  | e :: es, h => by
    rw [List.all_cons, Bool.and_eq_true] at h
    rw [star_cons h.1]
    show (false || (backTo pos (starEach es env)).any (·.1)) = false
    rw [back_any h.2]
    rfl
theorem fin_eq {ir : E} (h : finK ir = true) {K : XP} {env : VE} {vh : VH} {Q : QE} : wpE Φ Γ ir K true env vh Q = wpE Φ Γ ir K false env vh fun x e h => fin true x e h Q := by
  cases ir <;> first | rfl | cases h
theorem true_eq {e : Expr} (h : plainT e = true) (env : Env) : ∀ whole, isTrue e env whole = (do let v ← whole; standAt e.pos; holding [v] (truthy v)) := by
  intro whole
  cases e with
  | UnaryOp op a p => cases op <;> first | rfl | cases h
  | BoolOp _ _ _ => cases h
  | IfExp _ _ _ _ => cases h
  | Compare _ _ _ _ => cases h
  | _ => rfl
theorem plainIx_ok {b : Expr} (h : plainIx b = true) : PlainIx b := by
  intro o i
  cases b <;> first | rfl | cases h
theorem notSet_ok {e : Expr} (h : notSet e = true) (env : Env) : ∀ x, foldedSetIterable e env x = pure x := by
  intro x
  cases e <;> first | rfl | cases h
theorem mE (ir : E) (K : XP) (t : Bool) : ∀ env vh (Q Q' : QE), (∀ x e h, Q x e h → Q' x e h) → wpE Φ Γ ir K t env vh Q → wpE Φ Γ ir K t env vh Q' := wpE_mono ir K t
theorem mO (ir : E) (K : XP) : ∀ env vh (Q Q' : Op → VE → VH → Prop), (∀ x e h, Q x e h → Q' x e h) → asO ir (wpE Φ Γ ir) K env vh Q → asO ir (wpE Φ Γ ir) K env vh Q' := fun env vh Q Q' => asO_mono (wpE_mono ir K false env vh)
theorem mEs (irs : List E) (K : XP) : ∀ env vh (Q Q' : List D → VE → VH → Prop), (∀ x e h, Q x e h → Q' x e h) → wpEs Φ Γ irs K env vh Q → wpEs Φ Γ irs K env vh Q' := wpEs_mono irs K
theorem mOs (irs : List E) (K : XP) : ∀ env vh (Q Q' : List Op → VE → VH → Prop), (∀ x e h, Q x e h → Q' x e h) → wpOs Φ Γ irs K env vh Q → wpOs Φ Γ irs K env vh Q' := wpOs_mono irs K
abbrev OkV (X : Cx) (G : Wd) (B : Base) (K : XP) (Φ : Fns) (Γ : Cns) (e : Expr) (ir : E) : Prop := PE X e (tD G B (wpE Φ Γ ir K false))
abbrev OkO (X : Cx) (G : Wd) (B : Base) (K : XP) (Φ : Fns) (Γ : Cns) (e : Expr) (ir : E) : Prop := PE X e (tO G B (asO ir (wpE Φ Γ ir) K))
abbrev OkT (X : Cx) (G : Wd) (B : Base) (K : XP) (Φ : Fns) (Γ : Cns) (e : Expr) (ir : E) : Prop := PT X e (tB G B (wpE Φ Γ ir K true)) ∧ ∀ op vs pos, e = .BoolOp op vs pos → PW X e (tB G B (wpE Φ Γ ir K true))
theorem asO_no {ir : E} (h : isBor ir = false) {w : XP → Bool → VE → VH → QE → Prop} {K : XP} : asO ir w K = fun env vh Q => w K false env vh fun x e1 h1 => Q (.dat x.d) e1 h1 := by
  cases ir <;> first | rfl | cases h
theorem okO_of {e : Expr} {ir : E} (h : OkV X G B K Φ Γ e ir) (hb : isBor ir = false) : OkO X G B K Φ Γ e ir := by
  unfold OkO
  rw [asO_no hb]
  exact ro_val h (mE ir K false)
theorem noBor_ok {o : Option E} {ir : E} (h : noBor o = some ir) : o = some ir ∧ isBor ir = false := by
  unfold noBor at h
  split at h
  · split at h
    · cases h
    · rename_i e hb
      cases h
      exact ⟨rfl, by simpa using hb⟩
  · cases h
theorem o2_ok {α β γ : Type} {f : α → β → γ} {a : Option α} {b : Option β} {r : γ} (h : o2 f a b = some r) : ∃ x y, a = some x ∧ b = some y ∧ r = f x y := by
  cases a <;> cases b <;> first | (cases h; done) | (cases h; exact ⟨_, _, rfl, rfl, rfl⟩)
theorem o3_ok {α β γ δ : Type} {f : α → β → γ → δ} {a : Option α} {b : Option β} {c : Option γ} {r : δ} (h : o3 f a b c = some r) : ∃ x y z, a = some x ∧ b = some y ∧ c = some z ∧ r = f x y z := by
  cases a <;> cases b <;> cases c <;> first | (cases h; done) | (cases h; exact ⟨_, _, _, rfl, rfl, rfl, rfl⟩)
theorem guard_ok {α : Type} {b : Bool} {x : Option α} {r : α} (h : guardO b x = some r) : b = true ∧ x = some r := by
  cases b
  · cases h
  · exact ⟨rfl, h⟩
theorem map_ok {α β : Type} {f : α → β} {a : Option α} {r : β} (h : a.map f = some r) : ∃ x, a = some x ∧ r = f x := by
  cases a
  · cases h
  · cases h; exact ⟨_, rfl, rfl⟩
theorem trL_cons {f : Expr → Option E} {e : Expr} {es : List Expr} {irs : List E} (h : trL f (e :: es) = some irs) : ∃ a b, irs = a :: b ∧ plainE e = true ∧ f e = some a ∧ trL f es = some b := by
  have h : (if plainE e then (match f e, trL f es with
    | some a, some b => some (a :: b)
    | _, _ => none) else none) = some irs := h
  split at h
  · rename_i hp
    split at h
    · rename_i a b h1 h2
      cases h
      exact ⟨a, b, rfl, hp, h1, h2⟩
    · cases h
  · cases h
theorem trL_plain {f : Expr → Option E} : ∀ {es : List Expr} {irs : List E}, trL f es = some irs → es.all plainE = true
  | [], _, _ => rfl
  | e :: es, irs, h => by
    obtain ⟨a, b, _, h1, _, h3⟩ := trL_cons h
    rw [List.all_cons, h1, trL_plain h3]
    rfl
theorem trL_V {f : Expr → Option E} (hf : ∀ e ir, f e = some ir → OkV X G B K Φ Γ e ir) : ∀ {es : List Expr} {irs : List E}, trL f es = some irs → PA X es (tL G B (wpEs Φ Γ irs K))
  | [], irs, h => by
    cases h
    exact ra_nil
  | e :: es, irs, h => by
    obtain ⟨a, b, rfl, h1, h2, h3⟩ := trL_cons h
    exact ra_cons (mE a K false) (mEs b K) (hf e a h2) (trL_V hf h3) (star_cons h1)
theorem trL_O {f : Expr → Option E} (hf : ∀ e ir, f e = some ir → OkO X G B K Φ Γ e ir) : ∀ {es : List Expr} {irs : List E}, trL f es = some irs → PA X es (tOs G B (wpOs Φ Γ irs K))
  | [], irs, h => by
    cases h
    exact ros_nil
  | e :: es, irs, h => by
    obtain ⟨a, b, rfl, h1, h2, h3⟩ := trL_cons h
    exact ros_cons (mO a K) (mOs b K) (hf e a h2) (trL_O hf h3) (star_cons h1)
theorem trL_P {f : Expr → Option E} {R : Expr → E → Prop} (hf : ∀ e ir, f e = some ir → R e ir) : ∀ {es : List Expr} {irs : List E}, trL f es = some irs → Paired R es irs
  | [], irs, h => by
    cases h
    exact .nil
  | e :: es, irs, h => by
    obtain ⟨a, b, rfl, h1, h2, h3⟩ := trL_cons h
    exact .cons (hf e a h2) (trL_P hf h3)
theorem keysOf_len : ∀ {keys : List (Option Expr)} {ks : List Key}, keysOf keys = some ks → ks.length = keys.length
  | [], ks, h => by
    cases h
    rfl
  | k :: keys, ks, h => by
    unfold keysOf at h
    split at h
    · rename_i e; cases e
    · rename_i e0 r e
      cases e
      split at h
      · rename_i k' ks' h0 h1
        cases h
        rw [List.length_cons, List.length_cons, keysOf_len h1]
      · cases h
    · cases h
theorem tyOf_ok (k : Cok X G B K Φ Γ c sc) {e : Expr} {n : String} (h : tyOf sc e = some n) : ∃ p, e = .Name (Str.ofString n) p ∧ okTy n = true ∧ Gl X (Str.ofString n) := by
  unfold tyOf at h
  split at h
  · rename_i x p
    split at h
    · rename_i n' hn
      split at h
      · rename_i hg
        cases h
        rw [Bool.and_eq_true] at hg
        have e := List.find?_some hn
        have e : Str.ofString n = x := of_decide_eq_true e
        subst e
        exact ⟨p, rfl, hg.2, gl_ok k hg.1⟩
      · cases h
    · cases h
  · cases h
theorem tysOf_ok (k : Cok X G B K Φ Γ c sc) : ∀ {es : List Expr} {ns : List String}, tysOf' sc es = some ns → Paired (fun n e => ∃ p, e = Expr.Name (Str.ofString n) p ∧ okTy n = true ∧ Gl X (Str.ofString n)) ns es
  | [], ns, h => by
    cases h
    exact .nil
  | e :: es, ns, h => by
    unfold tysOf' at h
    split at h
    · rename_i a b h1 h2
      cases h
      exact .cons (tyOf_ok k h1) (tysOf_ok k h2)
    · cases h
theorem bf_ok {f : Str} {n : Nat} {g : Bf} (h : bfOf f n = some g) : f = bltN g := by
  unfold bfOf at h
  split at h
  · have e := List.find?_some h
    exact (of_decide_eq_true e).symm
  · have e := List.find?_some h
    exact (of_decide_eq_true e).symm
  · cases h
theorem pairLen {α β : Type} {r : α → β → Prop} {as : List α} {bs : List β} (h : Paired r as bs) : as.length = bs.length := by
  induction h with
  | nil => rfl
  | cons _ _ ih => rw [List.length_cons, List.length_cons, ih]
theorem trIsi_ok (k : Cok X G B K Φ Γ c sc) {fO : Expr → Option E} {args : List Expr} {ir : E} {p pos : Pos} (hO : ∀ e ir, fO e = some ir → OkO X G B K Φ Γ e ir) (hg : Gl X ("isinstance" : Str))
    (h : trIsi fO sc args = some ir) : OkV X G B K Φ Γ (.Call (.Name "isinstance" p) args [] pos) ir := by
  unfold trIsi at h
  split at h
  · rename_i a es kk p2
    obtain ⟨hp, h⟩ := guard_ok h
    rw [Bool.and_eq_true] at hp
    obtain ⟨x, ns, h1, h2, rfl⟩ := o2_ok h
    have ht := tysOf_ok k h2
    have hl : ns.length ≤ 1000 := by
      rw [pairLen ht]
      exact of_decide_eq_true hp.2
    exact re_isiT k.o (mO x K) (hO _ _ h1) hg ht hl (star_cons hp.1)
  · rename_i a t _
    obtain ⟨hp, h⟩ := guard_ok h
    obtain ⟨x, n, h1, h2, rfl⟩ := o2_ok h
    obtain ⟨p2, rfl, h3, h4⟩ := tyOf_ok k h2
    exact re_isi1 k.o (mO x K) (hO _ _ h1) hg h4 h3 (star_cons hp)
  · cases h
theorem cool_ok {c : Tc} (h : cool c = true) : hotN ∉ c.fs := by
  unfold cool at h
  simpa using h
theorem trCall_ok (k : Cok X G B K Φ Γ c sc) {fV fO : Expr → Option E} {f : Str} {args : List Expr} {ir : E} {p pos : Pos} (hV : ∀ e ir, fV e = some ir → OkV X G B K Φ Γ e ir) (hO : ∀ e ir, fO e = some ir → OkO X G B K Φ Γ e ir)
    (h : trCall c fV fO sc f args = some ir) : OkV X G B K Φ Γ (.Call (.Name f p) args [] pos) ir := by
  unfold trCall at h
  obtain ⟨hg, h'⟩ := guard_ok h
  clear h
  have hg := gl_ok k hg
  split at h'
  · rename_i hf
    obtain ⟨hf, hn⟩ := of_decide_eq_true hf
    obtain ⟨irs, h1, rfl⟩ := map_ok h'
    cases args with
    | nil =>
      cases h1
      exact re_call0 k.o hf hn hg
    | cons e es =>
      have hp := trL_plain h1
      rw [List.all_cons, Bool.and_eq_true] at hp
      exact re_call k.o (mEs irs K) (trL_V hV h1) hf hn hg (star_cons hp.1) (back_any hp.2)
  · split at h'
    · rename_i hi
      have hi : f = ("isinstance" : Str) := of_decide_eq_true hi
      subst hi
      exact trIsi_ok k hO hg h'
    · obtain ⟨hc, h2⟩ := guard_ok h'
      clear h'
      have h' := h2
      have hc := cool_ok hc
      unfold trBlt at h'
      split at h'
      · rename_i g hb
        obtain ⟨irs, h1, rfl⟩ := map_ok h'
        cases args with
        | nil => cases hb
        | cons e es =>
          have hp := trL_plain h1
          rw [List.all_cons, Bool.and_eq_true] at hp
          exact re_blt k.o hc (mOs irs K) (trL_O hO h1) (bf_ok hb) hg (star_cons hp.1) (back_any hp.2)
      · cases h'

/-! ### targets, iterators -/
theorem wr_ok {cl : Str → Bool} (hN : X.N = c.N) (hs : X.env.scope = sc) (hcl : ∀ x, cl x = true → X.fn x = true) {x : Str} {i : Nat} (h : wrIx c sc cl x = some i) : X.N[i]? = some x ∧ Loc X.env.scope x ∧ (X.fn x = true ∨ X.env.scope.names.lookup x = some .local) := by
  unfold wrIx at h
  split at h
  · split at h
    · rename_i h1
      cases h
      rw [Bool.and_eq_true, Bool.or_eq_true, Bool.and_eq_true] at h1
      rw [hN, hs]
      refine ⟨of_decide_eq_true h1.1, ?_⟩
      rcases h1.2 with q | q
      · exact ⟨.inl (of_decide_eq_true q), .inr (of_decide_eq_true q)⟩
      · exact ⟨.inr (of_decide_eq_true q.1), .inl (hcl x q.2)⟩
    · cases h
  · cases h
theorem wrs_ok {cl : Str → Bool} (nd : X.N.Nodup) (hN : X.N = c.N) (hs : X.env.scope = sc) (hcl : ∀ x, cl x = true → X.fn x = true) : ∀ {es : List Expr} {is : List Nat}, wrIxs c sc cl es = some is →
    PGs X es (gNames is) ∧ (assignEach es X.env).length = is.length ∧ (assignEach es X.env).findIdx? (·.1) = none
  | [], is, h => by
    cases h
    exact ⟨pgs_nil, rfl, rfl⟩
  | .Name x p :: es, is, h => by
    unfold wrIxs at h
    split at h
    · rename_i i is h1 h2
      cases h
      obtain ⟨q1, q2, q3⟩ := wr_ok hN hs hcl h1
      obtain ⟨r1, r2, r3⟩ := wrs_ok nd hN hs hcl h2
      refine ⟨pgs_cons (pg_name nd q1 q2 q3) r1 rfl, ?_, ?_⟩
      · show (assignEach es X.env).length + 1 = _
        rw [r2]
        rfl
      · show List.findIdx? (·.1) ((false, assign (.Name x p) X.env) :: assignEach es X.env) = none
        rw [List.findIdx?_cons, r3]
        rfl
    · cases h
theorem trTg_ok {cl : Str → Bool} (calm : X.calm = true) (hK : X.K = G.K) (nd : X.N.Nodup) (hN : X.N = c.N) (hs : X.env.scope = sc) (hcl : ∀ x, cl x = true → X.fn x = true) {tg : Expr} {t : Tg} (h : trTg c sc cl tg = some t) : PG X tg (gOf G.K t) := by
  unfold trTg at h
  split at h
  · split at h
    · rename_i i h1
      cases h
      obtain ⟨q1, q2, q3⟩ := wr_ok hN hs hcl h1
      exact pg_name nd q1 q2 q3
    · cases h
  · split at h
    · rename_i is h1
      cases h
      obtain ⟨r1, r2, r3⟩ := wrs_ok nd hN hs hcl h1
      show PG X _ (gTup G.K is.length (gNames is))
      rw [← hK]
      exact pg_tup calm r1 r2 r3
    · cases h
  · cases h
/-- what a loop goes through -/
abbrev wI (Φ : Fns) (Γ : Cns) (k : Ik) (es : List E) (K : XP) : VE → VH → (List D → VE → VH → Prop) → Prop := fun env vh Q => wpEs Φ Γ es K env vh fun ds e1 h1 => ∃ items, itemsD k ds = some items ∧ Q items e1 h1
theorem mI (k : Ik) (es : List E) (K : XP) : ∀ env vh (Q Q' : List D → VE → VH → Prop), (∀ x e h, Q x e h → Q' x e h) → wI Φ Γ k es K env vh Q → wI Φ Γ k es K env vh Q' := fun env vh Q Q' f h => wpEs_mono es K env vh _ _ (fun ds e1 h1 ⟨items, p, q⟩ => ⟨items, p, f _ _ _ q⟩) h
theorem trI_ok (k : Cok X G B K Φ Γ c sc) {f : Expr → Option E} (hf : ∀ e ir, f e = some ir → OkV X G B K Φ Γ e ir) {tg iter : Expr} {ik : Ik} {es : List E} (h : trI f sc tg iter = some (ik, es)) :
    PI X tg iter (iD G B (wI Φ Γ ik es K)) ∧ ∀ x, foldedSetIterable iter X.env x = pure x := by
  have seq : ∀ {e : Expr} {ik : Ik} {es : List E}, trSeq f e = some (ik, es) → PI X tg e (iD G B (wI Φ Γ ik es K)) := fun {e ik es} h => by
    obtain ⟨x, h1, h2⟩ := map_ok h
    cases h2
    exact ri_seq k.o.hK (mE x K false) (hf e x h1)
  unfold trI at h
  split at h
  · rename_i x p args pos
    refine ⟨?_, fun _ => rfl⟩
    split at h
    · rename_i hx
      have hx : x = ("range" : Str) := of_decide_eq_true hx
      subst hx
      obtain ⟨hg, h'⟩ := guard_ok h
      clear h
      have hm : X.mg "range" = none := k.o.bl _ (by decide +kernel)
      unfold trRg at h'
      split at h'
      · obtain ⟨es', h1, h2⟩ := map_ok h'
        cases h2
        obtain ⟨_, _, _, hp, _, _⟩ := trL_cons h1
        exact ri_rng1 (mEs es K) (trL_V hf h1) (gl_ok k hg) hm (star_cons hp)
      · obtain ⟨es', h1, h2⟩ := map_ok h'
        cases h2
        obtain ⟨_, _, _, hp, _, h2⟩ := trL_cons h1
        obtain ⟨_, _, _, hp2, _, h3⟩ := trL_cons h2
        exact ri_rng2 (mEs es K) (trL_V hf h1) (gl_ok k hg) hm (by rw [star_cons hp, star_cons hp2]; rfl) (star_cons hp2)
      · obtain ⟨es', h1, h2⟩ := map_ok h'
        cases h2
        have hp := trL_plain h1
        rw [List.all_cons, Bool.and_eq_true] at hp
        exact ri_rng3 (mEs es K) (trL_V hf h1) (gl_ok k hg) hm (star_cons hp.1) (back_any hp.2)
      · cases h'
    · split at h
      · rename_i hx
        have hx : x = ("zip" : Str) := of_decide_eq_true hx
        subst hx
        obtain ⟨hg, h'⟩ := guard_ok h
        clear h
        rw [Bool.and_eq_true] at hg
        have hm : X.mg "zip" = none := k.o.bl _ (by decide +kernel)
        unfold trZp at h'
        split at h'
        · obtain ⟨es', h1, h2⟩ := map_ok h'
          cases h2
          have hp := trL_plain h1
          rw [List.all_cons, Bool.and_eq_true] at hp
          cases tg with
          | Tuple elts kk tpos => exact ri_zip k.o.hK (mEs es K) (trL_V hf h1) (gl_ok k hg.1) hm (star_cons hp.1) (back_any hp.2)
          | _ => cases hg.2
        · cases h'
      · exact seq h
  · obtain ⟨hn, h⟩ := guard_ok h
    exact ⟨seq h, notSet_ok hn X.env⟩
end

/-! ### all expressions -/
def Ok (X : Cx) (G : Wd) (B : Base) (K : XP) (Φ : Fns) (Γ : Cns) : Md → Expr → E → Prop
  | .V => OkV X G B K Φ Γ
  | .O => OkO X G B K Φ Γ
  | .T => OkT X G B K Φ Γ
theorem trLc_cool {c : Tc} {f : Md → Scope → Expr → Option E} {sc : Scope} {elt : Expr} {gens : List Comprehension} {scope : Scope} {ir : E} (h : trLc c f sc elt gens scope = some ir) : hotN ∉ c.fs := by
  unfold trLc at h
  split at h
  · split at h
    · obtain ⟨hc, h⟩ := guard_ok h
      rw [Bool.and_eq_true, Bool.and_eq_true, Bool.and_eq_true, Bool.and_eq_true] at hc
      exact cool_ok hc.1.1.1.1
    · cases h
  · cases h
theorem lc_parts {X : Cx} {G : Wd} {B : Base} {K : XP} {Φ : Fns} {Γ : Cns} {c : Tc} {sc : Scope} (k : Cok X G B K Φ Γ c sc) {f : Md → Scope → Expr → Option E} {elt : Expr} {gens : List Comprehension} {scope : Scope} {ir : E}
    (hV : ∀ e ir, f .V sc e = some ir → OkV X G B K Φ Γ e ir) (hB : ∀ (m : Md) (e : Expr) (ir : E) (X' : Cx) (B' : Base), Cok X' G B' (fun _ _ _ _ => False) Φ Γ c (relS scope sc) → f m (relS scope sc) e = some ir → Ok X' G B' (fun _ _ _ _ => False) Φ Γ m e ir)
    (h : trLc c f sc elt gens scope = some ir) :
    ∃ (tg iter : Expr) (ifs : List Expr) (own : List (Str × Nat)) (wi : TI) (g : TG) (tt : TT) (te : TE), gens = [⟨tg, iter, ifs, 0⟩] ∧ PI X tg iter wi ∧ BlkOk X.N X.env.scope scope own ∧
      (∀ (s : Shared) (H : Hp) (C : Addr) (cl : List (Str × Addr)) (fp : List Addr), PG (X.blk s H scope (compEnvC scope cl C X.env) fp) tg g) ∧ (∀ (s : Shared) (H : Hp) (C : Addr) (cl : List (Str × Addr)) (fp : List Addr), PTs (X.blk s H scope (compEnvC scope cl C X.env) fp) ifs tt) ∧
      (∀ (s : Shared) (H : Hp) (C : Addr) (cl : List (Str × Addr)) (fp : List Addr), PE (X.blk s H scope (compEnvC scope cl C X.env) fp) elt te) ∧ (∀ x, foldedSetIterable iter X.env x = pure x) ∧
      ∀ σ H Q, tD G B (wpE Φ Γ ir K false) σ H Q → tLc wi g tt te (own.map (·.2)) σ H Q := by
  unfold trLc at h
  split at h
  · rename_i tg iter ifs as
    split at h
    · rename_i tgI ik es el cs g1 g2 g3 g4
      obtain ⟨hc, h⟩ := guard_ok h
      cases h
      rw [Bool.and_eq_true, Bool.and_eq_true, Bool.and_eq_true, Bool.and_eq_true] at hc
      obtain ⟨⟨⟨⟨c0, c1⟩, c2⟩, c3⟩, c4⟩ := hc
      have c0 := cool_ok c0
      have c1 : as = 0 := of_decide_eq_true c1
      subst c1
      have c4 : cs.length ≤ 1 := of_decide_eq_true c4
      have hsub : ∀ i, i ∈ tgIx tgI → i ∈ (ownOf c.N scope).map (·.2) := fun i hi => by
        unfold subB at c3
        rw [List.all_eq_true] at c3
        exact of_decide_eq_true (c3 i hi)
      have ok : BlkOk X.N X.env.scope scope (ownOf c.N scope) := by rw [k.hN, k.hs]; exact blkOk_by c2
      obtain ⟨hi, hfs⟩ := trI_ok (tg := tg) k hV g2
      have kb : ∀ (B' : Base) (s : Shared) (H : Hp) (C : Addr) (cl : List (Str × Addr)) (fp : List Addr), Cok (X.blk s H scope (compEnvC scope cl C X.env) fp) G B' (fun _ _ _ _ => False) Φ Γ c (relS scope sc) := fun B' s H C cl fp =>
        ⟨k.o.blk c0 B' s H scope _ fp, k.hN, by
          show relS scope X.env.scope = _
          rw [k.hs]⟩
      have ht : ∀ (s : Shared) (H : Hp) (C : Addr) (cl : List (Str × Addr)) (fp : List Addr), PTs (X.blk s H scope (compEnvC scope cl C X.env) fp) ifs (tW G (wpTs Φ Γ cs)) := fun s H C cl fp => by
        cases ifs with
        | nil =>
          cases g4
          exact pts_w0
        | cons t ts =>
          obtain ⟨a, b, rfl, p1, p2, p3⟩ := trL_cons g4
          cases ts with
          | nil =>
            cases p3
            exact pts_w1 (mE a _ true) fun B' => (hB .T _ _ _ B' (kb B' s H C cl fp) p2).1
          | cons t2 ts =>
            obtain ⟨a2, b2, rfl, _, _, _⟩ := trL_cons p3
            simp at c4
      refine ⟨tg, iter, ifs, _, _, _, _, _, rfl, hi, ok, fun s H C cl fp => trTg_ok (X := X.blk s H scope (compEnvC scope cl C X.env) fp) (k.o.calm c0) k.o.hK k.o.nd k.hN (by show relS scope X.env.scope = _; rw [k.hs]) (fun x hx => by
          show (scope.names.lookup x == some .cell) = true
          rw [of_decide_eq_true hx]
          rfl) g1, ht, fun s H C cl fp => pe_all fun B' => hB .V _ _ _ B' (kb B' s H C cl fp) g3, hfs, ?_⟩
      exact lc_sound (mI ik es K) (fun env vh Q Q' f h => wpTs_mono cs env vh Q Q' f h) (mE el _ false) hsub
    · cases h
  · cases h
theorem bor_noV {c : Tc} : ∀ {n : Nat} {sc : Scope} {e : Expr} {ir : E}, tr c n .V sc e = some ir → True := fun _ => trivial
theorem tr_ok {G : Wd} {Φ : Fns} {Γ : Cns} {c : Tc} : ∀ (n : Nat) (m : Md) (sc : Scope) (e : Expr) (ir : E) (X : Cx) (B : Base) (K : XP), Cok X G B K Φ Γ c sc → tr c n m sc e = some ir → Ok X G B K Φ Γ m e ir
  | 0, m, sc, e, ir, X, B, K, k, h => by
    cases m <;> cases h
  | n + 1, .O, sc, e, ir, X, B, K, k, h => by
    have ih := tr_ok (G := G) (Φ := Φ) (Γ := Γ) (c := c) n
    have hV : ∀ e ir, tr c n .V sc e = some ir → OkV X G B K Φ Γ e ir := fun e ir h => ih .V sc e ir X B K k h
    replace h : trO1 c (tr c n) sc e = some ir := h
    unfold trO1 at h
    split at h
    · split at h
      · rename_i x p i hs
        cases h
        exact ro_bor (pe_slot k hs)
      · obtain ⟨h1, h2⟩ := noBor_ok h
        exact okO_of (hV _ _ h1) h2
    · obtain ⟨h1, h2⟩ := noBor_ok h
      exact okO_of (hV _ _ h1) h2
  | n + 1, .T, sc, e, ir, X, B, K, k, h => by
    have ih := tr_ok (G := G) (Φ := Φ) (Γ := Γ) (c := c) n
    have hV : ∀ e ir, tr c n .V sc e = some ir → OkV X G B K Φ Γ e ir := fun e ir h => ih .V sc e ir X B K k h
    have hO : ∀ e ir, tr c n .O sc e = some ir → OkO X G B K Φ Γ e ir := fun e ir h => ih .O sc e ir X B K k h
    have hT : ∀ e ir, tr c n .T sc e = some ir → OkT X G B K Φ Γ e ir := fun e ir h => ih .T sc e ir X B K k h
    replace h : trT1 c (tr c n) sc e = some ir := h
    unfold trT1 at h
    split at h
    · obtain ⟨a, h1, rfl⟩ := map_ok h
      exact ⟨rt_not (mE a K true) (hT _ _ h1).1, fun op vs pos e => by cases e⟩
    · rename_i op a pos
      have q := (hT _ _ h).1
      have w : PW X (.BoolOp op [a] pos) (tB G B (wpE Φ Γ ir K true)) := by
        cases op
        · exact pw_and1 q
        · exact pw_or1 q
      exact ⟨w.pt, fun op' vs pos' e => w⟩
    · obtain ⟨a, b, h1, h2, rfl⟩ := o2_ok h
      have w := rt_and (mE a K true) (mE b K true) (hT _ _ h1).1 ((hT _ _ h2).2 _ _ _ rfl)
      exact ⟨w.pt, fun op' vs pos' e => w⟩
    · obtain ⟨a, b, h1, h2, rfl⟩ := o2_ok h
      have w := rt_or (mE a K true) (mE b K true) (hT _ _ h1).1 ((hT _ _ h2).2 _ _ _ rfl)
      exact ⟨w.pt, fun op' vs pos' e => w⟩
    · obtain ⟨t, a, b, h1, h2, h3, rfl⟩ := o3_ok h
      exact ⟨rt_ite (mE t K true) (mE a K true) (mE b K true) (hT _ _ h1).1 (hT _ _ h2).1 (hT _ _ h3).1, fun op vs pos e => by cases e⟩
    · obtain ⟨hm, h⟩ := guard_ok h
      obtain ⟨a, b, h1, h2, rfl⟩ := o2_ok h
      exact ⟨rt_cmp k.o (mO a K) (mO b K) (hO _ _ h1) (hO _ _ h2) (by simpa using hm), fun op vs pos e => by cases e⟩
    · obtain ⟨hm, h⟩ := guard_ok h
      obtain ⟨a, b, d, h1, h2, h3, rfl⟩ := o3_ok h
      exact ⟨rt_chain k.o (mO a K) (mO b K) (mO d K) (hO _ _ h1) (hO _ _ h2) (hO _ _ h3) (by simpa using hm), fun op vs pos e => by cases e⟩
    · split at h
      · rename_i x p i hs
        cases h
        exact ⟨rt_bor k.o (pe_slot k hs) (true_eq rfl X.env), fun op vs pos e => by cases e⟩
      · split at h
        · rename_i x p _ ir' h1
          obtain ⟨hf, h⟩ := guard_ok h
          cases h
          refine ⟨tB_of (rt_truth k.o (hV _ _ h1) (mE ir K false) (true_eq rfl X.env)) fun env vh Q q => ?_, fun op vs pos e => by cases e⟩
          rw [fin_eq hf] at q
          exact q
        · cases h
    · obtain ⟨hp, h⟩ := guard_ok h
      split at h
      · rename_i ir' h1
        obtain ⟨hf, h⟩ := guard_ok h
        cases h
        refine ⟨tB_of (rt_truth k.o (hV _ _ h1) (mE ir K false) (true_eq hp X.env)) fun env vh Q q => ?_, fun op vs pos e => by subst e; cases hp⟩
        rw [fin_eq hf] at q
        exact q
      · cases h
  | n + 1, .V, sc, e, ir, X, B, K, k, h => by
    have ih := tr_ok (G := G) (Φ := Φ) (Γ := Γ) (c := c) n
    have hV : ∀ e ir, tr c n .V sc e = some ir → OkV X G B K Φ Γ e ir := fun e ir h => ih .V sc e ir X B K k h
    have hO : ∀ e ir, tr c n .O sc e = some ir → OkO X G B K Φ Γ e ir := fun e ir h => ih .O sc e ir X B K k h
    have hT : ∀ e ir, tr c n .T sc e = some ir → OkT X G B K Φ Γ e ir := fun e ir h => ih .T sc e ir X B K k h
    show OkV X G B K Φ Γ e ir
    replace h : trV1 c (tr c n) sc e = some ir := h
    unfold trV1 at h
    split at h
    · cases h; exact re_flat pe_non fun _ _ _ => rfl
    · cases h; exact re_flat pe_bl fun _ _ _ => rfl
    · cases h; exact re_flat pe_int fun _ _ _ => rfl
    · cases h; exact re_flat pe_str fun _ _ _ => rfl
    · split at h
      · rename_i x p i hs
        cases h
        exact re_var (pe_slot k hs)
      · obtain ⟨hg, h⟩ := guard_ok h
        cases h
        rw [Bool.and_eq_true] at hg
        exact re_glo k.o hg.2 (gl_ok k hg.1)
    · obtain ⟨irs, h1, rfl⟩ := map_ok h
      exact re_tup (mEs irs K) (trL_V hV h1)
    · obtain ⟨irs, h1, rfl⟩ := map_ok h
      exact re_lst (mEs irs K) (trL_V hV h1)
    · obtain ⟨a, b, h1, h2, rfl⟩ := o2_ok h
      exact re_bin k.o (mO a K) (mO b K) (hO _ _ h1) (hO _ _ h2)
    · obtain ⟨a, h1, rfl⟩ := map_ok h
      exact re_neg (mE a K false) (hV _ _ h1)
    · obtain ⟨a, h1, rfl⟩ := map_ok h
      exact re_not k.o (mO a K) (hO _ _ h1)
    · exact pe_one (hV _ _ h)
    · obtain ⟨a, b, h1, h2, rfl⟩ := o2_ok h
      exact re_and k.o (mE a K false) (mE b K false) (hV _ _ h1) (hV _ _ h2)
    · obtain ⟨a, b, h1, h2, rfl⟩ := o2_ok h
      exact re_or k.o (mE a K false) (mE b K false) (hV _ _ h1) (hV _ _ h2)
    · obtain ⟨t, a, b, h1, h2, h3, rfl⟩ := o3_ok h
      exact re_ite (mE t K true) (mE a K false) (mE b K false) (hT _ _ h1).1 (hV _ _ h2) (hV _ _ h3)
    · obtain ⟨hm, h⟩ := guard_ok h
      obtain ⟨a, b, h1, h2, rfl⟩ := o2_ok h
      exact re_cmp k.o (mO a K) (mO b K) (hO _ _ h1) (hO _ _ h2) (by simpa using hm)
    · obtain ⟨hm, h⟩ := guard_ok h
      obtain ⟨a, b, d, h1, h2, h3, rfl⟩ := o3_ok h
      exact re_chain k.o (mO a K) (mO b K) (mO d K) (hO _ _ h1) (hO _ _ h2) (hO _ _ h3) (by simpa using hm)
    · rename_i a lo hi p2 pos
      obtain ⟨x, l, u, h1, h2, h3, rfl⟩ := o3_ok h
      have part : ∀ {q : Option Expr} {l : E}, trP (tr c n .V sc) q = some l → ((q = none ∧ ∀ env vh (Q : QE), wpE Φ Γ l K false env vh Q → Q (.v .non) env vh) ∨ ∃ e, q = some e ∧ PE X e (tD G B (wpE Φ Γ l K false))) := fun {q l} h => by
        cases q with
        | none => cases h; exact .inl ⟨rfl, fun _ _ _ z => z⟩
        | some e => exact .inr ⟨e, rfl, hV e l h⟩
      exact re_sli k.o (mO x K) (mE l K false) (mE u K false) (hO _ _ h1) (part h2) (part h3)
    · obtain ⟨hp, h⟩ := guard_ok h
      obtain ⟨a, b, h1, h2, rfl⟩ := o2_ok h
      exact re_idx k.o (mO a K) (mO b K) (hO _ _ h1) (hO _ _ h2) (plainIx_ok hp)
    · exact trCall_ok k hV hO h
    · obtain ⟨tg, iter, ifs, own, wi, g, tt, te, rfl, hi, ok, hg, ht, he, hs, im⟩ := lc_parts k hV (fun m e ir X' B' k' h' => ih m _ e ir X' B' _ k' h') h
      exact (pe_lc (k.o.calm (trLc_cool h)) k.o.nd hi ok hg ht he hs).imp im
    · obtain ⟨i, h1, rfl⟩ := map_ok h
      exact re_attr k.o (pe_slot k h1) fun _ => rfl
    · obtain ⟨hg, h⟩ := guard_ok h
      rw [Bool.and_eq_true, Bool.and_eq_true, Bool.and_eq_true] at hg
      obtain ⟨⟨⟨g1, g2⟩, g3⟩, g4⟩ := hg
      obtain ⟨ks, irs, h1, h2, rfl⟩ := o2_ok h
      have pr := trL_P (R := fun e ir => ∀ B', PE X e (tD G B' (wpE Φ Γ ir noK false))) (fun e ir h' B' => ih .V sc e ir X B' _ ⟨k.o.any (cool_ok g1) B', k.hN, k.hs⟩ h') h2
      exact re_dct h1 pr g2 (of_decide_eq_true g3) ((keysOf_len h1).trans ((of_decide_eq_true g3 : _ = _).trans (pairLen pr))) (of_decide_eq_true g4)
    · cases h
end R

set_option autoImplicit false
namespace R
open PySem PySem.Spec PyProof.Rows L2
/-! ## R9: statements, from the text -/
def notLc : Expr → Bool
  | .ListComp _ _ _ _ => false
  | .SetComp _ _ _ _ => false
  | .DictComp _ _ _ _ _ => false
  | _ => true
def notTup : Expr → Bool
  | .Tuple _ _ _ => false
  | _ => true
def noCall : Expr → Bool
  | .Call _ _ _ _ => false
  | _ => true
def stOf (c : Tc) (x : Str) (i : Nat) (e : E) : S := if c.own.contains x then .setO i e else if c.sh.contains x then .setS i e else .set i e
def parB (sc : Scope) (x y : Str) (px py : Pos) (a b : Expr) : Bool := decide (sc.kind = .function) && decide (sc.names.lookup x = some .local) && decide (sc.names.lookup y = some .local) && (py.line == px.line) && !(x == y) && plainE a && plainE b &&
  !([a, b].all (foldedForSure 8)) && !([a, b].all (constantsAlone 8))
def lcB (sc scope : Scope) (x : Str) (p cpos : Pos) : Bool := decide (sc.kind = .function) && decide (sc.names.lookup x = some .local) && (p.line == cpos.line) && !(scope.names.any fun (n, k) => n == x && (k == .local || k == .cell))
def neB (i j : Nat) : Bool := !decide (i = j)
/-- the clauses of a try -/
def trH (c : Tc) (fH : List Stmt → Option (List S)) (sc : Scope) : List ExceptHandler → Option (List (Str × Option Nat) × List (List S))
  | [] => some ([], [])
  | .ExceptHandler (some (.Name x _)) none (b :: bs) _ :: hs => guardO (glB sc x && decide (x ∈ c.hs)) (o2 (fun su r => ((x, none) :: r.1, su :: r.2)) (fH (b :: bs)) (trH c fH sc hs))
  | .ExceptHandler (some (.Name x _)) (some n) (b :: bs) _ :: hs => guardO (glB sc x && decide (x ∈ c.hs) && decide (sc.names.lookup n = some .local)) (match c.N.idxOf? n with
    | some i => guardO (decide (c.N[i]? = some n)) (o2 (fun su r => ((x, some i) :: r.1, su :: r.2)) (fH (b :: bs)) (trH c fH sc hs))
    | none => none)
  | _ => none
def trR (c : Tc) (f : Md → Scope → Expr → Option E) (sc : Scope) (x : Str) (args : List Expr) : Option S := match c.tb.lookup x, args with
  | some ([], _), [] => some (.raise x [])
  | some ([_], _), [e] => guardO (plainE e) ((f .V sc e).map fun u => .raise x [u])
  | _, _ => none
def trS1 (c : Tc) (fB fH : List Stmt → Option (List S)) (f : Md → Scope → Expr → Option E) (sc : Scope) (st : Stmt) : Option S := match st with
  | .Pass _ => some .pass
  | .Break _ => some .brk
  | .Continue _ => some .cont
  | .Raise (some (.Call (.Name x _) args [] _)) none _ => guardO (cool c && glB sc x) (trR c f sc x args)
  | .Try body (h :: hs) [] [] _ => guardO (cool c) (o2 (fun b r => .tryS c.tb b r.1 r.2) (fB body) (trH c fH sc (h :: hs)))
  | .Return none _ => some .retN
  | .Return (some (.Name x p)) _ => if c.own.contains x then (slotOf c sc x).map .retO else (f .V sc (.Name x p)).map .ret
  | .Return (some e) _ => (f .V sc e).map .ret
  | .Expr (.Constant (.str _) _ _) _ => some .pass
  | .Expr (.Call (.Attribute a m apos) [e] [] cpos) _ => guardO ((decide (m = ("append" : Str)) || decide (m = ("extend" : Str))) && plainE e && noCall a && (apos.endLine == cpos.line)) (o2 (if decide (m = ("append" : Str)) then .app else .ext) (f .O sc a) (f .V sc e))
  | .Expr e _ => guardO (notLc e) ((f .V sc e).map .expr)
  | .Assign [.Name x p] (.ListComp elt gens scope cpos) _ => guardO (lcB sc scope x p cpos) (o2 (stOf c x) (wrIx c sc (fun _ => true) x) (trLc c f sc elt gens scope))
  | .Assign [.Name x p] e _ => guardO (notLc e) (o2 (stOf c x) (wrIx c sc (fun _ => true) x) (f .V sc e))
  | .Assign [.Tuple [.Name x px, .Name y py] kt pt] (.Tuple [a, b] k2 pt2) _ => guardO (cool c && parB sc x y px py a b) (match wrIx c sc (fun _ => true) x, wrIx c sc (fun _ => true) y, f .V sc a, f .V sc b with
    | some i, some j, some u, some v => guardO (neB i j) (some (.par i j u v))
    | _, _, _, _ => none)
  | .Assign [.Tuple ts kt pt] e _ => guardO (cool c && (notLc e && notTup e)) (o2 .unp (wrIxs c sc (fun _ => true) ts) (f .V sc e))
  | .Assign [.Subscript a i _] e _ => guardO (plainIx i) (o3 .sidx (f .O sc a) (f .V sc i) (f .V sc e))
  | .AugAssign (.Name x _) op e _ => o2 (fun i e => .aug i op e) (wrIx c sc (fun _ => true) x) (f .V sc e)
  | .If t a b _ => o3 .cond (f .T sc t) (fB a) (fB b)
  | .For tg iter body [] _ => guardO (cool c) (match trTg c sc (fun _ => true) tg, trI (f .V sc) sc tg iter, fB body with
    | some t, some (k, es), some b => some (.forS t k es b)
    | _, _, _ => none)
  | .While t body [] _ => o2 .whl (f .T sc t) (fB body)
  | _ => none
def trB (c : Tc) (m : Nat) (sc : Scope) : Nat → List Stmt → Option (List S)
  | 0, _ => none
  | _ + 1, [] => some []
  | n + 1, st :: ss => (trB c m sc n ss).map fun r => ((trS1 c (trB c m sc n) (trB c.hot m sc n) (tr c m) sc st).getD .never) :: r

structure Sk (X : Cx) (G : Wd) (B : Base) (K : XP) (Φ : Fns) (Γ : Cns) (c : Tc) (sc : Scope) : Prop where
  o : SOk X G B K Φ Γ c.fs
  hN : X.N = c.N
  hs : X.env.scope = sc
  mkx : ∀ x ns anc, c.tb.lookup x = some (ns, anc) → MkX G X.K X.mg x
  hd : ∀ x, x ∈ c.hs → HdX G X.K X.mg c.tb x
  tk : ∀ x C, G.cl x = some C → ∀ ns anc, c.tb.lookup x = some (ns, anc) → ns = G.fl x
  xf : FdX G X.K
section
variable {X : Cx} {G : Wd} {B : Base} {K : XP} {Φ : Fns} {Γ : Cns} {c : Tc} {sc : Scope}
theorem Sk.cok (k : Sk X G B K Φ Γ c sc) : Cok X G B K Φ Γ c sc := ⟨k.o.toXOk, k.hN, k.hs⟩
theorem swaps_no {e : Expr} (h : notLc e = true) (t : Option Expr) (l : Nat) (env : Env) : swapsWith e t l env = pure false := by
  cases e <;> first | rfl | cases h
theorem stOf_ok {we : E} {x : Str} {i : Nat} {st : Stmt} (h : PAs X G B st i (wpE Φ Γ we K false)) : PS X st (tS G B fun V env vh => wpS Φ Γ (stOf c x i we) K V env vh) := by
  unfold stOf
  split
  · exact rs_setO (mE we K false) h
  · split
    · exact rs_setS (mE we K false) h
    · exact rs_set (mE we K false) h
theorem par_ok {x y : Str} {px py pt pt2 : Pos} {kt k2 : Nat} {a b : Expr} (hs : X.env.scope = sc) (h : parB sc x y px py a b = true) : swappedStores [.Tuple [.Name x px, .Name y py] kt pt] (.Tuple [a, b] k2 pt2) X.env = pure (some [x, y]) := by
  unfold parB at h
  simp only [Bool.and_eq_true, Bool.not_eq_true', decide_eq_true_eq] at h
  obtain ⟨⟨⟨⟨⟨⟨⟨⟨h1, h2⟩, h3⟩, h4⟩, h5⟩, h6⟩, h7⟩, h8⟩, h9⟩ := h
  have kx : X.env.kindOf x = some .local := by show X.env.scope.names.lookup x = _; rw [hs]; exact h2
  have ky : X.env.kindOf y = some .local := by show X.env.scope.names.lookup y = _; rw [hs]; exact h3
  have hb : X.env.blockKind = .function := by unfold Env.blockKind; rw [hs, h1]; rfl
  have ne : ([x, y] : List Str).eraseDups.length = 2 := by
    have hxy : (y == x) = false := by
      cases q : y == x with
      | false => rfl
      | true =>
        have e := eq_of_beq q
        subst e
        simp at h5
    simp [List.eraseDups_cons, hxy]
  have p1 : (X.env.kindOf x == some NameKind.local && px.line == px.line) = true := by rw [kx]; simp
  have p2 : (X.env.kindOf y == some NameKind.local && py.line == px.line) = true := by rw [ky, h4]; rfl
  unfold swappedStores
  simp only [List.length_cons, List.length_nil, hb, List.head?_cons, Option.map_some, Option.getD_some, Expr.pos, List.filterMap_cons, List.filterMap_nil, p1, p2, if_true, ne, h8, h9]
  rw [if_neg (by decide), if_neg]
  · rfl
  · intro hz
    rw [List.any_cons, List.any_cons, List.any_nil, Bool.or_false, Bool.or_eq_true] at hz
    rcases hz with hz | hz
    · cases a <;> first | exact absurd hz Bool.false_ne_true | cases h6
    · cases b <;> first | exact absurd hz Bool.false_ne_true | cases h7
theorem sub_asg {a i : Expr} {tpos : Pos} (h : plainIx i = true) (env : Env) : ∀ v, assign (.Subscript a i tpos) env v = (do
      let ov ← holding [v] (eval a env)
      let iv ← holding [v, ov] (eval i env)
      standAt tpos
      holding [v, ov, iv] (setItem ov iv v)
      release [v, ov, iv] []) := by
  intro v
  cases i <;> first | rfl | cases h
theorem attr_no {a : Expr} {m : Str} {env : Env} {w : Sem Value} (h : noCall a = true) : attributeBase a m env w = w := by
  cases a <;> first | rfl | cases h
theorem swS_no {t : Expr} {e : Expr} {l : Nat} {env : Env} (h : ∀ x p, t ≠ .Name x p) : swapsWithSole [t] e l env = pure false := by
  show swapsWith e (some t) l env = pure false
  cases e <;> first
    | rfl
    | (cases t <;> first | rfl | exact absurd rfl (h _ _))
theorem swp_sub {a i e : Expr} {p : Pos} {env : Env} : swappedStores [.Subscript a i p] e env = pure none := by
  cases e <;> rfl
theorem swp_tup {ts : List Expr} {k : Nat} {p : Pos} {e : Expr} {env : Env} (h : notTup e = true) : swappedStores [.Tuple ts k p] e env = pure none := by
  cases e <;> first | rfl | cases h


/-! ### except suites -/
theorem VD.now {V : VEnds} {D : Ends} {T ρ : List Addr} {env : VE} {vh : VH} {σ : L2.St} {H : Hp} (R : Rel G B T ρ env vh σ H) (vd : VD G B V D) : VD G (B.now T ρ env σ H) V D :=
  ⟨fun ρ env vh σ H R' z => vd.nx _ _ _ _ _ (R.unbase R') z, fun x v ρ vh H r z => vd.rt _ _ _ _ _ (r.unbase R) z, fun ρ env vh σ H R' z => vd.bk _ _ _ _ _ (R.unbase R') z, fun ρ env vh σ H R' z => vd.ct _ _ _ _ _ (R.unbase R') z⟩
theorem okG_pc {x : Str} : okG (("%e." : Str) ++ x) = false := by
  unfold okG
  have e : (("%e." : Str) ++ x).cps.toList.head? = some 37 := by
    show ((("%e." : Str).cps ++ x.cps).toList).head? = some 37
    rw [Array.toList_append]
    rfl
  rw [e]
  rfl
theorem eNm_inj {x y : Str} (h : eNm x = eNm y) : x = y := by
  unfold eNm at h
  have h1 : (("%e." : Str) ++ x).cps = (("%e." : Str) ++ y).cps := congrArg Str.cps h
  have h2 : ("%e." : Str).cps ++ x.cps = ("%e." : Str).cps ++ y.cps := h1
  have h3 : x.cps = y.cps := by
    apply Array.toList_inj.mp
    have := congrArg Array.toList h2
    rw [Array.toList_append, Array.toList_append] at this
    exact List.append_cancel_left this
  cases x; cases y
  exact congrArg Str.mk h3
theorem errG_ok {ns anc : List Str} {xs : List D} {a : Addr} {x : Str} (h : okG x = true) : errG Γ ns anc xs a x = Γ x := by
  unfold errG
  rw [if_neg (fun z => by subst z; exact absurd h (by decide +kernel)), if_neg (fun z => by subst z; exact absurd h (by decide +kernel))]
  have e : (ns.zip xs).find? (fun p => decide (eNm p.1 = x)) = none := by
    rw [List.find?_eq_none]
    intro p _ hp
    have e := of_decide_eq_true hp
    rw [← e] at h
    unfold eNm at h
    rw [okG_pc] at h
    cases h
  rw [e]
theorem errG_fld {ns anc : List Str} {xs : List D} {a : Addr} {f : Str} {d : D} (no : Γ (eNm f) = none) (h : errG Γ ns anc xs a (eNm f) = some d) : ∃ p, (ns.zip xs).find? (fun p => decide (eNm p.1 = eNm f)) = some p ∧ p.2 = d := by
  unfold errG at h
  rw [if_neg (fun z => by
    have h1 := congrArg (fun y : Str => y.cps.toList.length) z
    have h2 := congrArg (fun y : Str => y.cps.toList[1]?) z
    unfold eNm at h2
    have e : (("%e." : Str) ++ f).cps.toList[1]? = some 101 := by
      show ((("%e." : Str).cps ++ f.cps).toList)[1]? = _
      rw [Array.toList_append]
      rfl
    rw [e] at h2
    exact absurd h2 (by decide +kernel)), if_neg (fun z => by
    have h2 := congrArg (fun y : Str => y.cps.toList[1]?) z
    unfold eNm at h2
    have e : (("%e." : Str) ++ f).cps.toList[1]? = some 101 := by
      show ((("%e." : Str).cps ++ f.cps).toList)[1]? = _
      rw [Array.toList_append]
      rfl
    rw [e] at h2
    exact absurd h2 (by decide +kernel))] at h
  split at h
  · rename_i p hp
    cases h
    exact ⟨p, hp, rfl⟩
  · rw [no] at h
    cases h
theorem fld_get {Z : Addr → Prop} {ρ : List Addr} {H : Hp} {f : Str} : ∀ {ws : List (Str × V)} {xs : List D} {p : Str × D}, RDs G Z ρ H xs (ws.map (·.2)) → ((ws.map (·.1)).zip xs).find? (fun p => decide (eNm p.1 = eNm f)) = some p → ∃ v, ws.lookup f = some v ∧ RD G Z ρ H p.2 v
  | [], xs, p, h, e => by simp at e
  | w :: ws, [], p, h, e => by simp at e
  | (n, v) :: ws, x :: xs, p, h, e => by
    obtain ⟨v', r, e1, h1, h2⟩ := h
    cases e1
    rw [List.map_cons, List.zip_cons_cons, List.find?_cons] at e
    by_cases q : n = f
    · subst q
      rw [decide_eq_true (show eNm ((n, v).1, x).1 = eNm n from rfl)] at e
      cases e
      exact ⟨v, by simp, h1⟩
    · rw [decide_eq_false (fun z => q (eNm_inj z))] at e
      obtain ⟨u, h3, h4⟩ := fld_get h2 e
      refine ⟨u, ?_, h4⟩
      rw [List.lookup_cons]
      have : (f == n) = false := by simpa using fun z => q z.symm
      rw [this]
      exact h3
theorem suite_ok {n m : Nat} (hB : ∀ (body : List Stmt) (irs : List S) (X : Cx) (B : Base) (K : XP) (Γ : Cns) (c : Tc), Sk X G B K Φ Γ c sc → trB c m sc n body = some irs → PSs X body (tS G B fun V env vh => wpB Φ Γ irs K V env vh)) (k : Sk X G B K Φ Γ c sc) (hc : hotN ∉ c.fs)
    {body : List Stmt} {su : List S} (h : trB c.hot m sc n body = some su) (o : Option Nat) (a : Addr) (oe : Obj) (cls : Value) (d : Option Addr) (pn : List (Addr × Obj)) (hz : Zc cls d oe) (hf : ∃ vs, oe.data = .fields vs) :
    PSs (X.suite a ((a, oe) :: pn)) body (tSu G B Φ Γ c.tb o su a cls d) := by
  refine ⟨fun pins s σ H D I ⟨x, C, ns, anc, xs, ρ, env, vh, V, hC, ec, ht, hn, R, xf, vd, w⟩ => ?_⟩
  refine (hB body su (X.suite a ((a, oe) :: pn)) (B.now [] ρ (onE o a env) σ H) noX (errG Γ ns anc xs a) c.hot ?_ h).run pins s σ H D I ⟨ρ, onE o a env, vh, offV o V, R.rebase, vd.now R, w⟩
  have noΓ : ∀ y, okG y = false → Γ y = none := fun y hy => by
    cases q : Γ y with
    | none => rfl
    | some d => rw [k.o.ok hc y d q] at hy; cases hy
  refine ⟨{ hK := k.o.hK, calm := fun z => absurd List.mem_cons_self z, nd := k.o.nd, hu := k.o.hu, tk := ?_, fn := ?_, cn := ?_, bl := k.o.bl, rm := fun z => absurd List.mem_cons_self z, ok := fun z => absurd List.mem_cons_self z, er := ?_, po := PassesOwn.never, fnT := k.o.fnT, stk := k.o.stk, frm := k.o.frm, exN := k.o.exN }, k.hN, k.hs, k.mkx, k.hd, k.tk, k.xf⟩
  · rintro u s' ⟨a1, B1, sI, pins, σ, H, cls, d, e, I, nb, up, sky, na, os, ag, _, _, _, _, _, _, _, _, _, _, _, kk⟩
    exact kk.elim
  · intro f hf hn
    simp only [Tc.hot, List.mem_cons, List.not_mem_nil, or_false] at hf
    exact absurd hf hn
  · intro x d hx hk
    rw [errG_ok hk] at hx
    exact k.o.cn x d hx hk
  · intro _ i f e pos he hb
    refine ⟨fun pins1 s1 σ1 H1 Q I1 ⟨T1, ρ1, env1, vh1, R1, dd, e1, w1⟩ => ?_⟩
    unfold wpAttr at w1
    split at w1
    · rename_i a'
      obtain ⟨ea, y, hx, fx⟩ := w1
      have ea' : a = a' := by
        have : errG Γ ns anc xs a "%a" = some (.adr a) := by unfold errG; rw [if_pos rfl]
        rw [this] at ea
        exact _root_.R.D.adr.inj (Option.some.inj ea)
      subst ea'
      have hs1 : env1[i]? = some (.val (.adr a)) := by
        unfold Op.raw at e1
        dsimp only at e1
        split at e1
        · rename_i d hd
          cases e1
          exact hd
        · cases e1
      obtain ⟨v1, hv1, rv1⟩ := R1.st i _ hs1
      cases (show v1 = .ref a from rv1)
      obtain ⟨p, hp, rfl⟩ := errG_fld (noΓ _ okG_pc) hx
      have hns : f ∈ ns := by
        have h1 := List.mem_of_find?_eq_some hp
        have h2 := List.find?_some hp
        have h3 : p.1 = f := eNm_inj (of_decide_eq_true h2)
        rw [← h3]
        exact (List.of_mem_zip h1).1
      obtain ⟨xf1, xf2⟩ := k.xf x C hC
      cases d with
      | none =>
        obtain ⟨_, z⟩ := xf
        rw [z] at hns
        cases hns
      | some da =>
        obtain ⟨ws, vs, g1, g2, g3, g4⟩ := xf
        subst ec
        subst g3
        rw [← g2] at hp
        have ms := R.moved R1
        obtain ⟨v, q1, q2⟩ := fld_get (RDs.move ms _ _ g4) hp
        have hda : H1 da = some (.xd ws) := R1.kp da _ g1 fun z => by
          obtain ⟨u, z1, z2⟩ := R.tk da (.inr z)
          rw [g1] at z1
          cases z1
          exact z2
        refine (pe_xf xf1 (xf2 f (by rw [← hn]; exact hns)) hz hf he (hb f)).run pins1 s1 σ1 H1 Q I1 ⟨.ref a, hv1, rfl, rfl, da, ws, v, rfl, hda, q1, ?_⟩
        exact fx ρ1 v H1 (R1.res q2)
    · exact w1.elim
theorem trH_ok {n m : Nat} (hB : ∀ (body : List Stmt) (irs : List S) (X : Cx) (B : Base) (K : XP) (Γ : Cns) (c : Tc), Sk X G B K Φ Γ c sc → trB c m sc n body = some irs → PSs X body (tS G B fun V env vh => wpB Φ Γ irs K V env vh)) (k : Sk X G B K Φ Γ c sc) (hc : hotN ∉ c.fs) :
    ∀ (hds : List ExceptHandler) (r : List (Str × Option Nat) × List (List S)), trH c (trB c.hot m sc n) sc hds = some r → HsOk X G B Φ Γ c.tb hds r.1 r.2
  | [], r, h => by
    cases h
    exact .nil
  | hd :: hds, r, h => by
    unfold trH at h
    split at h
    · rename_i e
      cases e
    · rename_i x np b bs pos hs e
      cases e
      obtain ⟨hg, h⟩ := guard_ok h
      rw [Bool.and_eq_true] at hg
      obtain ⟨su, r2, h1, h2, rfl⟩ := o2_ok h
      exact .plain (gl_ok k.cok hg.1) (k.hd _ (of_decide_eq_true hg.2)) (fun a oe cls d pn hz hf => suite_ok hB k hc h1 none a oe cls d pn hz hf) (trH_ok hB k hc _ _ h2)
    · rename_i x np n' b bs pos hs e
      cases e
      obtain ⟨hg, h⟩ := guard_ok h
      rw [Bool.and_eq_true, Bool.and_eq_true] at hg
      split at h
      · rename_i i hi
        obtain ⟨hg2, h⟩ := guard_ok h
        obtain ⟨su, r2, h1, h2, rfl⟩ := o2_ok h
        exact .named (by rw [k.hN]; exact of_decide_eq_true hg2) (by show X.env.scope.names.lookup _ = _; rw [k.hs]; exact of_decide_eq_true hg.2) (gl_ok k.cok hg.1.1) (k.hd _ (of_decide_eq_true hg.1.2)) (fun a oe cls d pn hz hf => suite_ok hB k hc h1 (some i) a oe cls d pn hz hf) (trH_ok hB k hc _ _ h2)
      · cases h
    · cases h
theorem trS_ok {n m : Nat} (hB : ∀ (body : List Stmt) (irs : List S) (X : Cx) (B : Base) (K : XP) (Γ : Cns) (c : Tc), Sk X G B K Φ Γ c sc → trB c m sc n body = some irs → PSs X body (tS G B fun V env vh => wpB Φ Γ irs K V env vh)) (k : Sk X G B K Φ Γ c sc) {st : Stmt} {ir : S}
    (h : trS1 c (trB c m sc n) (trB c.hot m sc n) (tr c m) sc st = some ir) : PS X st (tS G B fun V env vh => wpS Φ Γ ir K V env vh) := by
  have hV : ∀ e ir, tr c m .V sc e = some ir → OkV X G B K Φ Γ e ir := fun e ir h => tr_ok m .V sc e ir X B K k.cok h
  have hO : ∀ e ir, tr c m .O sc e = some ir → OkO X G B K Φ Γ e ir := fun e ir h => tr_ok m .O sc e ir X B K k.cok h
  have hT : ∀ e ir, tr c m .T sc e = some ir → OkT X G B K Φ Γ e ir := fun e ir h => tr_ok m .T sc e ir X B K k.cok h
  have hW : ∀ {x : Str} {i : Nat}, wrIx c sc (fun _ => true) x = some i → X.N[i]? = some x ∧ Loc X.env.scope x := fun {x i} h => by
    obtain ⟨q1, q2, q3⟩ := wr_ok k.hN k.hs (fun x _ => k.o.fnT x) h
    exact ⟨q1, q2⟩
  unfold trS1 at h
  split at h
  · cases h; exact rs_pass
  · cases h; exact rs_break
  · cases h; exact rs_cont
  · rename_i x p args pos pos'
    obtain ⟨hg, h'⟩ := guard_ok h
    clear h
    have h := h'
    clear h'
    rw [Bool.and_eq_true] at hg
    have hc := cool_ok hg.1
    have hgl := gl_ok k.cok hg.2
    replace h : trR c (tr c m) sc x args = some ir := h
    unfold trR at h
    split at h
    · rename_i anc hl
      cases h
      obtain ⟨C, hC, ⟨hf, T⟩ | ⟨f, fI, hf, T⟩⟩ := k.mkx _ _ _ hl
      · exact rs_raise0 k.o hc hgl hC hf T
      · have q := k.tk _ C hC _ _ hl
        rw [hf] at q
        cases q
    · rename_i fd anc e hl
      obtain ⟨hp, h⟩ := guard_ok h
      obtain ⟨u, h1, rfl⟩ := map_ok h
      obtain ⟨C, hC, ⟨hf, T⟩ | ⟨f, fI, hf, T⟩⟩ := k.mkx _ _ _ hl
      · have q := k.tk _ C hC _ _ hl
        rw [hf] at q
        cases q
      · exact rs_raise1 k.o hc hgl hC hf T (mEs [u] K) (ra_cons (mE u K false) (mEs [] K) (hV _ _ h1) ra_nil (star_cons hp)) (star_cons hp)
    · cases h
  · rename_i body hd hds pos
    obtain ⟨hg, h⟩ := guard_ok h
    obtain ⟨b, r, h1, h2, rfl⟩ := o2_ok h
    exact rs_try k.o k.tk (fun X' K' e1 e2 e3 e4 o' => hB _ _ X' B K' Γ c ⟨o', e1.trans k.hN, by rw [e2]; exact k.hs, by rw [e3, e4]; exact k.mkx, by rw [e3, e4]; exact k.hd, k.tk, by rw [e3]; exact k.xf⟩ h1) (cool_ok hg) (trH_ok hB k (cool_ok hg) _ _ h2)
  · cases h; exact rs_retN
  · split at h
    · obtain ⟨i, h1, rfl⟩ := map_ok h
      exact rs_retO (pe_slot k.cok h1)
    · obtain ⟨e, h1, rfl⟩ := map_ok h
      exact rs_ret (mE e K false) (hV _ _ h1)
  · obtain ⟨e, h1, rfl⟩ := map_ok h
    exact rs_ret (mE e K false) (hV _ _ h1)
  · cases h; exact rs_doc
  · rename_i a mm apos e cpos pos
    obtain ⟨hg, h'⟩ := guard_ok h
    clear h
    simp only [Bool.and_eq_true] at hg
    obtain ⟨⟨⟨g1, g2⟩, g3⟩, g4⟩ := hg
    obtain ⟨u, v, h1, h2, rfl⟩ := o2_ok h'
    by_cases ga : mm = ("append" : Str)
    · subst ga
      exact rs_app k.o (mO u K) (mE v K false) (hO _ _ h1) (hV _ _ h2) (attr_no g3) g4 (star_cons g2)
    · rw [decide_eq_false ga, Bool.false_or] at g1
      have g1 : mm = ("extend" : Str) := of_decide_eq_true g1
      subst g1
      rw [decide_eq_false ga]
      exact rs_ext k.o (mO u K) (mE v K false) (hO _ _ h1) (hV _ _ h2) (attr_no g3) g4 (star_cons g2)
  · obtain ⟨hg, h⟩ := guard_ok h
    obtain ⟨e, h1, rfl⟩ := map_ok h
    exact rs_expr (mE e K false) (hV _ _ h1) (swaps_no hg _ _ _)
  · rename_i x p elt gens scope cpos pos
    obtain ⟨hg, h⟩ := guard_ok h
    obtain ⟨i, e, h1, h2, rfl⟩ := o2_ok h
    unfold lcB at hg
    simp only [Bool.and_eq_true, Bool.not_eq_true', decide_eq_true_eq] at hg
    obtain ⟨⟨⟨g1, g2⟩, g3⟩, g4⟩ := hg
    obtain ⟨q1, q2⟩ := hW h1
    obtain ⟨tg, iter, ifs, own, wi, g, tt, te, rfl, hi, ok, hgg, ht, he, hs, im⟩ := lc_parts k.cok hV (fun m' e ir X' B' k' h' => tr_ok m m' _ e ir X' B' _ k' h') h2
    refine stOf_ok ((ps_setLc (pos := cpos) (spos := pos) (py := p) (k.o.calm (trLc_cool h2)) k.o.nd q1 (by rw [k.hs]; exact g2) (sw_true (by rw [k.hs]; exact g1) (by rw [k.hs]; exact g2) g3 g4) hi ok hgg ht he hs).imp fun D σ H z => im _ _ _ z)
  · rename_i x p e pos _
    obtain ⟨hg, h⟩ := guard_ok h
    obtain ⟨i, ir, h1, h2, rfl⟩ := o2_ok h
    obtain ⟨q1, q2⟩ := hW h1
    exact stOf_ok (pas_set k.o q1 q2 (hV _ _ h2) (swaps_no hg _ _ _))
  · rename_i x px y py kt pt a b k2 pt2 pos
    obtain ⟨hg', h⟩ := guard_ok h
    rw [Bool.and_eq_true] at hg'
    obtain ⟨hc, hg⟩ := hg'
    have hc := cool_ok hc
    split at h
    · rename_i i j u v h1 h2 h3 h4
      obtain ⟨hn, h⟩ := guard_ok h
      cases h
      have hg0 := hg
      unfold parB at hg
      simp only [Bool.and_eq_true, Bool.not_eq_true', decide_eq_true_eq] at hg
      obtain ⟨⟨⟨⟨⟨⟨⟨⟨g1, g2⟩, g3⟩, g4⟩, g5⟩, g6⟩, g7⟩, g8⟩, g9⟩ := hg
      have hij : i ≠ j := by
        unfold neB at hn
        simpa using hn
      exact rs_par k.o hc (mEs [u, v] K) (hW h1).1 (hW h2).1 hij (by rw [k.hs]; exact g2) (by rw [k.hs]; exact g3) (ra_cons (mE u K false) (mEs [v] K) (hV _ _ h3) (ra_cons (mE v K false) (mEs [] K) (hV _ _ h4) ra_nil (star_cons g7)) (star_cons g6)) (par_ok k.hs hg0) (swS_no fun _ _ e => by cases e)
    · cases h
  · rename_i ts kt pt e pos _
    obtain ⟨hg, h⟩ := guard_ok h
    rw [Bool.and_eq_true, Bool.and_eq_true] at hg
    obtain ⟨hc, hg⟩ := hg
    have hc := cool_ok hc
    obtain ⟨is, ir, h1, h2, rfl⟩ := o2_ok h
    obtain ⟨r1, r2, r3⟩ := wrs_ok k.o.nd k.hN k.hs (fun x _ => k.o.fnT x) h1
    refine rs_unp k.o (mE ir K false) (hV _ _ h2) ?_ (swS_no fun _ _ e => by cases e) (swp_tup hg.2) rfl
    show PG X _ (gTup G.K is.length (gNames is))
    rw [← k.o.hK]
    exact pg_tup (k.o.calm hc) r1 r2 r3
  · rename_i a i tpos e pos
    obtain ⟨hg, h⟩ := guard_ok h
    obtain ⟨u, v, w, h1, h2, h3, rfl⟩ := o3_ok h
    exact rs_sidx k.o (mO u K) (mE v K false) (mE w K false) (hO _ _ h1) (hV _ _ h2) (hV _ _ h3) (sub_asg hg _) (swS_no fun _ _ e => by cases e) swp_sub rfl
  · obtain ⟨i, e, h1, h2, rfl⟩ := o2_ok h
    obtain ⟨q1, q2⟩ := hW h1
    exact rs_aug k.o (mE e K false) q1 q2 (hV _ _ h2)
  · obtain ⟨t, a, b, h1, h2, h3, rfl⟩ := o3_ok h
    exact rs_cond (mE t K true) (hT _ _ h1).1 (hB _ _ _ _ _ _ _ k h2) (hB _ _ _ _ _ _ _ k h3)
  · rename_i tg iter body pos
    obtain ⟨hc, h⟩ := guard_ok h
    have hc := cool_ok hc
    split at h
    · rename_i t ik es b h1 h2 h3
      cases h
      obtain ⟨hi, hfs⟩ := trI_ok (tg := tg) k.cok hV h2
      have key := rs_for k.o hc (mI ik es K) (body := body) (pos := pos) (wb := fun V env vh => wpB Φ Γ b K V env vh) hi (trTg_ok (k.o.calm hc) k.o.hK k.o.nd k.hN k.hs (fun x _ => k.o.fnT x) h1) (fun B' o' => hB _ _ X B' K Γ c ⟨o', k.hN, k.hs, k.mkx, k.hd, k.tk, k.xf⟩ h3) hfs
      exact key
    · cases h
  · obtain ⟨t, b, h1, h2, rfl⟩ := o2_ok h
    exact rs_whl k.o (mE t K true) (hT _ _ h1).1 (hB _ _ _ _ _ _ _ k h2)
  · cases h
end
section
variable {G : Wd} {Φ : Fns}
theorem trB_ok {m : Nat} {sc : Scope} : ∀ (n : Nat) (body : List Stmt) (irs : List S) (X : Cx) (B : Base) (K : XP) (Γ : Cns) (c : Tc), Sk X G B K Φ Γ c sc → trB c m sc n body = some irs → PSs X body (tS G B fun V env vh => wpB Φ Γ irs K V env vh)
  | 0, _, _, _, _, _, _, _, _, h => by cases h
  | n + 1, [], irs, X, B, K, Γ, c, k, h => by
    cases h
    exact rs_nil
  | n + 1, st :: ss, irs, X, B, K, Γ, c, k, h => by
    obtain ⟨b, h2, rfl⟩ := map_ok (show (trB c m sc n ss).map (fun r => ((trS1 c (trB c m sc n) (trB c.hot m sc n) (tr c m) sc st).getD .never) :: r) = some irs from h)
    cases q : trS1 c (trB c m sc n) (trB c.hot m sc n) (tr c m) sc st with
    | none => exact rs_cons (w1 := fun V env vh => wpS Φ Γ .never K V env vh) (w2 := fun V env vh => wpB Φ Γ b K V env vh) rs_never (trB_ok n ss b X B K Γ c k h2)
    | some a => exact rs_cons (w1 := fun V env vh => wpS Φ Γ a K V env vh) (w2 := fun V env vh => wpB Φ Γ b K V env vh) (trS_ok (fun body irs X B K Γ c => trB_ok n body irs X B K Γ c) k q) (trB_ok n ss b X B K Γ c k h2)
end
end R

set_option autoImplicit false
namespace R
open PySem PySem.Spec PyProof.Rows L2
/-! ## R10: defs -/
def startE (N : List Str) (ds : List D) : VE := ds.map Slot.val ++ List.replicate (N.length - ds.length) Slot.no
/-- the body keeps the promise -/
def Sat (Φ : Fns) (Γ : Cns) (irs : List S) (N ps : List Str) (sp : VSp) : Prop := ∀ ds vh R, sp.run ds vh R → ds.length = ps.length ∧
  wpB Φ Γ irs (fun c xs _ vh => R (.exc c xs) vh) ⟨fun _ vh => R (.ok (.v .non)) vh, fun x vh => R (.ok x) vh, fun _ _ => False, fun _ _ => False⟩ (startE N ds) vh
/-- a def that may be called by its name -/
structure Df (P : Program) (w : World) (K : PySem.W.Frag) (mg : Str → Option Value) (base : Heap) (G : Wd) (k : Nat) (x : Str) (sp : VSp) : Prop where
  ex : ∃ (a : Addr) (fd : FuncData) (ps : List Str), mg x = some (.ref a) ∧ PySem.W.keepIn K (.ref a) = true ∧ Binds K fd ps [] ∧ FnOk P w K mg base (L2.CX P w) k a fd ps (spV G sp) ∧ (x == ("__debug__" : Str)) = false
theorem Df.mono {P : Program} {w : World} {K : PySem.W.Frag} {mg : Str → Option Value} {base : Heap} {G : Wd} {j k : Nat} {x : Str} {sp : VSp} (h : Df P w K mg base G j x sp) (l : j ≤ k) : Df P w K mg base G k x sp := by
  obtain ⟨a, fd, ps, h1, h2, h3, h4, h5⟩ := h.ex
  exact ⟨a, fd, ps, h1, h2, h3, h4.mono l, h5⟩
/-- a look at the names of a def -/
def defB (N P : List Str) (sc : Scope) : Bool := decide (sc.kind = .function) && (!sc.isCoroutine && (!sc.isGenerator && (decide N.Nodup && (decide (N.take P.length = P) && (P.all (fun x => decide (sc.names.lookup x = some .local) || decide (sc.names.lookup x = some .cell)) && sc.names.all fun y => !decide (y.2 = .free))))))
theorem defB_ok {N P : List Str} {sc : Scope} (h : defB N P sc = true) : FnScope N P sc := by
  unfold defB at h
  simp only [Bool.and_eq_true, Bool.not_eq_true', decide_eq_true_eq, List.all_eq_true, Bool.or_eq_true, decide_eq_false_iff_not] at h
  exact ⟨h.1, h.2.1, h.2.2.1, h.2.2.2.1, h.2.2.2.2.1, h.2.2.2.2.2.1, h.2.2.2.2.2.2⟩
structure Gnd (K : PySem.W.Frag) (mg : Str → Option Value) (G : Wd) (Γ : Cns) (tb : List (Str × List Str × List Str)) (hs : List Str) : Prop where
  hK : G.K = K
  ok : ∀ x d, Γ x = some d → okG x = true
  mkx : ∀ x ns anc, tb.lookup x = some (ns, anc) → MkX G K mg x
  hd : ∀ x, x ∈ hs → HdX G K mg tb x
  tk : ∀ x C, G.cl x = some C → ∀ ns anc, tb.lookup x = some (ns, anc) → ns = G.fl x
  xf : FdX G K
  cn : ∀ x d, Γ x = some d → ∃ u v, mg x = some u ∧ RelV v u ∧ (∀ Z ρ H, RD G Z ρ H d v) ∧ (x == ("__debug__" : Str)) = false
  bl : ∀ x, x ∈ bltNames → mg x = none
section
variable {G : Wd} {B : Base} {ρ : List Addr} {vh : VH} {H : Hp}
theorem startE_length {N : List Str} {ds : List D} (h : ds.length ≤ N.length) : (startE N ds).length = N.length := by
  unfold startE
  rw [List.length_append, List.length_map, List.length_replicate]
  omega
theorem startE_get {N : List Str} {ds : List D} {i : Nat} {s : Slot} (h : (startE N ds)[i]? = some s) : s = .no ∨ ∃ d, s = .val d ∧ ds[i]? = some d := by
  unfold startE at h
  by_cases hi : i < ds.length
  · rw [List.getElem?_append_left (by simpa using hi), List.getElem?_map] at h
    cases e : ds[i]? with
    | none => rw [e] at h; cases h
    | some d => rw [e] at h; cases h; exact .inr ⟨d, rfl, rfl⟩
  · rw [List.getElem?_append_right (by simpa using hi), List.getElem?_replicate] at h
    split at h
    · cases h; exact .inl rfl
    · cases h
theorem Rel.start {N : List Str} {ds : List D} {vs : List V} (R : Rel G B [] ρ [] vh [] H) (h : RDs G (ZZ B.F [] ρ [] []) ρ H ds vs) (hl : ds.length ≤ N.length) : Rel G B [] ρ (startE N ds) vh (L2.start N vs) H := by
  have hO : ∀ i a, Own (startE N ds) (L2.start N vs) a i → False := fun i a ⟨xs, h1, h2⟩ => by
    rcases startE_get h1 with e | ⟨d, e, _⟩ <;> cases e
  refine R.weak (fun _ h => h) R.tn (fun i a z => (hO i a z).elim) ?_ fun i s hs => ?_
  · rw [startE_length hl]
    unfold L2.start
    rw [List.length_append, List.length_map, List.length_replicate, ← h.length]
    omega
  · rcases startE_get hs with rfl | ⟨d, rfl, hd⟩
    · trivial
    · obtain ⟨v, h1, h2⟩ := h.get hd
      refine ⟨v, ?_, RD.move (Mv.less fun b z => ?_) _ _ h2⟩
      · unfold L2.start
        have hi : i < vs.length := (List.getElem?_eq_some_iff.mp h1).1
        rw [List.getElem?_append_left (by simpa using hi), List.getElem?_map, h1]
        rfl
      · rcases z with z | z | z | ⟨j, z⟩
        · exact .inl z
        · exact .inr (.inl z)
        · exact .inr (.inr (.inl z))
        · exact (hO j b z).elim
theorem Rel.leave {T : List Addr} {env : VE} {σ : L2.St} (R : Rel G B T ρ env vh σ H) : Rel G B [] ρ [] vh [] H :=
  R.weak (fun _ h => by cases h) List.nodup_nil (fun i a z => absurd z no_own) rfl fun i s h => by simp at h
theorem leaveMv {T : List Addr} {env : VE} {σ : L2.St} : Mv (ZZ B.F T ρ env σ) ρ H (ZZ B.F [] ρ [] []) ρ H := Mv.less fun b z => by
  rcases z with z | z | z | ⟨j, z⟩
  · exact .inl z
  · cases z
  · exact .inr (.inr (.inl z))
  · exact absurd z no_own
end
section
variable {P : Program} {w : World} {K : PySem.W.Frag} {mg : Str → Option Value} {base : Heap} {G : Wd} {Φ : Fns} {Γ : Cns} {c : Tc} {k m n : Nat}
theorem fn_ok {x qual : Str} {st : Stmt} {f : Addr} {fd : FuncData} {ps : List Str} {irs : List S} {sp : VSp} (F : Fun K x qual st f fd) (hsc : defB c.N ps (defScope st) = true) (ht : eqO (trB c m (defScope st) n (defBody st)) irs = true)
    (hfs : ∀ g, g ∈ c.fs → Df P w K mg base G k g (Φ g)) (gd : Gnd K mg G Γ c.tb c.hs) (hc : hotN ∉ c.fs) (sat : Sat Φ Γ irs c.N ps sp) : FnOk P w K mg base (L2.CX P w) (k + 1) f fd ps (spV G sp) := by
  have S := defB_ok hsc
  refine F.okX S (fun vs H Q E h => ?_) fun cdv A outer s H vs Q E hr h => ?_
  · obtain ⟨F0, ρ, vh, ds, R, hds, run⟩ := h
    rw [← hds.length]
    exact (sat _ _ _ run).1
  · obtain ⟨F0, ρ, vh, ds, R, hds, run⟩ := h
    obtain ⟨hl, wp⟩ := sat _ _ _ run
    have hN : ds.length ≤ c.N.length := by
      have := congrArg List.length S.pre
      rw [List.length_take] at this
      omega
    refine ⟨_, trB_ok (Φ := Φ) (sc := defScope st) (m := m) n (defBody st) irs _ ⟨F0, fun a => a ∈ ρ, H, ρ⟩ _ Γ c ⟨?_, rfl, rfl, gd.mkx, gd.hd, gd.tk, gd.xf⟩ (eqO_ok ht), ρ, startE c.N ds, vh, _, R.start hds hN, ?_, wp⟩
    · refine { hK := gd.hK.symm, calm := fun _ => rfl, nd := S.nd, hu := ?_, tk := ?_, fn := fun g hg _ => ?_, cn := fun x d h _ => gd.cn x d h, bl := gd.bl, po := passes_of rfl, fnT := fun _ => rfl, stk := rfl, frm := rfl, exN := rfl, rm := fun _ => (show (A.deeper (envOfC qual (defScope st) s.heap.objs.size f cdv)).depth + 1 < recursionLimit from Nat.lt_of_le_of_lt (by omega) hr.dp), ok := fun _ => gd.ok, er := fun h => absurd h hc }
      · exact hr.units
      · refine Takes.imp (W := fun cls d _ H => E cls d H) (takes_of rfl rfl rfl rfl) ?_
        rintro cls d σ H' ⟨c', C, xs, T, ρ', env, vh', hc, e, S', xf, kk⟩
        subst e
        exact kk ρ' C d H' hc S'.leave (xf.moveX leaveMv fun a u _ h => h)
      · obtain ⟨a, fd', ps', h1, h2, h3, h4, h5⟩ := (hfs g hg).ex
        exact ⟨a, fd', ps', k, h1, h2, h3, h4, hr, h5⟩
    · exact ⟨fun ρ' env' vh' σ' H' R' z => z ρ' .non H' ⟨R'.leave, rfl⟩, fun x v ρ' vh' H' r z => z ρ' v H' r, fun _ _ _ _ _ _ z => z.elim, fun _ _ _ _ _ _ z => z.elim⟩
theorem df_ok {x : Str} {st : Stmt} {f : Addr} {fd : FuncData} {ps : List Str} {irs : List S} {sp : VSp} (F : Fun K x x st f fd) (hm : mg x = some (.ref f)) (b : Binds K fd ps []) (hdb : (x == ("__debug__" : Str)) = false) (hsc : defB c.N ps (defScope st) = true)
    (ht : eqO (trB c m (defScope st) n (defBody st)) irs = true) (hfs : ∀ g, g ∈ c.fs → Df P w K mg base G k g (Φ g)) (gd : Gnd K mg G Γ c.tb c.hs) (hc : hotN ∉ c.fs) (sat : Sat Φ Γ irs c.N ps sp) : Df P w K mg base G (k + 1) x sp :=
  ⟨f, fd, ps, hm, F.kp, b, fn_ok F hsc ht hfs gd hc sat, hdb⟩
/-- the law's promise, as the end wants it -/
theorem law_end {sp : VSp} {H : Hp} {a : Addr} {ns : List Int} (ho : Only H) (hs : SqL G.K H a (ns.map V.int)) (h : sp.run [.scr ns] [] fun o _ => o = .ok (.v (.bl true))) : spV G sp [.ref a] H (fun v _ => v = .bl true) fun _ _ _ => False := by
  refine ⟨fun _ => False, [], [], [.scr ns], ⟨rfl, List.nodup_nil, List.nodup_nil, fun a h => (by cases h), fun i a z => absurd z no_own, fun i j a z => absurd z no_own, fun a f => f.elim, fun a z => ?_, fun n o a h1 => (by simp at h1), rfl, fun i s h => (by simp at h), fun _ _ h _ => h, fun _ _ h => h, fun a z => ?_, fun _ _ h => h⟩, ⟨.ref a, [], rfl, ⟨a, rfl, ?_⟩, rfl⟩, sp.mono _ _ _ _ (fun o vh' e => ?_) h⟩
  · rcases z with z | z | z | ⟨i, z⟩
    · exact z.elim
    · cases z
    · cases z
    · exact absurd z no_own
  · rcases z with z | z | ⟨i, z⟩
    · cases z
    · cases z
    · exact absurd z no_own
  · rcases hs with hs | hs
    · refine .inl ⟨?_, hs⟩
      rintro (z | z | z | ⟨i, z⟩)
      · exact z
      · cases z
      · cases z
      · exact absurd z no_own
    · exact .inr hs
  · subst e
    rintro ρ' v H' ⟨_, r⟩
    exact r
end
/-- what a clause's class says of an error's class -/
theorem exm_by {K : PySem.W.Frag} {c : Value} {S : Addr} {b : Bool} (h1 : PySem.W.subIn K (.ref S) (.type "BaseException") = some true) (h2 : PySem.W.isClsIn K S = true) (h3 : PySem.W.typeIn K (.ref S) = some (.type "type")) (h4 : PySem.W.subIn K c (.ref S) = some b) :
    PySem.W.exmOne K c (.ref S) = some b := by
  have e1 : (PySem.W.subIn K (.ref S) (.type "BaseException") == some true) = true := by rw [h1] <;> rfl
  have e2 : ((PySem.W.clsIn K S).isSome && PySem.W.typeIn K (.ref S) == some (.type "type")) = true := by
    have h2' : (PySem.W.clsIn K S).isSome = true := h2
    rw [h2', h3] <;> rfl
  show (if (PySem.W.subIn K (.ref S) (.type "BaseException") == some true) = true then (if ((PySem.W.clsIn K S).isSome && PySem.W.typeIn K (.ref S) == some (.type "type")) = true then PySem.W.subIn K c (.ref S) else none) else none) = some b
  rw [if_pos e1, if_pos e2]
  exact h4
/-- a def that calls itself so deep -/
theorem df_rec {P : Program} {w : World} {K : PySem.W.Frag} {mg : Str → Option Value} {base : Heap} {G : Wd} {x : Str} {k : Nat} {sp : Nat → VSp} (h0 : Df P w K mg base G k x (sp 0)) (hs : ∀ n, Df P w K mg base G (k + n) x (sp n) → Df P w K mg base G (k + n + 1) x (sp (n + 1))) : ∀ n, Df P w K mg base G (k + n) x (sp n)
  | 0 => h0
  | n + 1 => hs n (df_rec h0 hs n)
end R

set_option autoImplicit false
namespace R
open PySem PySem.Spec PyProof.Rows L2
/-! ## R11: steps -/
structure VLe (V V' : VEnds) : Prop where
  nx : ∀ e h, V.nx e h → V'.nx e h
  rt : ∀ x h, V.rt x h → V'.rt x h
  bk : ∀ e h, V.bk e h → V'.bk e h
  ct : ∀ e h, V.ct e h → V'.ct e h
theorem setSh_mono {n : Nat} {k x : D} {vh : VH} {Q Q' : VH → Prop} (f : ∀ h, Q h → Q' h) (h : setSh n k x vh Q) : setSh n k x vh Q' := by
  unfold setSh at *
  split at h <;> first
    | (obtain ⟨m, a, b⟩ := h; exact ⟨m, a, f _ b⟩)
    | exact h
theorem wpSet_mono {o : Op} {k x : D} {env : VE} {vh : VH} {Q Q' : VE → VH → Prop} (f : ∀ e h, Q e h → Q' e h) (h : wpSet o k x env vh Q) : wpSet o k x env vh Q' := by
  unfold wpSet at *
  split at h
  · exact setSh_mono (f _) h
  · exact h
  · split at h
    · exact setSh_mono (f _) h
    · obtain ⟨m, a, b⟩ := h; exact ⟨m, a, f _ _ b⟩
    · exact h
theorem appSh_mono {n : Nat} {x : D} {vh : VH} {Q Q' : VH → Prop} (f : ∀ h, Q h → Q' h) (h : appSh n x vh Q) : appSh n x vh Q' := by
  unfold appSh at *
  split at h
  · exact ⟨h.1, f _ h.2⟩
  · exact h
theorem wpApp_mono {o : Op} {x : D} {env : VE} {vh : VH} {Q Q' : VE → VH → Prop} (f : ∀ e h, Q e h → Q' e h) (h : wpApp o x env vh Q) : wpApp o x env vh Q' := by
  unfold wpApp at *
  split at h
  · exact appSh_mono (f _) h
  · exact h
  · split at h
    · exact appSh_mono (f _) h
    · exact ⟨h.1, f _ _ h.2⟩
    · exact h
theorem extSh_mono {n : Nat} {x : List D} {vh : VH} {Q Q' : VH → Prop} (f : ∀ h, Q h → Q' h) (h : extSh n x vh Q) : extSh n x vh Q' := by
  unfold extSh at *
  split at h
  · exact ⟨h.1, f _ h.2⟩
  · exact h
theorem wpExt_mono {o : Op} {x : List D} {env : VE} {vh : VH} {Q Q' : VE → VH → Prop} (f : ∀ e h, Q e h → Q' e h) (h : wpExt o x env vh Q) : wpExt o x env vh Q' := by
  unfold wpExt at *
  split at h
  · exact extSh_mono (f _) h
  · exact h
  · split at h
    · exact extSh_mono (f _) h
    · exact ⟨h.1, f _ _ h.2⟩
    · exact h
theorem wpAug_mono {op : Operator} {c d : D} {Q Q' : D → Prop} (f : ∀ z, Q z → Q' z) (h : wpAug op c d Q) : wpAug op c d Q' := by
  unfold wpAug at *
  split at h <;> first | exact f _ h | exact h
theorem forGo_mono {t t' : D → (VE → VH → Prop) → VE → VH → Prop} (ht : ∀ d N N' e h, (∀ e h, N e h → N' e h) → t d N e h → t' d N' e h) : ∀ (ds : List D) (e : VE) (h : VH) (Q Q' : VE → VH → Prop), (∀ e h, Q e h → Q' e h) → forGo t ds e h Q → forGo t' ds e h Q'
  | [], e, h, Q, Q', f, x => f _ _ x
  | d :: ds, e, h, Q, Q', f, x => ht d _ _ e h (fun e h => forGo_mono ht ds e h Q Q' f) x
theorem VLe.off {V V' : VEnds} {o : Option Nat} (l : VLe V V') : VLe (offV o V) (offV o V') := ⟨fun _ _ => l.nx _ _, l.rt, fun _ _ => l.bk _ _, fun _ _ => l.ct _ _⟩
section
variable {Φ : Fns}
mutual
theorem wpS_monoK : ∀ (s : S) (Γ : Cns) (K K' : XP) (V V' : VEnds) (env : VE) (vh : VH), KLe K K' → VLe V V' → wpS Φ Γ s K V env vh → wpS Φ Γ s K' V' env vh
  | .pass, Γ, K, K', V, V', env, vh, kl, l, h => l.nx _ _ h
  | .brk, Γ, K, K', V, V', env, vh, kl, l, h => l.bk _ _ h
  | .cont, Γ, K, K', V, V', env, vh, kl, l, h => l.ct _ _ h
  | .retN, Γ, K, K', V, V', env, vh, kl, l, h => l.rt _ _ h
  | .set i e, Γ, K, K', V, V', env, vh, kl, l, h => wpE_monoK e K K' false env vh _ _ kl (fun x e1 h1 => l.nx _ _) h
  | .setO i e, Γ, K, K', V, V', env, vh, kl, l, h => wpE_monoK e K K' false env vh _ _ kl (fun x e1 h1 z => match x, z with
    | .fr ds, z => l.nx _ _ z) h
  | .setS i e, Γ, K, K', V, V', env, vh, kl, l, h => wpE_monoK e K K' false env vh _ _ kl (fun x e1 h1 z => match x, z with
    | .fr ds, z => l.nx _ _ z) h
  | .par i j a b, Γ, K, K', V, V', env, vh, kl, l, h => by
    unfold wpS at *
    exact wpEs_monoK [a, b] K K' env vh _ _ kl (fun ds e1 h1 z => by
      split at z
      · exact l.nx _ _ z
      · exact z) h
  | .unp is e, Γ, K, K', V, V', env, vh, kl, l, h => wpE_monoK e K K' false env vh _ _ kl (fun x e1 h1 ⟨e2, a, b⟩ => ⟨e2, a, l.nx _ _ b⟩) h
  | .aug i op e, Γ, K, K', V, V', env, vh, kl, l, h => by
    unfold wpS at *
    split at h
    · exact wpE_monoK e K K' false env vh _ _ kl (fun y e1 h1 z => wpAug_mono (fun _ => l.nx _ _) z) h
    · exact h
  | .sidx o i e, Γ, K, K', V, V', env, vh, kl, l, h => wpE_monoK e K K' false env vh _ _ kl (fun x e1 h1 z => asO_monoK (fun Q Q' f => wpE_monoK o K K' false e1 h1 Q Q' kl f) (fun oo e2 h2 z => wpE_monoK i K K' false e2 h2 _ _ kl (fun ix e3 h3 z => wpSet_mono l.nx z) z) z) h
  | .app o e, Γ, K, K', V, V', env, vh, kl, l, h => by
    unfold wpS at *
    exact asO_monoK (fun Q Q' f => wpE_monoK o K K' false env vh Q Q' kl f) (fun oo e1 h1 z => ⟨z.1, wpE_monoK e K K' false e1 h1 _ _ kl (fun x e2 h2 z => wpApp_mono l.nx z) z.2⟩) h
  | .ext o e, Γ, K, K', V, V', env, vh, kl, l, h => by
    unfold wpS at *
    exact asO_monoK (fun Q Q' f => wpE_monoK o K K' false env vh Q Q' kl f) (fun oo e1 h1 z => ⟨z.1, wpE_monoK e K K' false e1 h1 _ _ kl (fun x e2 h2 ⟨ys, ey, z⟩ => ⟨ys, ey, wpExt_mono l.nx z⟩) z.2⟩) h
  | .ret e, Γ, K, K', V, V', env, vh, kl, l, h => wpE_monoK e K K' false env vh _ _ kl (fun x e1 h1 => l.rt _ _) h
  | .retO i, Γ, K, K', V, V', env, vh, kl, l, h => by
    unfold wpS at *
    split at h
    · exact l.rt _ _ h
    · exact h
  | .expr e, Γ, K, K', V, V', env, vh, kl, l, h => wpE_monoK e K K' false env vh _ _ kl (fun x e1 h1 => l.nx _ _) h
  | .cond c a b, Γ, K, K', V, V', env, vh, kl, l, h => wpE_monoK c K K' true env vh _ _ kl (fun x e1 h1 z => by
      split at z
      · exact ifP_mono (wpB_monoK a Γ K K' V V' e1 h1 kl l) (wpB_monoK b Γ K K' V V' e1 h1 kl l) z
      · exact z) h
  | .forS tg k es body, Γ, K, K', V, V', env, vh, kl, l, h => wpEs_monoK es K K' env vh _ _ kl (fun ds e1 h1 ⟨items, a, z⟩ => ⟨items, a, forGo_mono (fun d N N' e h f ⟨e2, q, z⟩ => ⟨e2, q, wpB_monoK body Γ K K' ⟨N, V.rt, V.nx, N⟩ ⟨N', V'.rt, V'.nx, N'⟩ e2 h kl ⟨f, l.rt, l.nx, f⟩ z⟩) items e1 h1 _ _ l.nx z⟩) h
  | .whl c body, Γ, K, K', V, V', env, vh, kl, l, h => by
    obtain ⟨I, h0, hs⟩ := h
    refine ⟨I, h0, fun n env vh i => wpE_monoK c K K' true env vh _ _ kl (fun x e1 h1 z => ?_) (hs n env vh i)⟩
    split at z
    · exact ifP_mono (wpB_monoK body Γ K K' ⟨fun e h => ∃ m, m < n ∧ I m e h, V.rt, V.nx, fun e h => ∃ m, m < n ∧ I m e h⟩ ⟨fun e h => ∃ m, m < n ∧ I m e h, V'.rt, V'.nx, fun e h => ∃ m, m < n ∧ I m e h⟩ e1 h1 kl ⟨fun _ _ => id, l.rt, l.nx, fun _ _ => id⟩) (l.nx _ _) z
    · exact z
  | .raise c es, Γ, K, K', V, V', env, vh, kl, l, h => wpEs_monoK es K K' env vh _ _ kl (fun _ _ _ => kl _ _ _ _) h
  | .tryS tb body cs sus, Γ, K, K', V, V', env, vh, kl, l, h => wpB_monoK body Γ _ _ V V' env vh (fun c xs e h1 z => by
      split at z
      · exact wpH_monoK _ _ _ cs sus Γ _ _ V V' e h1 l (kl _ _ _ _) z
      · exact z) l h
  | .never, Γ, K, K', V, V', env, vh, kl, l, h => h
theorem wpH_monoK (ns anc : List Str) (xs : List D) : ∀ (cs : List (Str × Option Nat)) (sus : List (List S)) (Γ : Cns) (P P' : Prop) (V V' : VEnds) (env : VE) (vh : VH), VLe V V' → (P → P') → wpH Φ Γ ns anc xs cs sus P V env vh → wpH Φ Γ ns anc xs cs sus P' V' env vh
  | [], _, Γ, P, P', V, V', env, vh, l, f, h => by
    unfold wpH at h ⊢
    exact f h
  | _ :: _, [], Γ, P, P', V, V', env, vh, l, f, h => by
    unfold wpH at h
    exact h.elim
  | (c, o) :: cs, su :: sus, Γ, P, P', V, V', env, vh, l, f, h => ifP_mono (fun g a => wpB_monoK su _ _ _ _ _ _ _ (fun _ _ _ _ z => z) (VLe.off l) (g a)) (wpH_monoK ns anc xs cs sus Γ P P' V V' env vh l f) h
theorem wpB_monoK : ∀ (ss : List S) (Γ : Cns) (K K' : XP) (V V' : VEnds) (env : VE) (vh : VH), KLe K K' → VLe V V' → wpB Φ Γ ss K V env vh → wpB Φ Γ ss K' V' env vh
  | [], Γ, K, K', V, V', env, vh, kl, l, h => l.nx _ _ h
  | s :: ss, Γ, K, K', V, V', env, vh, kl, l, h => wpS_monoK s Γ K K' { V with nx := fun e h => wpB Φ Γ ss K V e h } _ env vh kl ⟨fun e h => wpB_monoK ss Γ K K' V V' e h kl l, l.rt, l.bk, l.ct⟩ h
end
end
section
variable {Φ : Fns} {Γ : Cns}
theorem wpS_mono (s : S) (K : XP) (V V' : VEnds) (env : VE) (vh : VH) (l : VLe V V') (h : wpS Φ Γ s K V env vh) : wpS Φ Γ s K V' env vh := wpS_monoK s Γ K K V V' env vh (fun _ _ _ _ z => z) l h
theorem wpB_mono (s : List S) (K : XP) (V V' : VEnds) (env : VE) (vh : VH) (l : VLe V V') (h : wpB Φ Γ s K V env vh) : wpB Φ Γ s K V' env vh := wpB_monoK s Γ K K V V' env vh (fun _ _ _ _ z => z) l h
end
section
variable {Φ : Fns} {Γ : Cns} {K : XP} {env e1 : VE} {vh h1 : VH} {Q : QE} {nx bk ct : VE → VH → Prop} {rt : DV → VH → Prop} {V : VEnds}
/-! ### statements -/
theorem b_nil (h : nx env vh) : wpB Φ Γ [] K ⟨nx, rt, bk, ct⟩ env vh := h
theorem b_cons {s : S} {ss : List S} (he : env = e1) (h : wpS Φ Γ s K ⟨fun e h => wpB Φ Γ ss K ⟨nx, rt, bk, ct⟩ e h, rt, bk, ct⟩ e1 vh) : wpB Φ Γ (s :: ss) K ⟨nx, rt, bk, ct⟩ env vh := by
  subst he
  exact h
/-- a word that no step looks into -/
def Hold (p : Prop) : Prop := p
theorem hold {p : Prop} (h : p) : Hold p := h
/-- a statement by what it is to reach -/
theorem b_cut {s : S} {ss : List S} (P : VE → VH → Prop) (h : wpS Φ Γ s K ⟨fun e h => Hold (P e h), rt, bk, ct⟩ env vh) (k : ∀ e h, P e h → wpB Φ Γ ss K ⟨nx, rt, bk, ct⟩ e h) : wpB Φ Γ (s :: ss) K ⟨nx, rt, bk, ct⟩ env vh :=
  wpS_mono s K ⟨fun e h => Hold (P e h), rt, bk, ct⟩ _ env vh ⟨k, fun _ _ => id, fun _ _ => id, fun _ _ => id⟩ h
/-- what is wished of an error in the body of a try -/
def tryK (Φ : Fns) (Γ : Cns) (tb : List (Str × List Str × List Str)) (cs : List (Str × Option Nat)) (sus : List (List S)) (K : XP) (V : VEnds) : XP := fun c xs e h => match tb.lookup c with
  | some (ns, anc) => wpH Φ Γ ns anc xs cs sus (K c xs e h) V e h
  | none => False
theorem s_try {tb : List (Str × List Str × List Str)} {body : List S} {cs : List (Str × Option Nat)} {sus : List (List S)} (h : wpB Φ Γ body (tryK Φ Γ tb cs sus K ⟨nx, rt, bk, ct⟩) ⟨nx, rt, bk, ct⟩ env vh) : wpS Φ Γ (.tryS tb body cs sus) K ⟨nx, rt, bk, ct⟩ env vh := h
theorem s_raise {c : Str} {es : List E} (h : wpEs Φ Γ es K env vh fun ds e1 h1 => K c ds e1 h1) : wpS Φ Γ (.raise c es) K ⟨nx, rt, bk, ct⟩ env vh := h
theorem x_hit {tb : List (Str × List Str × List Str)} {cs : List (Str × Option Nat)} {sus : List (List S)} {V : VEnds} {c : Str} {xs : List D} {ns anc : List Str} (hl : tb.lookup c = some (ns, anc)) (h : wpH Φ Γ ns anc xs cs sus (K c xs env vh) V env vh) : tryK Φ Γ tb cs sus K V c xs env vh := by
  unfold tryK
  rw [hl]
  exact h
theorem h_yes {c : Str} {o : Option Nat} {cs : List (Str × Option Nat)} {su : List S} {sus : List (List S)} {ns anc : List Str} {xs : List D} {P : Prop} (hc : anc.contains c = true) (h : ∀ a, wpB Φ (errG Γ ns anc xs a) su noX (offV o ⟨nx, rt, bk, ct⟩) (onE o a env) vh) : wpH Φ Γ ns anc xs ((c, o) :: cs) (su :: sus) P ⟨nx, rt, bk, ct⟩ env vh := by
  unfold wpH
  rw [hc]
  exact h
theorem h_no {c : Str} {o : Option Nat} {cs : List (Str × Option Nat)} {su : List S} {sus : List (List S)} {ns anc : List Str} {xs : List D} {P : Prop} (hc : anc.contains c = false) (h : wpH Φ Γ ns anc xs cs sus P V env vh) : wpH Φ Γ ns anc xs ((c, o) :: cs) (su :: sus) P V env vh := by
  unfold wpH
  rw [hc]
  exact h
theorem h_nil {sus : List (List S)} {ns anc : List Str} {xs : List D} {P : Prop} (h : P) : wpH Φ Γ ns anc xs [] sus P V env vh := by
  unfold wpH
  exact h
theorem errG_one {anc : List Str} {f : Str} {x : D} {a : Addr} : errG Γ [f] anc [x] a (eNm f) = some x := by
  unfold errG
  have e : (("%e." : Str) ++ f).cps.toList[1]? = some 101 := by
    show ((("%e." : Str).cps ++ f.cps).toList)[1]? = _
    rw [Array.toList_append]
    rfl
  have n1 : eNm f ≠ "%a" := fun z => by
    have h2 := congrArg (fun y : Str => y.cps.toList[1]?) z
    unfold eNm at h2
    rw [e] at h2
    exact absurd h2 (by decide +kernel)
  have n2 : eNm f ≠ "%c" := fun z => by
    have h2 := congrArg (fun y : Str => y.cps.toList[1]?) z
    unfold eNm at h2
    rw [e] at h2
    exact absurd h2 (by decide +kernel)
  rw [if_neg n1, if_neg n2]
  simp
theorem e_fld1 {anc : List Str} {i : Nat} {f : Str} {x : D} {a : Addr} (hs : env[i]? = some (.val (.adr a))) (h : Q (.v x) env vh) : wpE Φ (errG Γ [f] anc [x] a) (.attr (.bor i) f) K false env vh Q := by
  refine ⟨⟨_, hs, trivial⟩, .adr a, ?_, ?_, x, errG_one, h⟩
  · unfold Op.raw
    dsimp only
    rw [hs]
  · unfold errG
    rw [if_pos rfl]
theorem s_pass (h : nx env vh) : wpS Φ Γ .pass K ⟨nx, rt, bk, ct⟩ env vh := h
theorem s_brk (h : bk env vh) : wpS Φ Γ .brk K ⟨nx, rt, bk, ct⟩ env vh := h
theorem s_cont (h : ct env vh) : wpS Φ Γ .cont K ⟨nx, rt, bk, ct⟩ env vh := h
theorem s_retN (h : rt (.v .non) vh) : wpS Φ Γ .retN K ⟨nx, rt, bk, ct⟩ env vh := h
theorem s_set {i : Nat} {e : E} (h : wpE Φ Γ e K false env vh fun x e1 h1 => nx (e1.set i (.val x.d)) h1) : wpS Φ Γ (.set i e) K ⟨nx, rt, bk, ct⟩ env vh := h
theorem s_setO {i : Nat} {e : E} (h : wpE Φ Γ e K false env vh fun x e1 h1 => ∃ ds, x = .fr ds ∧ nx (e1.set i (.own ds)) h1) : wpS Φ Γ (.setO i e) K ⟨nx, rt, bk, ct⟩ env vh :=
  wpE_mono e K false env vh _ _ (fun x e1 h1 ⟨ds, ex, z⟩ => by subst ex; exact z) h
theorem s_setS {i : Nat} {e : E} (h : wpE Φ Γ e K false env vh fun x e1 h1 => ∃ ds, x = .fr ds ∧ nx (e1.set i (.val (.ref h1.length))) (h1 ++ [.lst ds])) : wpS Φ Γ (.setS i e) K ⟨nx, rt, bk, ct⟩ env vh :=
  wpE_mono e K false env vh _ _ (fun x e1 h1 ⟨ds, ex, z⟩ => by subst ex; exact z) h
theorem s_par {i j : Nat} {a b : E} (h : wpE Φ Γ a K false env vh fun x e1 h1 => wpE Φ Γ b K false e1 h1 fun y e2 h2 => nx ((e2.set i (.val x.d)).set j (.val y.d)) h2) : wpS Φ Γ (.par i j a b) K ⟨nx, rt, bk, ct⟩ env vh := h
theorem s_unp {is : List Nat} {e : E} (h : wpE Φ Γ e K false env vh fun x e1 h1 => ∃ e2, bindT (.many is) x.d e1 = some e2 ∧ nx e2 h1) : wpS Φ Γ (.unp is e) K ⟨nx, rt, bk, ct⟩ env vh := h
theorem s_aug {i : Nat} {op : Operator} {e : E} {c : D} (hs : env[i]? = some (.val c)) (h : wpE Φ Γ e K false env vh fun y e1 h1 => wpAug op c y.d fun z => nx (e1.set i (.val z)) h1) : wpS Φ Γ (.aug i op e) K ⟨nx, rt, bk, ct⟩ env vh := by
  unfold wpS
  rw [hs]
  exact h
theorem s_sidx {o i e : E} (h : wpE Φ Γ e K false env vh fun x e1 h1 => asO o (wpE Φ Γ o) K e1 h1 fun oo e2 h2 => wpE Φ Γ i K false e2 h2 fun ix e3 h3 => wpSet oo ix.d x.d e3 h3 nx) : wpS Φ Γ (.sidx o i e) K ⟨nx, rt, bk, ct⟩ env vh := h
theorem s_app {o e : E} (h : asO o (wpE Φ Γ o) K env vh fun oo e1 h1 => isLs oo e1 h1 ∧ wpE Φ Γ e K false e1 h1 fun x e2 h2 => wpApp oo x.d e2 h2 nx) : wpS Φ Γ (.app o e) K ⟨nx, rt, bk, ct⟩ env vh := h
theorem s_ext {o e : E} (h : asO o (wpE Φ Γ o) K env vh fun oo e1 h1 => isLs oo e1 h1 ∧ wpE Φ Γ e K false e1 h1 fun x e2 h2 => ∃ ys, seqD x.d = some ys ∧ wpExt oo ys e2 h2 nx) : wpS Φ Γ (.ext o e) K ⟨nx, rt, bk, ct⟩ env vh := h
theorem s_ret {e : E} (h : wpE Φ Γ e K false env vh fun x e1 h1 => rt x h1) : wpS Φ Γ (.ret e) K ⟨nx, rt, bk, ct⟩ env vh := h
theorem s_retO {i : Nat} {ds : List D} (hs : env[i]? = some (.own ds)) (h : rt (.fr ds) vh) : wpS Φ Γ (.retO i) K ⟨nx, rt, bk, ct⟩ env vh := by
  unfold wpS
  rw [hs]
  exact h
theorem s_expr {e : E} (h : wpE Φ Γ e K false env vh fun x e1 h1 => nx e1 h1) : wpS Φ Γ (.expr e) K ⟨nx, rt, bk, ct⟩ env vh := h
theorem s_cond {c : E} {a b : List S} (h : wpE Φ Γ c K true env vh fun x e1 h1 => ∃ k, x = .v (.bl k) ∧ ifP k (wpB Φ Γ a K ⟨nx, rt, bk, ct⟩ e1 h1) (wpB Φ Γ b K ⟨nx, rt, bk, ct⟩ e1 h1)) : wpS Φ Γ (.cond c a b) K ⟨nx, rt, bk, ct⟩ env vh :=
  wpE_mono c K true env vh _ _ (fun x e1 h1 ⟨k, ex, z⟩ => by subst ex; exact z) h
theorem s_for {tg : Tg} {k : Ik} {es : List E} {body : List S} (h : wpEs Φ Γ es K env vh fun ds e1 h1 => ∃ items, itemsD k ds = some items ∧
      forGo (fun d N e h => ∃ e2, bindT tg d e = some e2 ∧ wpB Φ Γ body K ⟨N, rt, nx, N⟩ e2 h) items e1 h1 nx) : wpS Φ Γ (.forS tg k es body) K ⟨nx, rt, bk, ct⟩ env vh := h
theorem s_whl {c : E} {body : List S} (I : Nat → VE → VH → Prop) (h0 : ∃ n, I n env vh) (h : ∀ n env vh, I n env vh → wpE Φ Γ c K true env vh fun x e1 h1 => ∃ k, x = .v (.bl k) ∧
      ifP k (wpB Φ Γ body K ⟨fun e h => ∃ m, m < n ∧ I m e h, rt, nx, fun e h => ∃ m, m < n ∧ I m e h⟩ e1 h1) (nx e1 h1)) : wpS Φ Γ (.whl c body) K ⟨nx, rt, bk, ct⟩ env vh :=
  ⟨I, h0, fun n env vh i => wpE_mono c K true env vh _ _ (fun x e1 h1 ⟨k, ex, z⟩ => by subst ex; exact z) (h n env vh i)⟩
theorem aug_add {i j : Int} {F : D → Prop} (h : F (.int (i + j))) : wpAug .Add (.int i) (.int j) F := h
theorem aug_sub {i j : Int} {F : D → Prop} (h : F (.int (i - j))) : wpAug .Sub (.int i) (.int j) F := h
/-- what goes on behind a call -/
@[reducible] def callK (k : DV → VH → Prop) (kx : Str → List D → VH → Prop) : Out → VH → Prop
  | .ok x, h => k x h
  | .exc c xs, h => kx c xs h
/-! ### values -/
theorem e_non (h : Q (.v .non) env vh) : wpE Φ Γ .non K false env vh Q := h
theorem e_skip (h : Q (.v .non) env vh) : wpE Φ Γ .skip K false env vh Q := h
theorem e_bl {b : Bool} (h : Q (.v (.bl b)) env vh) : wpE Φ Γ (.bl b) K false env vh Q := h
theorem e_int {i : Int} (h : Q (.v (.int i)) env vh) : wpE Φ Γ (.int i) K false env vh Q := h
theorem e_str {x : Str} (h : Q (.v (.str x)) env vh) : wpE Φ Γ (.str x) K false env vh Q := h
theorem e_var {i : Nat} {d : D} (hs : env[i]? = some (.val d)) (h : Q (.v d) env vh) : wpE Φ Γ (.var i) K false env vh Q := ⟨_, hs, h⟩
theorem e_varO {i : Nat} {ds : List D} (hs : env[i]? = some (.own ds)) (h : Q (.v (.lst ds)) (env.set i (.val (.lst ds))) vh) : wpE Φ Γ (.var i) K false env vh Q := ⟨_, hs, h⟩
theorem e_glo {x : Str} {d : D} (hs : Γ x = some d) (h : Q (.v d) env vh) : wpE Φ Γ (.glo x) K false env vh Q := ⟨_, hs, h⟩
theorem e_tup {es : List E} (h : wpEs Φ Γ es K env vh fun ds e1 h1 => ds.length ≤ 16777216 ∧ Q (.v (.tup ds)) e1 h1) : wpE Φ Γ (.tup es) K false env vh Q := h
theorem e_dct {ks : List Key} {es : List E} (h : wpEs Φ Γ es noK env vh fun ds e1 h1 => (ks.length = ds.length ∧ ks.length ≤ 15 ∧ ks.Nodup) ∧ Q (.v (.dct ks ds)) e1 h1) : wpE Φ Γ (.dct ks es) K false env vh Q := h
theorem e_lst {es : List E} (h : wpEs Φ Γ es K env vh fun ds e1 h1 => ds.length ≤ 16777216 ∧ Q (.fr ds) e1 h1) : wpE Φ Γ (.lst es) K false env vh Q := h
theorem e_bin {op : Operator} {a b : E} (h : asO a (wpE Φ Γ a) K env vh fun x e1 h1 => asO b (wpE Φ Γ b) K e1 h1 fun y e2 h2 => ∃ c d, x.ld e2 h2 = some c ∧ y.ld e2 h2 = some d ∧ wpBin op c d fun z => Q z e2 h2) : wpE Φ Γ (.bin op a b) K false env vh Q := h
theorem e_neg {a : E} (h : wpE Φ Γ a K false env vh fun x e1 h1 => ∃ i, x = .v (.int i) ∧ Q (.v (.int (-i))) e1 h1) : wpE Φ Γ (.neg a) K false env vh Q := h
theorem e_cmp {op : CmpOp} {a b : E} {t : Bool} (h : asO a (wpE Φ Γ a) K env vh fun x e1 h1 => asO b (wpE Φ Γ b) K e1 h1 fun y e2 h2 => ∃ c d, x.ld e2 h2 = some c ∧ y.ld e2 h2 = some d ∧ wpCmp op c d fun k => Q (.v (.bl k)) e2 h2) : wpE Φ Γ (.cmp op a b) K t env vh Q := h
theorem e_chain {op op' : CmpOp} {a b c : E} {t : Bool} (h : asO a (wpE Φ Γ a) K env vh fun x e1 h1 => asO b (wpE Φ Γ b) K e1 h1 fun y e2 h2 => ∃ d e, x.ld e2 h2 = some d ∧ y.ld e2 h2 = some e ∧ wpCmp op d e fun k =>
      ifP k (asO c (wpE Φ Γ c) K e2 h2 fun z e3 h3 => ∃ e f, y.ld e3 h3 = some e ∧ z.ld e3 h3 = some f ∧ wpCmp op' e f fun k => Q (.v (.bl k)) e3 h3) (Q (.v (.bl false)) e2 h2)) : wpE Φ Γ (.chain op op' a b c) K t env vh Q := h
theorem e_andT {a b : E} (h : wpE Φ Γ a K true env vh fun x e1 h1 => ∃ k, x = .v (.bl k) ∧ ifP k (wpE Φ Γ b K true e1 h1 Q) (Q (.v (.bl false)) e1 h1)) : wpE Φ Γ (.and a b) K true env vh Q := h
theorem e_orT {a b : E} (h : wpE Φ Γ a K true env vh fun x e1 h1 => ∃ k, x = .v (.bl k) ∧ ifP k (Q (.v (.bl true)) e1 h1) (wpE Φ Γ b K true e1 h1 Q)) : wpE Φ Γ (.or a b) K true env vh Q := h
theorem e_and {a b : E} (h : wpE Φ Γ a K false env vh fun x e1 h1 => ∃ d k, x = .v d ∧ (deref h1 d).bind truD = some k ∧ ifP k (wpE Φ Γ b K false e1 h1 Q) (Q x e1 h1)) : wpE Φ Γ (.and a b) K false env vh Q := h
theorem e_or {a b : E} (h : wpE Φ Γ a K false env vh fun x e1 h1 => ∃ d k, x = .v d ∧ (deref h1 d).bind truD = some k ∧ ifP k (Q x e1 h1) (wpE Φ Γ b K false e1 h1 Q)) : wpE Φ Γ (.or a b) K false env vh Q := h
theorem e_notT {a : E} (h : wpE Φ Γ a K true env vh fun x e1 h1 => ∃ k, x = .v (.bl k) ∧ Q (.v (.bl (!k))) e1 h1) : wpE Φ Γ (.not a) K true env vh Q := h
theorem e_not {a : E} (h : asO a (wpE Φ Γ a) K env vh fun x e1 h1 => ∃ d k, x.ld e1 h1 = some d ∧ truD d = some k ∧ Q (.v (.bl (!k))) e1 h1) : wpE Φ Γ (.not a) K false env vh Q := h
theorem e_ite {c a b : E} {t : Bool} (h : wpE Φ Γ c K true env vh fun x e1 h1 => ∃ k, x = .v (.bl k) ∧ ifP k (wpE Φ Γ a K t e1 h1 Q) (wpE Φ Γ b K t e1 h1 Q)) : wpE Φ Γ (.ite c a b) K t env vh Q := h
theorem e_idx {a i : E} (h : asO a (wpE Φ Γ a) K env vh fun x e1 h1 => asO i (wpE Φ Γ i) K e1 h1 fun y e2 h2 => ∃ c d, x.ld e2 h2 = some c ∧ y.ld e2 h2 = some d ∧ wpIdx c d fun z => Q (.v z) e2 h2) : wpE Φ Γ (.idx a i) K false env vh Q := h
theorem e_sli {a lo hi : E} (h : asO a (wpE Φ Γ a) K env vh fun x e1 h1 => wpE Φ Γ lo K false e1 h1 fun l e2 h2 => ∃ i, partD l = some i ∧ wpE Φ Γ hi K false e2 h2 fun u e3 h3 =>
      ∃ c j, x.ld e3 h3 = some c ∧ partD u = some j ∧ wpSli c i j fun z => Q z e3 h3) : wpE Φ Γ (.sli a lo hi) K false env vh Q := h
theorem e_call {f : Str} {es : List E} (h : wpEs Φ Γ es K env vh fun ds e1 h1 => (Φ f).run ds h1 (callK (fun x h2 => Q x e1 h2) (fun c xs h2 => K c xs e1 h2))) : wpE Φ Γ (.call f es) K false env vh Q :=
  wpEs_mono es K env vh _ _ (fun ds e1 h1 z => (Φ f).mono _ _ _ _ (fun o h2 y => match o with
    | .ok x => y
    | .exc c xs => y) z) h
theorem e_blt {f : Bf} {es : List E} (h : wpOs Φ Γ es K env vh fun xs e1 h1 => ∃ ds, ldAll e1 h1 xs = some ds ∧ wpBlt f ds fun z => Q z e1 h1) : wpE Φ Γ (.blt f es) K false env vh Q := h
/-- which class it is of -/
def IsiK (tys : List String) (n : String) (P : Bool → Prop) : Prop := tys.all okTy = true ∧ P (tys.any (isTy n))
theorem isi_t {tys : List String} {n : String} {P : Bool → Prop} (h1 : tys.all okTy = true) (h2 : tys.any (isTy n) = true) (h : P true) : IsiK tys n P := ⟨h1, by rw [h2]; exact h⟩
theorem isi_f {tys : List String} {n : String} {P : Bool → Prop} (h1 : tys.all okTy = true) (h2 : tys.any (isTy n) = false) (h : P false) : IsiK tys n P := ⟨h1, by rw [h2]; exact h⟩
theorem e_isi {a : E} {tys : List String} (h : asO a (wpE Φ Γ a) K env vh fun x e1 h1 => ∃ d n, x.ld e1 h1 = some d ∧ tyD d = some n ∧ IsiK tys n fun b => Q (.v (.bl b)) e1 h1) : wpE Φ Γ (.isi a tys) K false env vh Q := h
def noB (env : VE) : List Nat → Bool
  | [] => true
  | j :: js => (match env[j]? with
    | some (.own _) => false
    | _ => true) && noB env js
theorem noB_ok {env : VE} : ∀ {js : List Nat}, noB env js = true → noOwn env js
  | [], _ => trivial
  | j :: js, h => by
    unfold noB at h
    rw [Bool.and_eq_true] at h
    refine ⟨?_, noB_ok h.2⟩
    have h1 := h.1
    revert h1
    cases env[j]? with
    | none => exact fun _ => trivial
    | some s => cases s <;> first
      | exact fun _ => trivial
      | (intro h1; cases h1)
theorem e_lc {elt : E} {tg : Tg} {own : List Nat} {k : Ik} {es cs : List E} (h : wpEs Φ Γ es K env vh fun ds e1 h1 => ∃ items, itemsD k ds = some items ∧ noB e1 own = true ∧
      lcGo (fun d h R => ∃ e2, bindT tg d (wipeE e1 own) = some e2 ∧ wpTs Φ Γ cs e2 h fun b h3 => ifP b (wpE Φ Γ elt (fun _ _ _ _ => False) false e2 h3 fun x e4 h4 => e4 = e2 ∧ R (some x.d) h4) (R none h3)) items h1 [] fun acc h2 => Q (.fr acc) e1 h2) : wpE Φ Γ (.lc elt tg own k es cs) K false env vh Q :=
  wpEs_mono es K env vh _ _ (fun ds e1 h1 ⟨items, a, b, z⟩ => ⟨items, a, noB_ok b, z⟩) h
/-! ### tests of values -/
theorem t_fin {ir : E} (hf : finK ir = true) (h : wpE Φ Γ ir K false env vh fun x e1 h1 => ∃ k, (deref h1 x.d).bind truD = some k ∧ Q (.v (.bl k)) e1 h1) : wpE Φ Γ ir K true env vh Q := by
  rw [fin_eq hf]
  exact h
theorem t_bor {i : Nat} {d : D} {k : Bool} (hl : (Op.slt i).ld env vh = some d) (hk : truD d = some k) (h : Q (.v (.bl k)) env vh) : wpE Φ Γ (.bor i) K true env vh Q := ⟨d, k, hl, hk, h⟩
/-! ### operands, lists -/
theorem o_bor {i : Nat} {s : Slot} {w : XP → Bool → VE → VH → QE → Prop} {P : Op → VE → VH → Prop} (hs : env[i]? = some s) (ho : s.ok) (h : P (.slt i) env vh) : asO (.bor i) w K env vh P := ⟨⟨s, hs, ho⟩, h⟩
theorem o_val {ir : E} {P : Op → VE → VH → Prop} (hb : isBor ir = false) (h : wpE Φ Γ ir K false env vh fun x e1 h1 => P (.dat x.d) e1 h1) : asO ir (wpE Φ Γ ir) K env vh P := by
  rw [asO_no hb]
  exact h
theorem l_nil {P : List D → VE → VH → Prop} (h : P [] env vh) : wpEs Φ Γ [] K env vh P := h
theorem l_cons {e : E} {es : List E} {P : List D → VE → VH → Prop} (h : wpE Φ Γ e K false env vh fun x e1 h1 => wpEs Φ Γ es K e1 h1 fun xs e2 h2 => P (x.d :: xs) e2 h2) : wpEs Φ Γ (e :: es) K env vh P := h
theorem os_nil {P : List Op → VE → VH → Prop} (h : P [] env vh) : wpOs Φ Γ [] K env vh P := h
theorem os_cons {e : E} {es : List E} {P : List Op → VE → VH → Prop} (h : asO e (wpE Φ Γ e) K env vh fun x e1 h1 => wpOs Φ Γ es K e1 h1 fun xs e2 h2 => P (x :: xs) e2 h2) : wpOs Φ Γ (e :: es) K env vh P := h
theorem ts_nil {P : Bool → VH → Prop} (h : P true vh) : wpTs Φ Γ [] env vh P := h
theorem ts_one {c : E} {P : Bool → VH → Prop} (h : wpE Φ Γ c (fun _ _ _ _ => False) true env vh fun x e1 h1 => e1 = env ∧ ∃ k, x = .v (.bl k) ∧ P k h1) : wpTs Φ Γ [c] env vh P := h
/-! ### operators -/
section
variable {F : DV → Prop} {FB : Bool → Prop} {i j : Int} {xs ys : List D} {x y : Str}
theorem b_add (h : F (.v (.int (i + j)))) : wpBin .Add (.int i) (.int j) F := h
theorem b_addT (hl : xs.length + ys.length ≤ 16777216) (h : F (.v (.tup (xs ++ ys)))) : wpBin .Add (.tup xs) (.tup ys) F := ⟨hl, h⟩
theorem b_addL (hl : xs.length + ys.length ≤ 16777216) (h : F (.fr (xs ++ ys))) : wpBin .Add (.lst xs) (.lst ys) F := ⟨hl, h⟩
theorem b_addS (hl : x.length + y.length ≤ 16777216) (h : F (.v (.str (x ++ y)))) : wpBin .Add (.str x) (.str y) F := ⟨hl, h⟩
theorem b_sub (h : F (.v (.int (i - j)))) : wpBin .Sub (.int i) (.int j) F := h
theorem b_mul (hl : mulOk i j) (h : F (.v (.int (i * j)))) : wpBin .Mult (.int i) (.int j) F := ⟨hl, h⟩
theorem b_mulT (h1 : 1 ≤ j) (h2 : j ≤ 1000) (h3 : xs.length ≤ 1000) (h : F (.v (.tup (List.replicate j.toNat xs).flatten))) : wpBin .Mult (.tup xs) (.int j) F := ⟨h1, h2, h3, h⟩
theorem b_mulS (hl : MulOk x j) (h : F (.v (.str (Txt.mul x j)))) : wpBin .Mult (.str x) (.int j) F := ⟨hl, h⟩
theorem b_div (hl : 0 < j ∧ j.natAbs.log2 < 9000) (h : F (.v (.int (i / j)))) : wpBin .FloorDiv (.int i) (.int j) F := ⟨hl, h⟩
theorem b_mod (hl : 0 < j) (h : F (.v (.int (i % j)))) : wpBin .Mod (.int i) (.int j) F := ⟨hl, h⟩
theorem b_pow (hl : 0 ≤ j ∧ j ≤ 1000000 ∧ i.natAbs < 2 ^ 64) (h : F (.v (.int (i ^ j.toNat)))) : wpBin .Pow (.int i) (.int j) F := ⟨hl, h⟩
theorem c_lt (h : FB (decide (i < j))) : wpCmp .Lt (.int i) (.int j) FB := h
theorem c_le (h : FB (decide (i ≤ j))) : wpCmp .LtE (.int i) (.int j) FB := h
theorem c_gt (h : FB (decide (j < i))) : wpCmp .Gt (.int i) (.int j) FB := h
theorem c_ge (h : FB (decide (j ≤ i))) : wpCmp .GtE (.int i) (.int j) FB := h
theorem c_eqI (h : FB (decide (i = j))) : wpCmp .Eq (.int i) (.int j) FB := ⟨rfl, rfl, by
  show FB (i == j)
  have e : (i == j) = decide (i = j) := by by_cases q : i = j <;> simp [q]
  rw [e]; exact h⟩
theorem c_neI (h : FB (!decide (i = j))) : wpCmp .NotEq (.int i) (.int j) FB := ⟨rfl, rfl, by
  show FB (!(i == j))
  have e : (i == j) = decide (i = j) := by by_cases q : i = j <;> simp [q]
  rw [e]; exact h⟩
theorem c_eq {a b : D} (h1 : okD 64 a = true) (h2 : okD 64 b = true) (h : FB (eqD a b)) : wpCmp .Eq a b FB := by
  cases a <;> exact ⟨h1, h2, h⟩
theorem c_ne {a b : D} (h1 : okD 64 a = true) (h2 : okD 64 b = true) (h : FB (!eqD a b)) : wpCmp .NotEq a b FB := by
  cases a <;> exact ⟨h1, h2, h⟩
theorem c_eqBt {a b : Bool} (h1 : (a == b) = true) (h : FB true) : wpCmp .Eq (.bl a) (.bl b) FB := ⟨by unfold okD; rfl, by unfold okD; rfl, by unfold eqD; rw [h1]; exact h⟩
theorem c_eqBf {a b : Bool} (h1 : (a == b) = false) (h : FB false) : wpCmp .Eq (.bl a) (.bl b) FB := ⟨by unfold okD; rfl, by unfold okD; rfl, by unfold eqD; rw [h1]; exact h⟩
theorem c_neBt {a b : Bool} (h1 : (a == b) = true) (h : FB false) : wpCmp .NotEq (.bl a) (.bl b) FB := ⟨by unfold okD; rfl, by unfold okD; rfl, by unfold eqD; rw [h1]; exact h⟩
theorem c_neBf {a b : Bool} (h1 : (a == b) = false) (h : FB true) : wpCmp .NotEq (.bl a) (.bl b) FB := ⟨by unfold okD; rfl, by unfold okD; rfl, by unfold eqD; rw [h1]; exact h⟩
theorem c_isN {a : D} (h : FB (isNon a)) : wpCmp .Is a .non FB := by
  cases a <;> exact h
theorem c_isB {a : D} {b : Bool} (h : FB (isB a b)) : wpCmp .Is a (.bl b) FB := by
  cases a <;> exact h
theorem c_isNotB {a : D} {b : Bool} (h : FB (!isB a b)) : wpCmp .IsNot a (.bl b) FB := by
  cases a <;> exact h
theorem c_isNotN {a : D} (h : FB (!isNon a)) : wpCmp .IsNot a .non FB := by
  cases a <;> exact h
theorem i_tup {FD : D → Prop} {d : D} (hi : atI xs i = some d) (h : FD d) : wpIdx (.tup xs) (.int i) FD := ⟨d, hi, h⟩
theorem i_lst {FD : D → Prop} {d : D} (hi : atI xs i = some d) (h : FD d) : wpIdx (.lst xs) (.int i) FD := ⟨d, hi, h⟩
theorem u_tup {lo hi : Option Int} (h : F (.v (.tup (cutL xs lo hi)))) : wpSli (.tup xs) lo hi F := h
theorem u_lst {lo hi : Option Int} (h : F (.fr (cutL xs lo hi))) : wpSli (.lst xs) lo hi F := h
theorem u_scr {ns : List Int} {lo hi : Option Int} (h : F (.fr ((cutL ns lo hi).map D.int))) : wpSli (.scr ns) lo hi F := h
theorem f_lenT (h : F (.v (.int xs.length))) : wpBlt .len [.tup xs] F := h
theorem f_lenL (h : F (.v (.int xs.length))) : wpBlt .len [.lst xs] F := h
theorem f_lenC {ns : List Int} (h : F (.v (.int ns.length))) : wpBlt .len [.scr ns] F := h
theorem f_lenS (hl : x.length ≤ 16777216) (h : F (.v (.int x.length))) : wpBlt .len [.str x] F := ⟨hl, h⟩
theorem f_int (h : F (.v (.int i))) : wpBlt .int [.int i] F := h
theorem f_intB {b : Bool} (h : F (.v (.int (if b then 1 else 0)))) : wpBlt .int [.bl b] F := h
theorem f_tupL (h : F (.v (.tup xs))) : wpBlt .tuple [.lst xs] F := h
theorem f_tupT (h : F (.v (.tup xs))) : wpBlt .tuple [.tup xs] F := h
theorem f_lstL (h : F (.fr xs)) : wpBlt .list [.lst xs] F := h
theorem f_lstT (h : F (.fr xs)) : wpBlt .list [.tup xs] F := h
theorem f_lstC {ns : List Int} (h : F (.fr (ns.map D.int))) : wpBlt .list [.scr ns] F := h
theorem f_abs (h : F (.v (.int (if i < 0 then -i else i)))) : wpBlt .abs [.int i] F := h
theorem f_min (h : F (.v (.int (if j < i then j else i)))) : wpBlt .min2 [.int i, .int j] F := h
theorem f_max (h : F (.v (.int (if j > i then j else i)))) : wpBlt .max2 [.int i, .int j] F := h
theorem f_all {bs : List Bool} (hx : xs = bs.map D.bl) (h : F (.v (.bl (bs.all id)))) : wpBlt .all [.lst xs] F := ⟨bs, hx, h⟩
theorem f_any {bs : List Bool} (hx : xs = bs.map D.bl) (h : F (.v (.bl (bs.any id)))) : wpBlt .any [.lst xs] F := ⟨bs, hx, h⟩
theorem f_sum {ns : List Int} (hx : xs = ns.map D.int) (h : F (.v (.int ns.sum))) : wpBlt .sum [.lst xs] F := ⟨ns, hx, h⟩
theorem f_strI (hl : i.natAbs.log2 < 1920) (h : F (.v (.str (Str.ofString (toString i))))) : wpBlt .str [.int i] F := ⟨hl, h⟩
theorem f_intS {n : Int} (he : PySem.intText? x = some n) (hl : x.length ≤ 640) (h : F (.v (.int n))) : wpBlt .int [.str x] F := ⟨n, he, hl, h⟩
theorem f_sumC {ns : List Int} (h : F (.v (.int ns.sum))) : wpBlt .sum [.scr ns] F := h
theorem p_true {p q : Prop} (h : p) : ifP true p q := h
theorem p_false {p q : Prop} (h : q) : ifP false p q := h
theorem p_isN {p q : Prop} (h : p) : ifP (isNon .non) p q := h
theorem p_nisN {p q : Prop} (h : q) : ifP (!isNon .non) p q := h
theorem p_isN0 {d : D} {p q : Prop} (e : isNon d = false) (h : q) : ifP (isNon d) p q := by rw [e]; exact h
theorem p_nisN0 {d : D} {p q : Prop} (e : isNon d = false) (h : p) : ifP (!isNon d) p q := by rw [e]; exact h
theorem p_nt {p q : Prop} (h : q) : ifP (!true) p q := h
theorem p_nf {p q : Prop} (h : p) : ifP (!false) p q := h
theorem p_ne {a b : D} {p q : Prop} (h : eqD a b = true) (hq : q) : ifP (!eqD a b) p q := by rw [h]; exact hq
theorem p_neF {a b : D} {p q : Prop} (h : eqD a b = false) (hq : p) : ifP (!eqD a b) p q := by rw [h]; exact hq
theorem p_dec {c : Prop} [Decidable c] {p q : Prop} (h1 : c → p) (h2 : ¬ c → q) : ifP (decide c) p q := by
  by_cases hc : c
  · rw [decide_eq_true hc]; exact h1 hc
  · rw [decide_eq_false hc]; exact h2 hc
theorem p_nd {c : Prop} [Decidable c] {p q : Prop} (h : c) (hq : q) : ifP (!decide c) p q := by rw [decide_eq_true h]; exact hq
theorem p_d {c : Prop} [Decidable c] {p q : Prop} (h : c) (hp : p) : ifP (decide c) p q := by rw [decide_eq_true h]; exact hp
theorem p_ndec {c : Prop} [Decidable c] {p q : Prop} (h1 : ¬ c → p) (h2 : c → q) : ifP (!decide c) p q := by
  by_cases hc : c
  · rw [decide_eq_true hc]; exact h2 hc
  · rw [decide_eq_false hc]; exact h1 hc
theorem p_bool {b : Bool} {p q : Prop} (h1 : b = true → p) (h2 : b = false → q) : ifP b p q := by
  cases b
  · exact h2 rfl
  · exact h1 rfl
end
/-! ### loops -/
theorem for_rule {turn : D → (VE → VH → Prop) → VE → VH → Prop} {F : VE → VH → Prop} (P : List D → VE → VH → Prop) (h0 : ∀ e h, P [] e h → F e h)
    (hs : ∀ d ds e h, P (d :: ds) e h → (∀ e' h', P ds e' h' → forGo turn ds e' h' F) → turn d (fun e h => forGo turn ds e h F) e h) : ∀ items e h, P items e h → forGo turn items e h F
  | [], e, h, p => h0 e h p
  | d :: ds, e, h, p => hs d ds e h p fun e' h' p' => for_rule P h0 hs ds e' h' p'
theorem fg_nil {turn : D → (VE → VH → Prop) → VE → VH → Prop} {F : VE → VH → Prop} {e : VE} {h : VH} (q : F e h) : forGo turn [] e h F := q
theorem fg_cons {turn : D → (VE → VH → Prop) → VE → VH → Prop} {F : VE → VH → Prop} {e : VE} {h : VH} {d : D} {ds : List D} (q : turn d (fun e h => forGo turn ds e h F) e h) : forGo turn (d :: ds) e h F := q
theorem lc_rule {turn : D → VH → (Option D → VH → Prop) → Prop} {F : List D → VH → Prop} (P : List D → VH → List D → Prop) (h0 : ∀ h acc, P [] h acc → F acc h)
    (hs : ∀ d ds h acc, P (d :: ds) h acc → (∀ h' acc', P ds h' acc' → lcGo turn ds h' acc' F) → turn d h fun o h' => match o with
      | some y => acc.length < 16777216 ∧ lcGo turn ds h' (acc ++ [y]) F
      | none => lcGo turn ds h' acc F) : ∀ items h acc, P items h acc → lcGo turn items h acc F
  | [], h, acc, p => h0 h acc p
  | d :: ds, h, acc, p => hs d ds h acc p fun h' acc' p' => lc_rule P h0 hs ds h' acc' p'
/-- what goes on behind a turn of a comprehension -/
@[reducible] def lcK (acc : List D) (k : List D → VH → Prop) : Option D → VH → Prop
  | some y, h => acc.length < 16777216 ∧ k (acc ++ [y]) h
  | none, h => k acc h
theorem lcg_nil {turn : D → VH → (Option D → VH → Prop) → Prop} {F : List D → VH → Prop} {acc : List D} {h : VH} (q : F acc h) : lcGo turn [] h acc F := q
theorem lcg_cons {K : XP} {Φ : Fns} {Γ : Cns} {tg : Tg} {env : VE} {own : List Nat} {cs : List E} {elt : E} {F : List D → VH → Prop} {acc : List D} {h : VH} {d : D} {ds : List D}
    (q : ∃ e2, bindT tg d (wipeE env own) = some e2 ∧ wpTs Φ Γ cs e2 h fun b h3 => ifP b (wpE Φ Γ elt K false e2 h3 fun x e4 h4 => e4 = e2 ∧ lcK acc (fun acc' h' => lcGo (fun d h R => ∃ e2, bindT tg d (wipeE env own) = some e2 ∧ wpTs Φ Γ cs e2 h fun b h3 => ifP b (wpE Φ Γ elt K false e2 h3 fun x e4 h4 => e4 = e2 ∧ R (some x.d) h4) (R none h3)) ds h' acc' F) (some x.d) h4)
      (lcK acc (fun acc' h' => lcGo (fun d h R => ∃ e2, bindT tg d (wipeE env own) = some e2 ∧ wpTs Φ Γ cs e2 h fun b h3 => ifP b (wpE Φ Γ elt K false e2 h3 fun x e4 h4 => e4 = e2 ∧ R (some x.d) h4) (R none h3)) ds h' acc' F) none h3)) :
    lcGo (fun d h R => ∃ e2, bindT tg d (wipeE env own) = some e2 ∧ wpTs Φ Γ cs e2 h fun b h3 => ifP b (wpE Φ Γ elt K false e2 h3 fun x e4 h4 => e4 = e2 ∧ R (some x.d) h4) (R none h3)) (d :: ds) h acc F := q
/-- a comprehension that turns each item into one, and nothing else -/
theorem lc_map {turn : D → VH → (Option D → VH → Prop) → Prop} {F : List D → VH → Prop} (f : D → D) : ∀ (items : List D) (h : VH) (acc : List D), (∀ d, d ∈ items → ∀ R : Option D → VH → Prop, R (some (f d)) h → turn d h R) → acc.length + items.length ≤ 16777216 → F (acc ++ items.map f) h → lcGo turn items h acc F
  | [], h, acc, _, _, q => by
    rw [List.map_nil, List.append_nil] at q
    exact q
  | d :: ds, h, acc, ht, hl, q => by
    rw [List.length_cons] at hl
    refine ht d List.mem_cons_self _ ⟨by omega, lc_map f ds h _ (fun x hx => ht x (List.mem_cons_of_mem _ hx)) (by rw [List.length_append, List.length_singleton]; omega) ?_⟩
    rw [List.append_assoc]
    exact q
end
theorem div_ok {j : Int} (h1 : 0 < j) (h2 : j < 340282366920938463463374607431768211456) : 0 < j ∧ j.natAbs.log2 < 9000 := by
  refine ⟨h1, Nat.lt_trans ((Nat.log2_lt (by omega)).mpr (?_ : j.natAbs < 2 ^ 128)) (by decide)⟩
  have e : (2 : Nat) ^ 128 = 340282366920938463463374607431768211456 := by decide
  rw [e]
  omega
theorem log_ok {i : Int} (h1 : -340282366920938463463374607431768211456 < i) (h2 : i < 340282366920938463463374607431768211456) : i.natAbs.log2 < 1920 := by
  by_cases h0 : i.natAbs = 0
  · rw [h0]
    decide
  refine Nat.lt_trans ((Nat.log2_lt h0).mpr (?_ : i.natAbs < 2 ^ 128)) (by decide)
  have e : (2 : Nat) ^ 128 = 340282366920938463463374607431768211456 := by decide
  rw [e]
  omega
theorem mul_l {i j : Int} (h1 : -18446744073709551616 < i) (h2 : i < 18446744073709551616) : mulOk i j := .inl ⟨h1, h2⟩
theorem mul_r {i j : Int} (h1 : -18446744073709551616 < j) (h2 : j < 18446744073709551616) : mulOk i j := .inr (.inl ⟨h1, h2⟩)
/-! ### what a goal is -/
section
variable {Φ : Fns} {Γ : Cns} {K : XP} {env : VE} {vh : VH}
theorem g_S {s : S} {V : VEnds} (h : wpS Φ Γ s K V env vh) : wpS Φ Γ s K V env vh := h
theorem g_B {s : List S} {V : VEnds} (h : wpB Φ Γ s K V env vh) : wpB Φ Γ s K V env vh := h
theorem g_E {e : E} {Q : QE} (h : wpE Φ Γ e K false env vh Q) : wpE Φ Γ e K false env vh Q := h
theorem g_T {e : E} {Q : QE} (h : wpE Φ Γ e K true env vh Q) : wpE Φ Γ e K true env vh Q := h
theorem g_O {e : E} {w : XP → Bool → VE → VH → QE → Prop} {Q : Op → VE → VH → Prop} (h : asO e w K env vh Q) : asO e w K env vh Q := h
theorem g_L {e : List E} {Q : List D → VE → VH → Prop} (h : wpEs Φ Γ e K env vh Q) : wpEs Φ Γ e K env vh Q := h
theorem g_Os {e : List E} {Q : List Op → VE → VH → Prop} (h : wpOs Φ Γ e K env vh Q) : wpOs Φ Γ e K env vh Q := h
theorem g_Bin {o : Operator} {a b : D} {Q : DV → Prop} (h : wpBin o a b Q) : wpBin o a b Q := h
theorem g_Cmp {o : CmpOp} {a b : D} {Q : Bool → Prop} (h : wpCmp o a b Q) : wpCmp o a b Q := h
theorem g_Blt {f : Bf} {a : List D} {Q : DV → Prop} (h : wpBlt f a Q) : wpBlt f a Q := h
theorem g_P {b : Bool} {p q : Prop} (h : ifP b p q) : ifP b p q := h
theorem g_Ex {A : Type} {P : A → Prop} (h : ∃ x, P x) : ∃ x, P x := h
end
/-! ### promises -/
/-- a promise by its arguments, what is asked ahead, what comes -/
def spec {A : Type} (args : A → List D) (pre : A → VH → Prop) (post : A → VH → DV → VH → Prop) : VSp :=
  ⟨fun ds vh R => ∃ a, ds = args a ∧ pre a vh ∧ ∀ x vh', post a vh x vh' → R (.ok x) vh', fun ds vh R R' f ⟨a, e, p, q⟩ => ⟨a, e, p, fun x vh' h => f _ _ (q x vh' h)⟩⟩
/-- of a def that changes nothing and tells one thing -/
def specF {A : Type} (args : A → List D) (pre : A → Prop) (val : A → DV) : VSp :=
  ⟨fun ds vh R => ∃ a, ds = args a ∧ pre a ∧ R (.ok (val a)) vh, fun ds vh R R' f ⟨a, e, p, q⟩ => ⟨a, e, p, f _ _ q⟩⟩
theorem sat_spec {A : Type} {Φ : Fns} {Γ : Cns} {irs : List S} {N ps : List Str} {args : A → List D} {pre : A → VH → Prop} {post : A → VH → DV → VH → Prop} (hl : ∀ a, (args a).length = ps.length)
    (h : ∀ a vh (R : Out → VH → Prop), pre a vh → (∀ x vh', post a vh x vh' → R (.ok x) vh') → wpB Φ Γ irs (fun c xs _ vh => R (.exc c xs) vh) ⟨fun _ vh => R (.ok (.v .non)) vh, fun x vh => R (.ok x) vh, fun _ _ => False, fun _ _ => False⟩ (startE N (args a)) vh) : Sat Φ Γ irs N ps (spec args pre post) := by
  rintro ds vh R ⟨a, rfl, p, q⟩
  exact ⟨hl a, h a vh R p q⟩
theorem sat_specF {A : Type} {Φ : Fns} {Γ : Cns} {irs : List S} {N ps : List Str} {args : A → List D} {pre : A → Prop} {val : A → DV} (hl : ∀ a, (args a).length = ps.length)
    (h : ∀ a vh (R : Out → VH → Prop), pre a → R (.ok (val a)) vh → wpB Φ Γ irs (fun c xs _ vh => R (.exc c xs) vh) ⟨fun _ vh => R (.ok (.v .non)) vh, fun x vh => R (.ok x) vh, fun _ _ => False, fun _ _ => False⟩ (startE N (args a)) vh) : Sat Φ Γ irs N ps (specF args pre val) := by
  rintro ds vh R ⟨a, rfl, p, q⟩
  exact ⟨hl a, h a vh R p q⟩
theorem call_specF {A : Type} {args : A → List D} {pre : A → Prop} {val : A → DV} {vh : VH} {k : DV → VH → Prop} {kx : Str → List D → VH → Prop} {ds : List D} (a : A) (e : ds = args a) (p : pre a) (q : k (val a) vh) : (specF args pre val).run ds vh (callK k kx) := ⟨a, e, p, q⟩
theorem call_spec {A : Type} {args : A → List D} {pre : A → VH → Prop} {post : A → VH → DV → VH → Prop} {vh : VH} {k : DV → VH → Prop} {kx : Str → List D → VH → Prop} {ds : List D} (a : A) (e : ds = args a) (p : pre a vh) (q : ∀ x vh', post a vh x vh' → k x vh') : (spec args pre post).run ds vh (callK k kx) := ⟨a, e, p, q⟩
/-- of a def that changes nothing and ends in one way -/
def specE {A : Type} (args : A → List D) (pre : A → Prop) (out : A → Out) : VSp :=
  ⟨fun ds vh R => ∃ a, ds = args a ∧ pre a ∧ R (out a) vh, fun ds vh R R' f ⟨a, e, p, q⟩ => ⟨a, e, p, f _ _ q⟩⟩
theorem sat_specE {A : Type} {Φ : Fns} {Γ : Cns} {irs : List S} {N ps : List Str} {args : A → List D} {pre : A → Prop} {out : A → Out} (hl : ∀ a, (args a).length = ps.length)
    (h : ∀ a vh (R : Out → VH → Prop), pre a → R (out a) vh → wpB Φ Γ irs (fun c xs _ vh => R (.exc c xs) vh) ⟨fun _ vh => R (.ok (.v .non)) vh, fun x vh => R (.ok x) vh, fun _ _ => False, fun _ _ => False⟩ (startE N (args a)) vh) : Sat Φ Γ irs N ps (specE args pre out) := by
  rintro ds vh R ⟨a, rfl, p, q⟩
  exact ⟨hl a, h a vh R p q⟩
theorem call_specE {A : Type} {args : A → List D} {pre : A → Prop} {out : A → Out} {vh : VH} {k : DV → VH → Prop} {kx : Str → List D → VH → Prop} {ds : List D} (a : A) (e : ds = args a) (p : pre a) (q : callK k kx (out a) vh) : (specE args pre out).run ds vh (callK k kx) := ⟨a, e, p, q⟩
/-! ### shared lists -/
theorem ld_ref {env : VE} {vh : VH} {i n : Nat} {xs : List D} (h1 : env[i]? = some (.val (.ref n))) (h2 : vh[n]? = some (.lst xs)) : (Op.slt i).ld env vh = some (.lst xs) := by
  unfold Op.ld
  dsimp only
  rw [h1]
  dsimp only [Slot.ld]
  unfold deref
  dsimp only
  rw [h2]
theorem ld_refD {env : VE} {vh : VH} {n : Nat} {xs : List D} (h2 : vh[n]? = some (.lst xs)) : (Op.dat (.ref n)).ld env vh = some (.lst xs) := by
  unfold Op.ld
  dsimp only
  unfold deref
  dsimp only
  rw [h2]
def noRef : D → Bool
  | .ref _ => false
  | _ => true
theorem deref_nr {vh : VH} {d : D} (h : noRef d = true) : deref vh d = some d := by
  cases d <;> first | rfl | cases h
theorem ld_nr {env : VE} {vh : VH} {d : D} (h : noRef d = true) : (Op.dat d).ld env vh = some d := deref_nr h
theorem ld_nrS {env : VE} {vh : VH} {i : Nat} {d : D} (h1 : env[i]? = some (.val d)) (h : noRef d = true) : (Op.slt i).ld env vh = some d := by
  unfold Op.ld
  dsimp only
  rw [h1]
  exact deref_nr h
theorem w_set {env : VE} {vh : VH} {i n m : Nat} {j : Int} {x : D} {xs : List D} {Q : VE → VH → Prop} (h1 : env[i]? = some (.val (.ref n))) (h2 : vh[n]? = some (.lst xs)) (hi : ixN xs.length j = some m)
    (q : ∀ vh' : VH, vh'[n]? = some (.lst (xs.set m x)) → (∀ o, vh'.set n o = vh.set n o) → Q env vh') : wpSet (.slt i) (.int j) x env vh Q := by
  unfold wpSet
  dsimp only
  rw [h1]
  dsimp only
  unfold setSh
  rw [h2]
  have hn : n < vh.length := (List.getElem?_eq_some_iff.mp h2).1
  exact ⟨m, hi, q _ (by rw [List.getElem?_set_self hn]) fun o => by rw [List.set_set]⟩
theorem set_same {vh : VH} {n : Nat} {o : VO} (h : vh[n]? = some o) : vh.set n o = vh := by
  obtain ⟨hn, e⟩ := List.getElem?_eq_some_iff.mp h
  rw [← e]
  exact List.set_getElem_self hn
theorem set_eq {vh vh2 : VH} {n : Nat} {o : VO} (g1 : vh2[n]? = some o) (g2 : ∀ o, vh2.set n o = vh.set n o) : vh2 = vh.set n o := by rw [← g2, set_same g1]
theorem atI_ok {xs : List D} {i : Int} (h0 : 0 ≤ i) (h1 : i < xs.length) : ∃ d, atI xs i = some d ∧ d ∈ xs := by
  have hi : i.toNat < xs.length := by omega
  refine ⟨xs[i.toNat], ?_, List.getElem_mem hi⟩
  unfold atI ixN
  rw [if_pos h0, if_pos h1]
  simp [hi]
theorem atI_int {xs : List Int} {i : Int} (h0 : 0 ≤ i) (h1 : i < xs.length) : ∃ c, atI (xs.map D.int) i = some (.int c) ∧ c ∈ xs := by
  obtain ⟨d, h, hm⟩ := atI_ok (xs := xs.map D.int) h0 (by rw [List.length_map]; exact h1)
  obtain ⟨c, hc, rfl⟩ := List.mem_map.mp hm
  exact ⟨c, h, hc⟩
theorem items_r1 {n : Int} (h1 : 0 ≤ n) (h2 : n < 1000000) : itemsD .rng1 [.int n] = some ((List.range n.toNat).map fun (i : Nat) => D.int (i : Int)) := by
  have e : (2 : Int) ^ 62 = 4611686018427387904 := by decide
  show (if -(2 ^ 62) ≤ n ∧ n < 2 ^ 62 then _ else none) = _
  rw [e, if_pos (by omega)]
theorem items_r2 {a b : Int} (h1 : -1000000 < a) (h2 : a < 1000000) (h3 : -1000000 < b) (h4 : b < 1000000) : itemsD .rng2 [.int a, .int b] = some ((List.range (b - a).toNat).map fun (i : Nat) => D.int (a + (i : Int))) := by
  have e : (2 : Int) ^ 62 = 4611686018427387904 := by decide
  show (if -(2 ^ 62) ≤ a ∧ a < 2 ^ 62 ∧ -(2 ^ 62) ≤ b ∧ b < 2 ^ 62 then _ else none) = _
  rw [e, if_pos (by omega)]
theorem items_r3 {a b : Int} (h1 : -1000000 < a) (h2 : a < 1000000) (h3 : -1000000 < b) (h4 : b < 1000000) : itemsD .rng3 [.int a, .int b, .int (-1)] = some ((List.range (a - b).toNat).map fun (i : Nat) => D.int (a - (i : Int))) := by
  have e : (2 : Int) ^ 62 = 4611686018427387904 := by decide
  show (if (-1 : Int) = -1 ∧ -(2 ^ 62) ≤ a ∧ a < 2 ^ 62 ∧ -(2 ^ 62) ≤ b ∧ b < 2 ^ 62 then _ else none) = _
  rw [e, if_pos (by omega)]
theorem ex_r1 {n : Int} {F : List D → Prop} (h1 : 0 ≤ n) (h2 : n < 1000000) (h : F ((List.range n.toNat).map fun (i : Nat) => D.int (i : Int))) : ∃ items, itemsD .rng1 [.int n] = some items ∧ F items := ⟨_, items_r1 h1 h2, h⟩
theorem ex_r2 {a b : Int} {F : List D → Prop} (h1 : -1000000 < a) (h2 : a < 1000000) (h3 : -1000000 < b) (h4 : b < 1000000) (h : F ((List.range (b - a).toNat).map fun (i : Nat) => D.int (a + (i : Int)))) : ∃ items, itemsD .rng2 [.int a, .int b] = some items ∧ F items := ⟨_, items_r2 h1 h2 h3 h4, h⟩
theorem ex_r3 {a b : Int} {F : List D → Prop} (h1 : -1000000 < a) (h2 : a < 1000000) (h3 : -1000000 < b) (h4 : b < 1000000) (h : F ((List.range (a - b).toNat).map fun (i : Nat) => D.int (a - (i : Int)))) : ∃ items, itemsD .rng3 [.int a, .int b, .int (-1)] = some items ∧ F items := ⟨_, items_r3 h1 h2 h3 h4, h⟩
/-- all is as it was but the n-th -/
def Fx (n : Nat) (vh vh' : VH) : Prop := vh'.length = vh.length ∧ ∀ j, j ≠ n → vh'[j]? = vh[j]?
theorem fx_set {n : Nat} {vh : VH} {o : VO} : Fx n vh (vh.set n o) := ⟨List.length_set, fun j h => List.getElem?_set_ne (Ne.symm h)⟩
theorem get_set {n : Nat} {vh : VH} {o u : VO} (h : vh[n]? = some u) : (vh.set n o)[n]? = some o := List.getElem?_set_self (List.getElem?_eq_some_iff.mp h).1
theorem df_none {P : Program} {w : World} {K : PySem.W.Frag} {mg : Str → Option Value} {base : Heap} {G : Wd} {k : Nat} {x : Str} {st : Stmt} {f : Addr} {fd : FuncData} {ps : List Str} {sp : VSp} (F : Fun K x x st f fd) (hm : mg x = some (.ref f)) (b : Binds K fd ps []) (hdb : (x == ("__debug__" : Str)) = false) (h : ∀ ds vh R, ¬ sp.run ds vh R) : Df P w K mg base G k x sp :=
  ⟨f, fd, ps, hm, F.kp, b, ⟨fun vs H Q E ⟨_, _, _, _, _, _, z⟩ => (h _ _ _ z).elim, fun A outer s H args us vs Q E hr e0 hb r ⟨_, _, _, _, _, _, z⟩ => (h _ _ _ z).elim⟩, hdb⟩
def none_sp : VSp := ⟨fun _ _ _ => False, fun _ _ _ _ _ h => h⟩
/-! ### equal data -/
mutual
theorem eqD_refl : ∀ (n : Nat) (d : D), okD n d = true → eqD d d = true
  | n, .non, _ => by unfold eqD; rfl
  | n, .bl b, _ => by unfold eqD; simp
  | n, .int i, _ => by unfold eqD; simp
  | n, .str x, _ => by unfold eqD; simp
  | 0, .lst xs, h => by unfold okD at h; cases h
  | 0, .tup xs, h => by unfold okD at h; cases h
  | n + 1, .lst xs, h => by unfold okD at h; unfold eqD; exact eqDs_refl n xs h
  | n + 1, .tup xs, h => by unfold okD at h; unfold eqD; exact eqDs_refl n xs h
  | n, .ty _, h => by cases n <;> (unfold okD at h; cases h)
  | n, .adr _, h => by cases n <;> (unfold okD at h; cases h)
  | n, .dct _ _, h => by cases n <;> (unfold okD at h; cases h)
  | n, .obj _ _ _, h => by cases n <;> (unfold okD at h; cases h)
  | n, .ref _, h => by cases n <;> (unfold okD at h; cases h)
  | n, .scr _, h => by cases n <;> (unfold okD at h; cases h)
theorem eqDs_refl : ∀ (n : Nat) (ds : List D), okDs n ds = true → eqDs ds ds = true
  | n, [], _ => by unfold eqDs; rfl
  | n, d :: ds, h => by
    unfold okDs at h
    rw [Bool.and_eq_true] at h
    unfold eqDs
    rw [eqD_refl n d h.1, eqDs_refl n ds h.2]
    rfl
end
theorem okDs_ints {n : Nat} : ∀ xs : List Int, okDs n (xs.map D.int) = true
  | [] => by unfold okDs; rfl
  | x :: xs => by
    rw [List.map_cons]
    unfold okDs
    rw [okDs_ints xs]
    cases n <;> (unfold okD; rfl)
theorem eqDs_ints : ∀ xs ys : List Int, eqDs (xs.map D.int) (ys.map D.int) = decide (xs = ys)
  | [], [] => by unfold eqDs; rfl
  | [], y :: ys => by unfold eqDs; rfl
  | x :: xs, [] => by unfold eqDs; rfl
  | x :: xs, y :: ys => by
    rw [List.map_cons, List.map_cons]
    unfold eqDs
    rw [eqDs_ints xs ys]
    unfold eqD
    by_cases q : x = y <;> by_cases r : xs = ys <;> simp [q, r]
theorem okD_tupI {n : Nat} {xs : List Int} : okD (n + 1) (.tup (xs.map D.int)) = true := by unfold okD; exact okDs_ints xs
theorem okD_lstI {n : Nat} {xs : List Int} : okD (n + 1) (.lst (xs.map D.int)) = true := by unfold okD; exact okDs_ints xs
theorem eqD_tupI {xs ys : List Int} : eqD (.tup (xs.map D.int)) (.tup (ys.map D.int)) = decide (xs = ys) := by unfold eqD; exact eqDs_ints xs ys
theorem cut_take {α : Type} {xs : List α} {v : Int} (h : 0 ≤ v) : cutL xs none (some v) = xs.take v.toNat := by
  unfold cutL HT.sIx
  dsimp only
  rw [if_neg (by omega), List.drop_zero, Nat.sub_zero, List.take_eq_take_iff]
  omega
theorem cut_takeN {α : Type} {xs : List α} {v : Int} (h : v < 0) : cutL xs none (some v) = xs.take (xs.length - (-v).toNat) := by
  unfold cutL HT.sIx
  dsimp only
  rw [if_pos h, List.drop_zero, Nat.sub_zero, List.take_eq_take_iff]
  omega
theorem cut_drop {α : Type} {xs : List α} {v : Int} (h : 0 ≤ v) : cutL xs (some v) none = xs.drop v.toNat := by
  unfold cutL HT.sIx
  dsimp only
  rw [if_neg (by omega)]
  by_cases q : v.toNat ≤ xs.length
  · rw [Nat.min_eq_left q, List.take_of_length_le]
    rw [List.length_drop]
    exact Nat.le_refl _
  · rw [Nat.min_eq_right (by omega), Nat.sub_self, List.take_zero, List.drop_eq_nil_of_le (by omega)]
theorem cutL_len {α : Type} {xs : List α} {lo hi : Option Int} : (cutL xs lo hi).length ≤ xs.length := by
  unfold cutL
  rw [List.length_take, List.length_drop]
  omega
theorem cutL_mem {α : Type} {xs : List α} {lo hi : Option Int} {x : α} (h : x ∈ cutL xs lo hi) : x ∈ xs := List.mem_of_mem_drop (List.mem_of_mem_take h)
theorem cutL_map {α β : Type} (f : α → β) (xs : List α) (lo hi : Option Int) : cutL (xs.map f) lo hi = (cutL xs lo hi).map f := by
  unfold cutL
  rw [List.length_map, ← List.map_drop, ← List.map_take]
end R

namespace L_k25
open PySem PySem.Spec PyProof.Rows L2 R
def top (i : Nat) : Stmt := PySem.Challenge.pw_swornworlds_k25_whole_changes_of_rows.main.body.getD i (.Pass ⟨0, 0, 0, 0⟩)
def tb : List (Str × List Str × List Str) := [("NoRow", [], ["NoRow", "WorldError", "ValueError", "Exception", "BaseException", "object"]), ("BadChange", ["place"], ["BadChange", "WorldError", "ValueError", "Exception", "BaseException", "object"])]
def hs : List Str := ["BadChange", "WorldError"]
abbrev st_is_integer : Stmt := top 5
def tc_is_integer : Tc := ⟨["thing"], [], [], [], tb, hs⟩
def ir_is_integer : List S := [.ret (.and (.isi (.bor 0) ["int"]) (.not (.isi (.bor 0) ["bool"])))]
theorem tr_is_integer : eqO (trB tc_is_integer 60 (defScope st_is_integer) 100 (defBody st_is_integer)) ir_is_integer = true := by decide +kernel
theorem sc_is_integer : defB tc_is_integer.N ["thing"] (defScope st_is_integer) = true := by decide +kernel
abbrev st_is_within : Stmt := top 6
def tc_is_within : Tc := ⟨["thing", "least", "most"], ["is_integer"], [], [], tb, hs⟩
def ir_is_within : List S := [.ret (.and (.call "is_integer" [(.var 0)]) (.chain .LtE .LtE (.bor 1) (.bor 0) (.bor 2)))]
theorem tr_is_within : eqO (trB tc_is_within 60 (defScope st_is_within) 100 (defBody st_is_within)) ir_is_within = true := by decide +kernel
theorem sc_is_within : defB tc_is_within.N ["thing", "least", "most"] (defScope st_is_within) = true := by decide +kernel
abbrev st_is_below : Stmt := top 7
def tc_is_below : Tc := ⟨["thing", "many"], ["is_within"], [], [], tb, hs⟩
def ir_is_below : List S := [.ret (.call "is_within" [(.var 0), (.int 0), (.bin .Sub (.bor 1) (.int 1))])]
theorem tr_is_below : eqO (trB tc_is_below 60 (defScope st_is_below) 100 (defBody st_is_below)) ir_is_below = true := by decide +kernel
theorem sc_is_below : defB tc_is_below.N ["thing", "many"] (defScope st_is_below) = true := by decide +kernel
abbrev st_is_row : Stmt := top 14
def tc_is_row : Tc := ⟨["thing", ".0", "item"], ["is_below"], [], [], tb, hs⟩
def ir_is_row : List S := [.ret (.and (.isi (.bor 0) ["tuple"]) (.and (.cmp .LtE (.blt .len [(.bor 0)]) (.glo "MOST_BYTES")) (.blt .all [(.lc (.call "is_below" [(.var 2), (.glo "BYTE")]) (.one 2) [1, 2] .seq [(.var 0)] [])])))]
theorem tr_is_row : eqO (trB tc_is_row 60 (defScope st_is_row) 100 (defBody st_is_row)) ir_is_row = true := by decide +kernel
theorem sc_is_row : defB tc_is_row.N ["thing"] (defScope st_is_row) = true := by decide +kernel
abbrev st_check_row : Stmt := top 15
def tc_check_row : Tc := ⟨["thing"], ["is_row"], [], [], tb, hs⟩
def ir_check_row : List S := [.cond (.not (.call "is_row" [(.var 0)])) [.raise "NoRow" []] []]
theorem tr_check_row : eqO (trB tc_check_row 60 (defScope st_check_row) 100 (defBody st_check_row)) ir_check_row = true := by decide +kernel
theorem sc_check_row : defB tc_check_row.N ["thing"] (defScope st_check_row) = true := by decide +kernel
abbrev st_figures_of : Stmt := top 16
def tc_figures_of : Tc := ⟨["number", "found", "left"], [], ["found"], [], tb, hs⟩
def ir_figures_of : List S := [.setO 1 (.lst []), .set 2 (.var 0), .whl (.cmp .GtE (.bor 2) (.glo "FIGURE")) [.app (.bor 1) (.bin .Add (.bin .Mod (.bor 2) (.glo "FIGURE")) (.glo "FIGURE")), .set 2 (.bin .FloorDiv (.bor 2) (.glo "FIGURE"))], .ret (.bin .Add (.blt .tuple [(.bor 1)]) (.tup [(.var 2)]))]
theorem tr_figures_of : eqO (trB tc_figures_of 60 (defScope st_figures_of) 100 (defBody st_figures_of)) ir_figures_of = true := by decide +kernel
theorem sc_figures_of : defB tc_figures_of.N ["number"] (defScope st_figures_of) = true := by decide +kernel
abbrev st_number_at : Stmt := top 17
def tc_number_at : Tc := ⟨["row", "at", "found", "worth", "place", "is_needless"], [], [], [], tb, hs⟩
def ir_number_at : List S := [.set 2 (.int 0), .set 3 (.int 1), .forS (.one 4) .rng2 [(.var 1), (.blt .min2 [(.blt .len [(.bor 0)]), (.bin .Add (.bor 1) (.glo "MOST_FIGURES"))])] [.aug 2 .Add (.bin .Mult (.bin .Mod (.idx (.bor 0) (.bor 4)) (.glo "FIGURE")) (.bor 3)), .set 3 (.bin .Mult (.bor 3) (.glo "FIGURE")), .cond (.cmp .Lt (.idx (.bor 0) (.bor 4)) (.glo "FIGURE")) [.set 5 (.and (.cmp .Eq (.idx (.bor 0) (.bor 4)) (.int 0)) (.cmp .Gt (.bor 4) (.bor 1))), .ret (.ite (.or (.bor 5) (.cmp .GtE (.bor 2) (.glo "WHOLE_BOUND"))) .non (.tup [(.var 2), (.bin .Add (.bor 4) (.int 1))]))] []], .ret .non]
theorem tr_number_at : eqO (trB tc_number_at 60 (defScope st_number_at) 100 (defBody st_number_at)) ir_number_at = true := by decide +kernel
theorem sc_number_at : defB tc_number_at.N ["row", "at"] (defScope st_number_at) = true := by decide +kernel
abbrev st_part_at : Stmt := top 23
def tc_part_at : Tc := ⟨["change", "at", "found", "number", "behind", "kind", "many"], ["number_at"], [], [], tb, hs⟩
def ir_part_at : List S := [.set 2 (.call "number_at" [(.var 0), (.var 1)]), .cond (.cmp .Is (.bor 2) .non) [.ret .non] [], .unp [3, 4] (.var 2), .par 5 6 (.bin .Mod (.bor 3) (.int 3)) (.bin .FloorDiv (.bor 3) (.int 3)), .cond (.or (.cmp .Eq (.bor 6) (.int 0)) (.and (.cmp .Eq (.bor 5) (.glo "PUT_IN")) (.cmp .Gt (.bin .Add (.bor 4) (.bor 6)) (.blt .len [(.bor 0)])))) [.ret .non] [], .ret (.tup [(.var 5), (.var 6), (.var 4)])]
theorem tr_part_at : eqO (trB tc_part_at 60 (defScope st_part_at) 100 (defBody st_part_at)) ir_part_at = true := by decide +kernel
theorem sc_part_at : defB tc_part_at.N ["change", "at"] (defScope st_part_at) = true := by decide +kernel
abbrev st_changed_or_wrong : Stmt := top 24
def tc_changed_or_wrong : Tc := ⟨["one", "change", "found", "here", "at", "part", "kind", "many", "behind"], ["part_at"], ["found"], [], tb, hs⟩
def ir_changed_or_wrong : List S := [.setO 2 (.lst []), .set 3 (.int 0), .set 4 (.int 0), .whl (.cmp .Lt (.bor 4) (.blt .len [(.bor 1)])) [.set 5 (.call "part_at" [(.var 1), (.var 4)]), .cond (.or (.cmp .Is (.bor 5) .non) (.and (.cmp .NotEq (.idx (.bor 5) (.int 0)) (.glo "PUT_IN")) (.cmp .Gt (.bin .Add (.bor 3) (.idx (.bor 5) (.int 1))) (.blt .len [(.bor 0)])))) [.ret (.tup [.non, (.var 4)])] [], .unp [6, 7, 8] (.var 5), .cond (.cmp .Eq (.bor 6) (.glo "KEPT")) [.ext (.bor 2) (.sli (.bor 0) (.var 3) (.bin .Add (.bor 3) (.bor 7)))] [], .cond (.cmp .Eq (.bor 6) (.glo "PUT_IN")) [.ext (.bor 2) (.sli (.bor 1) (.var 8) (.bin .Add (.bor 8) (.bor 7))), .aug 8 .Add (.var 7)] [.aug 3 .Add (.var 7)], .set 4 (.var 8)], .ret (.tup [(.blt .tuple [(.bor 2)]), .non])]
theorem tr_changed_or_wrong : eqO (trB tc_changed_or_wrong 60 (defScope st_changed_or_wrong) 100 (defBody st_changed_or_wrong)) ir_changed_or_wrong = true := by decide +kernel
theorem sc_changed_or_wrong : defB tc_changed_or_wrong.N ["one", "change"] (defScope st_changed_or_wrong) = true := by decide +kernel
abbrev st_changed : Stmt := top 25
def tc_changed : Tc := ⟨["one", "change", "found", "wrong"], ["check_row", "changed_or_wrong"], [], [], tb, hs⟩
def ir_changed : List S := [.expr (.call "check_row" [(.var 0)]), .expr (.call "check_row" [(.var 1)]), .unp [2, 3] (.call "changed_or_wrong" [(.var 0), (.var 1)]), .cond (.cmp .IsNot (.bor 3) .non) [.raise "BadChange" [(.var 3)]] [], .ret (.var 2)]
theorem tr_changed : eqO (trB tc_changed 60 (defScope st_changed) 100 (defBody st_changed)) ir_changed = true := by decide +kernel
theorem sc_changed : defB tc_changed.N ["one", "change"] (defScope st_changed) = true := by decide +kernel
abbrev st_common_begin : Stmt := top 26
def tc_common_begin : Tc := ⟨["one", "other", "many"], [], [], [], tb, hs⟩
def ir_common_begin : List S := [.set 2 (.int 0), .whl (.and (.cmp .Lt (.bor 2) (.blt .min2 [(.blt .len [(.bor 0)]), (.blt .len [(.bor 1)])])) (.cmp .Eq (.idx (.bor 0) (.bor 2)) (.idx (.bor 1) (.bor 2)))) [.aug 2 .Add (.int 1)], .ret (.var 2)]
theorem tr_common_begin : eqO (trB tc_common_begin 60 (defScope st_common_begin) 100 (defBody st_common_begin)) ir_common_begin = true := by decide +kernel
theorem sc_common_begin : defB tc_common_begin.N ["one", "other"] (defScope st_common_begin) = true := by decide +kernel
abbrev st_common_end : Stmt := top 27
def tc_common_end : Tc := ⟨["one", "other", "most", "many"], [], [], [], tb, hs⟩
def ir_common_end : List S := [.set 3 (.int 0), .whl (.and (.cmp .Lt (.bor 3) (.bor 2)) (.cmp .Eq (.idx (.bor 0) (.bin .Sub (.bin .Sub (.blt .len [(.bor 0)]) (.int 1)) (.bor 3))) (.idx (.bor 1) (.bin .Sub (.bin .Sub (.blt .len [(.bor 1)]) (.int 1)) (.bor 3))))) [.aug 3 .Add (.int 1)], .ret (.var 3)]
theorem tr_common_end : eqO (trB tc_common_end 60 (defScope st_common_end) 100 (defBody st_common_end)) ir_common_end = true := by decide +kernel
theorem sc_common_end : defB tc_common_end.N ["one", "other", "most"] (defScope st_common_end) = true := by decide +kernel
abbrev st_part_row : Stmt := top 28
def tc_part_row : Tc := ⟨["kind", "many"], ["figures_of"], [], [], tb, hs⟩
def ir_part_row : List S := [.ret (.ite (.cmp .Gt (.bor 1) (.int 0)) (.call "figures_of" [(.bin .Add (.bin .Mult (.int 3) (.bor 1)) (.bor 0))]) (.tup []))]
theorem tr_part_row : eqO (trB tc_part_row 60 (defScope st_part_row) 100 (defBody st_part_row)) ir_part_row = true := by decide +kernel
theorem sc_part_row : defB tc_part_row.N ["kind", "many"] (defScope st_part_row) = true := by decide +kernel
abbrev st_change_of : Stmt := top 29
def tc_change_of : Tc := ⟨["one", "other", "begin", "end", "middle", "out", "head"], ["common_begin", "common_end", "part_row"], [], [], tb, hs⟩
def ir_change_of : List S := [.set 2 (.call "common_begin" [(.var 0), (.var 1)]), .set 3 (.call "common_end" [(.var 0), (.var 1), (.bin .Sub (.blt .min2 [(.blt .len [(.bor 0)]), (.blt .len [(.bor 1)])]) (.bor 2))]), .cond (.cmp .Lt (.bor 2) (.glo "LEAST_KEPT")) [.set 2 (.int 0)] [], .cond (.cmp .Lt (.bor 3) (.glo "LEAST_KEPT")) [.set 3 (.int 0)] [], .set 4 (.sli (.bor 1) (.var 2) (.bin .Sub (.blt .len [(.bor 1)]) (.bor 3))), .set 5 (.ite (.cmp .Gt (.bor 3) (.int 0)) (.bin .Sub (.bin .Sub (.blt .len [(.bor 0)]) (.bor 2)) (.bor 3)) (.int 0)), .set 6 (.bin .Add (.call "part_row" [(.glo "KEPT"), (.var 2)]) (.call "part_row" [(.glo "LEFT_OUT"), (.var 5)])), .ret (.bin .Add (.bin .Add (.bin .Add (.bor 6) (.call "part_row" [(.glo "PUT_IN"), (.blt .len [(.bor 4)])])) (.bor 4)) (.call "part_row" [(.glo "KEPT"), (.var 3)]))]
theorem tr_change_of : eqO (trB tc_change_of 60 (defScope st_change_of) 100 (defBody st_change_of)) ir_change_of = true := by decide +kernel
theorem sc_change_of : defB tc_change_of.N ["one", "other"] (defScope st_change_of) = true := by decide +kernel
abbrev st_change : Stmt := top 30
def tc_change : Tc := ⟨["one", "other"], ["check_row", "change_of"], [], [], tb, hs⟩
def ir_change : List S := [.expr (.call "check_row" [(.var 0)]), .expr (.call "check_row" [(.var 1)]), .ret (.call "change_of" [(.var 0), (.var 1)])]
theorem tr_change : eqO (trB tc_change 60 (defScope st_change) 100 (defBody st_change)) ir_change = true := by decide +kernel
theorem sc_change : defB tc_change.N ["one", "other"] (defScope st_change) = true := by decide +kernel
abbrev st_is_change : Stmt := top 31
def tc_is_change : Tc := ⟨["one", "other", "thing"], ["check_row", "is_row", "changed_or_wrong"], [], [], tb, hs⟩
def ir_is_change : List S := [.expr (.call "check_row" [(.var 0)]), .expr (.call "check_row" [(.var 1)]), .ret (.and (.call "is_row" [(.var 2)]) (.cmp .Eq (.call "changed_or_wrong" [(.var 0), (.var 2)]) (.tup [(.var 1), .non])))]
theorem tr_is_change : eqO (trB tc_is_change 60 (defScope st_is_change) 100 (defBody st_is_change)) ir_is_change = true := by decide +kernel
theorem sc_is_change : defB tc_is_change.N ["one", "other", "thing"] (defScope st_is_change) = true := by decide +kernel
abbrev st__law_hand : Stmt := top 33
def tc__law_hand : Tc := ⟨["script", ".0", "cell"], [], [], [], tb, hs⟩
def ir__law_hand : List S := [.ret (.lst [(.lc (.blt .int [(.bor 2)]) (.one 2) [1, 2] .seq [(.sli (.bor 0) .skip (.int 63))] []), (.int 0), (.int 0), (.bin .Add (.int 1) (.blt .len [(.sli (.bor 0) .skip (.int 63))])), (.int 0)])]
theorem tr__law_hand : eqO (trB tc__law_hand 60 (defScope st__law_hand) 100 (defBody st__law_hand)) ir__law_hand = true := by decide +kernel
theorem sc__law_hand : defB tc__law_hand.N ["script"] (defScope st__law_hand) = true := by decide +kernel
abbrev st__law_draw : Stmt := top 34
def tc__law_draw : Tc := ⟨["hand", "many", "cell", "digit", "number"], [], [], [], tb, hs⟩
def ir__law_draw : List S := [.cond (.and (.cmp .Eq (.idx (.bor 0) (.int 2)) (.int 0)) (.cmp .Lt (.idx (.bor 0) (.int 1)) (.blt .len [(.idx (.bor 0) (.int 0))]))) [.set 2 (.idx (.idx (.bor 0) (.int 0)) (.idx (.bor 0) (.int 1))), .sidx (.bor 0) (.int 1) (.bin .Add (.idx (.bor 0) (.int 1)) (.int 1)), .sidx (.bor 0) (.int 3) (.bin .Mod (.blt .int [(.bin .Add (.bin .Add (.bin .Mult (.idx (.bor 0) (.int 3)) (.int 69621)) (.bin .Mult (.bor 2) (.int 16))) (.int 11))]) (.int 2147483629)), .cond (.cmp .GtE (.bor 2) (.bin .Pow (.int 10) (.int 18))) [.sidx (.bor 0) (.int 2) (.var 2)] []] [], .cond (.cmp .Gt (.idx (.bor 0) (.int 2)) (.int 0)) [.set 3 (.bin .Mod (.blt .int [(.idx (.bor 0) (.int 2))]) (.bor 1)), .sidx (.bor 0) (.int 2) (.bin .FloorDiv (.idx (.bor 0) (.int 2)) (.bor 1)), .ret (.var 3)] [], .sidx (.bor 0) (.int 4) (.bin .Add (.idx (.bor 0) (.int 4)) (.int 1)), .set 4 (.bin .Mod (.blt .int [(.bin .Mult (.blt .int [(.bin .Add (.idx (.bor 0) (.int 3)) (.bin .Mult (.int 7919) (.idx (.bor 0) (.int 4))))]) (.int 48271))]) (.int 2147483647)), .set 4 (.bin .Mod (.blt .int [(.bin .Mult (.bor 4) (.bin .Add (.bin .FloorDiv (.bor 4) (.int 1009)) (.int 69621)))]) (.int 2147483647)), .set 4 (.bin .Mod (.blt .int [(.bin .Mult (.bor 4) (.bin .Add (.bin .FloorDiv (.bor 4) (.int 2003)) (.int 40692)))]) (.int 2147483399)), .ret (.bin .Mod (.blt .int [(.bin .FloorDiv (.bor 4) (.int 16))]) (.bor 1))]
theorem tr__law_draw : eqO (trB tc__law_draw 60 (defScope st__law_draw) 100 (defBody st__law_draw)) ir__law_draw = true := by decide +kernel
theorem sc__law_draw : defB tc__law_draw.N ["hand", "many"] (defScope st__law_draw) = true := by decide +kernel
abbrev st__law_is : Stmt := top 35
def tc__law_is : Tc := ⟨["told", "due", ".0", "one", "two"], ["_law_is"], [], [], tb, hs⟩
def ir__law_is : List S := [.cond (.isi (.bor 1) ["tuple", "list"]) [.cond (.or (.cmp .NotEq (.isi (.bor 0) ["tuple"]) (.isi (.bor 1) ["tuple"])) (.not (.isi (.bor 0) ["tuple", "list"]))) [.ret (.bl false)] [], .ret (.and (.cmp .Eq (.blt .len [(.bor 0)]) (.blt .len [(.bor 1)])) (.blt .all [(.lc (.call "_law_is" [(.var 3), (.var 4)]) (.many [3, 4]) [2, 3, 4] .zip [(.var 0), (.var 1)] [])]))] [], .ret (.and (.cmp .Eq (.isi (.bor 0) ["bool"]) (.isi (.bor 1) ["bool"])) (.cmp .Eq (.bor 0) (.bor 1)))]
theorem tr__law_is : eqO (trB tc__law_is 60 (defScope st__law_is) 100 (defBody st__law_is)) ir__law_is = true := by decide +kernel
theorem sc__law_is : defB tc__law_is.N ["told", "due"] (defScope st__law_is) = true := by decide +kernel
abbrev st__law_deep : Stmt := top 36
def tc__law_deep : Tc := ⟨["hand", "found", "turn"], ["_law_draw"], [], [], tb, hs⟩
def ir__law_deep : List S := [.set 1 (.idx (.lst [.non, (.str "a"), (.neg (.int 1)), (.dct [] [])]) (.call "_law_draw" [(.var 0), (.int 4)])), .forS (.one 2) .rng1 [(.bin .Add (.int 1) (.call "_law_draw" [(.var 0), (.int 30)]))] [.set 1 (.idx (.lst [(.tup [(.var 1)]), (.lst [(.var 1)]), (.sli (.tup [(.var 1), (.var 1)]) .skip (.int 1)), (.dct [(Sum.inl 0)] [(.var 1)])]) (.call "_law_draw" [(.var 0), (.int 4)]))], .ret (.var 1)]
theorem tr__law_deep : eqO (trB tc__law_deep 60 (defScope st__law_deep) 100 (defBody st__law_deep)) ir__law_deep = true := by decide +kernel
theorem sc__law_deep : defB tc__law_deep.N ["hand"] (defScope st__law_deep) = true := by decide +kernel
abbrev st__law_whole : Stmt := top 37
def tc__law_whole : Tc := ⟨["number", "found", "turn"], [], ["found"], [], tb, hs⟩
def ir__law_whole : List S := [.setO 1 (.lst []), .forS (.one 2) .rng1 [(.int 10)] [.cond (.cmp .Lt (.bor 0) (.int 128)) [.brk] [], .app (.bor 1) (.bin .Add (.bin .Mod (.blt .int [(.bor 0)]) (.int 128)) (.int 128)), .set 0 (.bin .FloorDiv (.bor 0) (.int 128))], .ret (.blt .tuple [(.bin .Add (.bor 1) (.lst [(.var 0)]))])]
theorem tr__law_whole : eqO (trB tc__law_whole 60 (defScope st__law_whole) 100 (defBody st__law_whole)) ir__law_whole = true := by decide +kernel
theorem sc__law_whole : defB tc__law_whole.N ["number"] (defScope st__law_whole) = true := by decide +kernel
abbrev st__law_read : Stmt := top 38
def tc__law_read : Tc := ⟨["row", "at", "turn", "number", "place"], [], [], [], tb, hs⟩
def ir__law_read : List S := [.forS (.one 2) .rng1 [(.int 10)] [.cond (.cmp .GtE (.bin .Add (.bor 1) (.bor 2)) (.blt .len [(.bor 0)])) [.ret .non] [], .cond (.cmp .Lt (.idx (.bor 0) (.bin .Add (.bor 1) (.bor 2))) (.int 128)) [.cond (.and (.cmp .Gt (.bor 2) (.int 0)) (.cmp .Eq (.idx (.bor 0) (.bin .Add (.bor 1) (.bor 2))) (.int 0))) [.ret .non] [], .set 3 (.int 0), .forS (.one 4) .rng3 [(.bin .Add (.bor 1) (.bor 2)), (.bin .Sub (.bor 1) (.int 1)), (.neg (.int 1))] [.set 3 (.bin .Add (.bin .Mult (.bor 3) (.int 128)) (.bin .Mod (.blt .int [(.idx (.bor 0) (.bor 4))]) (.int 128)))], .cond (.cmp .GtE (.bor 3) (.bin .Pow (.int 2) (.int 64))) [.ret .non] [], .ret (.tup [(.var 3), (.bin .Add (.bin .Add (.bor 1) (.bor 2)) (.int 1))])] []], .ret .non]
theorem tr__law_read : eqO (trB tc__law_read 60 (defScope st__law_read) 100 (defBody st__law_read)) ir__law_read = true := by decide +kernel
theorem sc__law_read : defB tc__law_read.N ["row", "at"] (defScope st__law_read) = true := by decide +kernel
abbrev st__law_byte : Stmt := top 39
def tc__law_byte : Tc := ⟨["hand"], ["_law_draw"], [], [], tb, hs⟩
def ir__law_byte : List S := [.cond (.cmp .Eq (.call "_law_draw" [(.var 0), (.int 2)]) (.int 0)) [.ret (.idx (.lst [(.int 0), (.int 1), (.int 127), (.int 128), (.int 129), (.int 255)]) (.call "_law_draw" [(.var 0), (.int 6)]))] [], .ret (.call "_law_draw" [(.var 0), (.int 256)])]
theorem tr__law_byte : eqO (trB tc__law_byte 60 (defScope st__law_byte) 100 (defBody st__law_byte)) ir__law_byte = true := by decide +kernel
theorem sc__law_byte : defB tc__law_byte.N ["hand"] (defScope st__law_byte) = true := by decide +kernel
abbrev st__law_bytes : Stmt := top 40
def tc__law_bytes : Tc := ⟨["hand", "most", ".0", "turn"], ["_law_draw", "_law_byte"], [], [], tb, hs⟩
def ir__law_bytes : List S := [.ret (.blt .tuple [(.lc (.call "_law_byte" [(.var 0)]) (.one 3) [2, 3] .rng1 [(.call "_law_draw" [(.var 0), (.bin .Add (.bor 1) (.int 1))])] [])])]
theorem tr__law_bytes : eqO (trB tc__law_bytes 60 (defScope st__law_bytes) 100 (defBody st__law_bytes)) ir__law_bytes = true := by decide +kernel
theorem sc__law_bytes : defB tc__law_bytes.N ["hand", "most"] (defScope st__law_bytes) = true := by decide +kernel
abbrev st__law_spoilt : Stmt := top 41
def tc__law_spoilt : Tc := ⟨["hand", "row", "kind", "at"], ["_law_draw", "_law_byte", "_law_bytes"], [], [], tb, hs⟩
def ir__law_spoilt : List S := [.set 2 (.call "_law_draw" [(.var 0), (.int 5)]), .set 3 (.call "_law_draw" [(.var 0), (.bin .Add (.blt .len [(.bor 1)]) (.int 1))]), .cond (.cmp .Eq (.bor 2) (.int 0)) [.ret (.bin .Add (.bin .Add (.sli (.bor 1) .skip (.var 3)) (.tup [(.call "_law_byte" [(.var 0)])])) (.sli (.bor 1) (.bin .Add (.bor 3) (.int 1)) .skip))] [], .cond (.cmp .Eq (.bor 2) (.int 1)) [.ret (.bin .Add (.bin .Add (.sli (.bor 1) .skip (.var 3)) (.tup [(.call "_law_byte" [(.var 0)])])) (.sli (.bor 1) (.var 3) .skip))] [], .cond (.cmp .Eq (.bor 2) (.int 2)) [.ret (.bin .Add (.sli (.bor 1) .skip (.var 3)) (.sli (.bor 1) (.bin .Add (.bor 3) (.int 1)) .skip))] [], .cond (.cmp .Eq (.bor 2) (.int 3)) [.ret (.sli (.bor 1) .skip (.var 3))] [], .ret (.bin .Add (.bor 1) (.call "_law_bytes" [(.var 0), (.int 4)]))]
theorem tr__law_spoilt : eqO (trB tc__law_spoilt 60 (defScope st__law_spoilt) 100 (defBody st__law_spoilt)) ir__law_spoilt = true := by decide +kernel
theorem sc__law_spoilt : defB tc__law_spoilt.N ["hand", "row"] (defScope st__law_spoilt) = true := by decide +kernel
abbrev st__law_become : Stmt := top 42
def tc__law_become : Tc := ⟨["one", "some", "found", "here", "at", "turn", "part", "many", "kind"], ["_law_read"], ["found"], [], tb, hs⟩
def ir__law_become : List S := [.setO 2 (.lst []), .set 3 (.int 0), .set 4 (.int 0), .forS (.one 5) .rng1 [(.bin .Add (.blt .len [(.bor 1)]) (.int 1))] [.cond (.cmp .Eq (.bor 4) (.blt .len [(.bor 1)])) [.ret (.tup [(.blt .tuple [(.bor 2)]), (.neg (.int 1))])] [], .set 6 (.call "_law_read" [(.var 1), (.var 4)]), .cond (.or (.cmp .Is (.bor 6) .non) (.cmp .Lt (.idx (.bor 6) (.int 0)) (.int 3))) [.ret (.tup [.non, (.var 4)])] [], .set 7 (.bin .FloorDiv (.idx (.bor 6) (.int 0)) (.int 3)), .set 8 (.bin .Mod (.blt .int [(.idx (.bor 6) (.int 0))]) (.int 3)), .cond (.cmp .Eq (.bor 8) (.int 2)) [.cond (.cmp .Gt (.bin .Add (.idx (.bor 6) (.int 1)) (.bor 7)) (.blt .len [(.bor 1)])) [.ret (.tup [.non, (.var 4)])] [], .ext (.bor 2) (.sli (.bor 1) (.idx (.bor 6) (.int 1)) (.bin .Add (.idx (.bor 6) (.int 1)) (.bor 7))), .set 4 (.bin .Add (.idx (.bor 6) (.int 1)) (.bor 7))] [.cond (.cmp .Gt (.bin .Add (.bor 3) (.bor 7)) (.blt .len [(.bor 0)])) [.ret (.tup [.non, (.var 4)])] [], .cond (.cmp .Eq (.bor 8) (.int 0)) [.ext (.bor 2) (.sli (.bor 0) (.var 3) (.bin .Add (.bor 3) (.bor 7)))] [], .set 3 (.bin .Add (.bor 3) (.bor 7)), .set 4 (.idx (.bor 6) (.int 1))]], .ret (.tup [.non, (.var 4)])]
theorem tr__law_become : eqO (trB tc__law_become 60 (defScope st__law_become) 100 (defBody st__law_become)) ir__law_become = true := by decide +kernel
theorem sc__law_become : defB tc__law_become.N ["one", "some"] (defScope st__law_become) = true := by decide +kernel
abbrev st__law_changed_told : Stmt := top 43
def tc__law_changed_told : Tc := ⟨["one", "some", "error"], ["changed"], [], [], tb, hs⟩
def ir__law_changed_told : List S := [.tryS tb [.ret (.tup [(.str "told"), (.call "changed" [(.var 0), (.var 1)])])] [("BadChange", some 2), ("WorldError", none)] [[.ret (.tup [(.str "bad"), (.attr (.bor 2) "place")])], [.ret (.tup [(.str "other"), (.int 0)])]]]
theorem tr__law_changed_told : eqO (trB tc__law_changed_told 60 (defScope st__law_changed_told) 100 (defBody st__law_changed_told)) ir__law_changed_told = true := by decide +kernel
theorem sc__law_changed_told : defB tc__law_changed_told.N ["one", "some"] (defScope st__law_changed_told) = true := by decide +kernel
abbrev st__law_is_told : Stmt := top 44
def tc__law_is_told : Tc := ⟨["one", "other", "some", "due", "place", "told"], ["_law_become", "_law_changed_told", "_law_is", "is_change"], [], [], tb, hs⟩
def ir__law_is_told : List S := [.unp [3, 4] (.call "_law_become" [(.var 0), (.var 2)]), .set 5 (.call "_law_changed_told" [(.var 0), (.var 2)]), .cond (.cmp .Is (.bor 3) .non) [.cond (.not (.call "_law_is" [(.var 5), (.tup [(.str "bad"), (.var 4)])])) [.ret (.bl false)] []] [.cond (.not (.call "_law_is" [(.var 5), (.tup [(.str "told"), (.var 3)])])) [.ret (.bl false)] []], .ret (.call "_law_is" [(.call "is_change" [(.var 0), (.var 1), (.var 2)]), (.and (.cmp .IsNot (.bor 3) .non) (.cmp .Eq (.bor 3) (.bor 1)))])]
theorem tr__law_is_told : eqO (trB tc__law_is_told 60 (defScope st__law_is_told) 100 (defBody st__law_is_told)) ir__law_is_told = true := by decide +kernel
theorem sc__law_is_told : defB tc__law_is_told.N ["one", "other", "some"] (defScope st__law_is_told) = true := by decide +kernel
abbrev st__law_drawn_change : Stmt := top 45
def tc__law_drawn_change : Tc := ⟨["hand", "one", "found", "here", "turn", "kind", "some", "many", ".0", "place"], ["_law_draw", "_law_whole", "_law_byte"], [], [], tb, hs⟩
def ir__law_drawn_change : List S := [.set 2 (.tup []), .set 3 (.int 0), .forS (.one 4) .rng1 [(.call "_law_draw" [(.var 0), (.int 9)])] [.set 5 (.call "_law_draw" [(.var 0), (.int 3)]), .cond (.cmp .Eq (.bor 5) (.int 2)) [.set 6 (.blt .tuple [(.lc (.call "_law_byte" [(.var 0)]) (.one 9) [8, 9] .rng1 [(.bin .Add (.int 1) (.call "_law_draw" [(.var 0), (.int 50)]))] [])]), .set 2 (.bin .Add (.bin .Add (.bor 2) (.call "_law_whole" [(.bin .Add (.bin .Mult (.int 3) (.blt .len [(.bor 6)])) (.int 2))])) (.bor 6))] [.set 7 (.call "_law_draw" [(.var 0), (.bin .Add (.bin .Sub (.blt .len [(.bor 1)]) (.bor 3)) (.int 1))]), .cond (.cmp .Eq (.call "_law_draw" [(.var 0), (.int 8)]) (.int 0)) [.set 7 (.idx (.lst [(.int 0), (.bin .Add (.bin .Sub (.blt .len [(.bor 1)]) (.bor 3)) (.int 1)), (.bin .Pow (.int 2) (.int 61))]) (.call "_law_draw" [(.var 0), (.int 3)]))] [], .cond (.or (.cmp .Gt (.bor 7) (.int 0)) (.cmp .Eq (.call "_law_draw" [(.var 0), (.int 8)]) (.int 0))) [.set 2 (.bin .Add (.bor 2) (.call "_law_whole" [(.bin .Add (.bin .Mult (.int 3) (.bor 7)) (.bor 5))]))] [], .set 3 (.blt .min2 [(.blt .len [(.bor 1)]), (.bin .Add (.bor 3) (.bor 7))])]], .ret (.var 2)]
theorem tr__law_drawn_change : eqO (trB tc__law_drawn_change 60 (defScope st__law_drawn_change) 100 (defBody st__law_drawn_change)) ir__law_drawn_change = true := by decide +kernel
theorem sc__law_drawn_change : defB tc__law_drawn_change.N ["hand", "one"] (defScope st__law_drawn_change) = true := by decide +kernel
abbrev st__law_spliced : Stmt := top 46
def tc__law_spliced : Tc := ⟨["hand", "row", "turn", "begin", "end"], ["_law_draw", "_law_bytes"], [], [], tb, hs⟩
def ir__law_spliced : List S := [.forS (.one 2) .rng1 [(.call "_law_draw" [(.var 0), (.int 4)])] [.set 3 (.call "_law_draw" [(.var 0), (.bin .Add (.blt .len [(.bor 1)]) (.int 1))]), .set 4 (.bin .Add (.bor 3) (.call "_law_draw" [(.var 0), (.bin .Add (.blt .min2 [(.int 20), (.bin .Sub (.blt .len [(.bor 1)]) (.bor 3))]) (.int 1))])), .set 1 (.bin .Add (.bin .Add (.sli (.bor 1) .skip (.var 3)) (.call "_law_bytes" [(.var 0), (.int 6)])) (.sli (.bor 1) (.var 4) .skip))], .ret (.var 1)]
theorem tr__law_spliced : eqO (trB tc__law_spliced 60 (defScope st__law_spliced) 100 (defBody st__law_spliced)) ir__law_spliced = true := by decide +kernel
theorem sc__law_spliced : defB tc__law_spliced.N ["hand", "row"] (defScope st__law_spliced) = true := by decide +kernel
abbrev st__law_is_path : Stmt := top 47
def tc__law_is_path : Tc := ⟨["one", "other", "found", "most"], ["change", "_law_is", "is_change", "_law_become", "changed"], [], [], tb, hs⟩
def ir__law_is_path : List S := [.set 2 (.call "change" [(.var 0), (.var 1)]), .set 3 (.bin .Add (.blt .len [(.bor 1)]) (.int 11)), .cond (.cmp .Eq (.bor 0) (.bor 1)) [.set 3 (.int 11)] [], .cond (.or (.not (.isi (.bor 2) ["tuple"])) (.or (.cmp .Gt (.blt .len [(.bor 2)]) (.bor 3)) (.not (.call "_law_is" [(.call "is_change" [(.var 0), (.var 1), (.var 2)]), (.bl true)])))) [.ret (.bl false)] [], .ret (.and (.cmp .Eq (.call "_law_become" [(.var 0), (.var 2)]) (.tup [(.var 1), (.neg (.int 1))])) (.call "_law_is" [(.call "changed" [(.var 0), (.var 2)]), (.var 1)]))]
theorem tr__law_is_path : eqO (trB tc__law_is_path 60 (defScope st__law_is_path) 100 (defBody st__law_is_path)) ir__law_is_path = true := by decide +kernel
theorem sc__law_is_path : defB tc__law_is_path.N ["one", "other"] (defScope st__law_is_path) = true := by decide +kernel
abbrev st_law : Stmt := top 48
def tc_law : Tc := ⟨["script", "hand", "way", "one", "other", "some", "due", "row", "thing"], ["_law_hand", "_law_draw", "_law_bytes", "_law_spliced", "_law_is_path", "_law_is", "changed", "change", "_law_drawn_change", "_law_is_told", "_law_become", "_law_spoilt", "_law_deep", "is_change"], [], ["hand"], tb, hs⟩
def ir_law : List S := [.setS 1 (.call "_law_hand" [(.var 0)]), .set 2 (.call "_law_draw" [(.var 1), (.int 5)]), .set 3 (.bin .Mult (.call "_law_bytes" [(.var 1), (.int 30)]) (.idx (.lst [(.int 1), (.int 2), (.int 8)]) (.call "_law_draw" [(.var 1), (.int 3)]))), .set 4 (.idx (.lst [(.call "_law_spliced" [(.var 1), (.var 3)]), (.call "_law_spliced" [(.var 1), (.var 3)]), (.call "_law_bytes" [(.var 1), (.int 40)]), (.var 3), (.tup [])]) (.bor 2)), .cond (.or (.not (.call "_law_is_path" [(.var 3), (.var 4)])) (.or (.not (.call "_law_is_path" [(.var 4), (.var 3)])) (.not (.call "_law_is_path" [(.var 3), (.var 3)])))) [.ret (.bl false)] [], .cond (.not (.call "_law_is" [(.call "changed" [(.call "changed" [(.var 3), (.call "change" [(.var 3), (.var 4)])]), (.call "change" [(.var 4), (.var 3)])]), (.var 3)])) [.ret (.bl false)] [], .set 5 (.call "_law_drawn_change" [(.var 1), (.var 3)]), .cond (.not (.call "_law_is_told" [(.var 3), (.var 4), (.var 5)])) [.ret (.bl false)] [], .set 6 (.idx (.call "_law_become" [(.var 3), (.var 5)]) (.int 0)), .cond (.and (.cmp .IsNot (.bor 6) .non) (.not (.call "_law_is_told" [(.var 3), (.var 6), (.var 5)]))) [.ret (.bl false)] [], .forS (.one 7) .seq [(.lst [(.call "_law_spoilt" [(.var 1), (.var 5)]), (.call "_law_spoilt" [(.var 1), (.call "change" [(.var 3), (.var 4)])]), (.call "_law_bytes" [(.var 1), (.int 12)]), (.tup [])])] [.cond (.not (.call "_law_is_told" [(.var 3), (.var 4), (.var 7)])) [.ret (.bl false)] []], .set 8 (.idx (.lst [.non, (.blt .list [(.call "change" [(.var 3), (.var 4)])]), (.int 7), (.tup [(.int 256)]), (.tup [(.bl true)]), (.str ""), (.tup [.non]), (.call "_law_deep" [(.var 1)])]) (.call "_law_draw" [(.var 1), (.int 8)])), .ret (.call "_law_is" [(.call "is_change" [(.var 3), (.var 4), (.var 8)]), (.bl false)])]
theorem tr_law : eqO (trB tc_law 60 (defScope st_law) 100 (defBody st_law)) ir_law = true := by decide +kernel
theorem sc_law : defB tc_law.N ["script"] (defScope st_law) = true := by decide +kernel
end L_k25

set_option autoImplicit true
namespace L_k25
open PySem PySem.Spec PyProof.Rows L2 R
local macro_rules | `(tactic| walk_at "r1") => `(tactic| first
  | ((with_reducible refine' b_cons ?h1 ?_); (case h1 => first | (simp only [List.set_cons_succ, List.set_cons_zero]; done) | (simp only [List.set_cons_succ, List.set_cons_zero]; rfl) | rfl))
  | ((with_reducible refine' g_E ?_); first
    | ((with_reducible refine' e_var ?h1 ?_); (case h1 => first | rfl | trivial | assumption | decide))
    | (with_reducible refine' e_int ?_)
    | (with_reducible refine' e_bin ?_)
    | (with_reducible refine' e_call ?_)
    | (with_reducible refine' e_idx ?_)
    | (with_reducible refine' e_blt ?_)
    | (with_reducible refine' e_cmp ?_)
    | (with_reducible refine' e_sli ?_)
    | (with_reducible refine' e_skip ?_)
    | (with_reducible refine' e_tup ?_)
    | (with_reducible refine' e_lst ?_)
    | (with_reducible refine' e_dct ?_)
    | (with_reducible refine' e_bl ?_)
    | (with_reducible refine' e_non ?_)
    | (with_reducible refine' e_str ?_)
    | ((with_reducible refine' e_glo ?h1 ?_); (case h1 => first | rfl | trivial | assumption | decide))
    | ((with_reducible refine' e_fld1 ?h1 ?_); (case h1 => first | rfl | trivial | assumption | decide))
    | (with_reducible refine' e_and ?_)
    | (with_reducible refine' e_or ?_)
    | (with_reducible refine' e_not ?_)
    | (with_reducible refine' e_ite ?_)
    | (with_reducible refine' e_isi ?_)
    | (with_reducible refine' e_neg ?_)
    | (with_reducible refine' e_chain ?_)
    | (with_reducible refine' e_lc ?_)
    | ((with_reducible refine' e_varO ?h1 ?_); (case h1 => first | rfl | trivial | assumption | decide)))
  | ((with_reducible refine' g_O ?_); first
    | ((with_reducible refine' o_bor ?h1 ?h2 ?_); (case h1 => first | rfl | trivial | assumption | decide); (case h2 => first | rfl | trivial | assumption | decide))
    | ((with_reducible refine' o_val ?h1 ?_); (case h1 => first | rfl | trivial | assumption | decide)))
  | ((with_reducible refine' g_Ex ?_); first
    | ((with_reducible refine' ⟨_, _, ?h1, ?h2, ?_⟩); (case h1 => first | rfl | ((with_reducible refine' ld_ref ?g1 ?g2); (case g1 => rfl); (case g2 => assumption)) | ((with_reducible refine' ld_refD ?g2); (case g2 => assumption)) | ((with_reducible refine' ld_nr ?g1); (case g1 => assumption)) | ((with_reducible refine' ld_nrS ?g1 ?g2); (case g1 => rfl); (case g2 => assumption))); (case h2 => first | rfl | ((with_reducible refine' ld_ref ?g3 ?g4); (case g3 => rfl); (case g4 => assumption)) | ((with_reducible refine' ld_refD ?g4); (case g4 => assumption)) | ((with_reducible refine' ld_nr ?g3); (case g3 => assumption)) | ((with_reducible refine' ld_nrS ?g3 ?g4); (case g3 => rfl); (case g4 => assumption))))
    | ((with_reducible refine' ex_r1 ?h1 ?h2 ?_); (case h1 => omega); (case h2 => omega))
    | ((with_reducible refine' ex_r2 ?h1 ?h2 ?h3 ?h4 ?_); (case h1 => omega); (case h2 => omega); (case h3 => omega); (case h4 => omega))
    | ((with_reducible refine' ex_r3 ?h1 ?h2 ?h3 ?h4 ?_); (case h1 => omega); (case h2 => omega); (case h3 => omega); (case h4 => omega))
    | ((with_reducible refine' ⟨_, ?h1, ?_⟩); (case h1 => (fail_if_success (with_reducible show itemsD .rng1 _ = _)); (fail_if_success (with_reducible show itemsD .rng2 _ = _)); (fail_if_success (with_reducible show itemsD .rng3 _ = _)); rfl)))
  | ((with_reducible refine' g_Bin ?_); first
    | (with_reducible refine' b_add ?_)
    | (with_reducible refine' b_sub ?_)
    | ((with_reducible refine' b_mod ?h1 ?_); (first | (case h1 => (first | omega | decide)) | rotate_left))
    | ((with_reducible refine' b_mul ?h1 ?_); (first | (case h1 => (first | exact mul_l (by omega) (by omega) | exact mul_r (by omega) (by omega))) | rotate_left))
    | ((with_reducible refine' b_div ?h1 ?_); (first | (case h1 => (first | exact div_ok (by omega) (by omega))) | rotate_left))
    | ((with_reducible refine' b_mulS ?h1 ?_); (first | (case h1 => (first | decide)) | rotate_left))
    | ((with_reducible refine' b_addT ?h1 ?_); (first | (case h1 => (first | omega)) | rotate_left))
    | ((with_reducible refine' b_addL ?h1 ?_); (first | (case h1 => (first | omega)) | rotate_left))
    | ((with_reducible refine' b_mulT ?h1 ?h2 ?h3 ?_); (first | (case h1 => (first | omega)) | rotate_left); (first | (case h2 => (first | omega)) | rotate_left); (first | (case h3 => (first | omega)) | rotate_left))
    | ((with_reducible refine' b_pow ?h1 ?_); (first | (case h1 => (first | exact ⟨by omega, by omega, by decide⟩)) | rotate_left))
    | ((with_reducible refine' b_addS ?h1 ?_); (first | (case h1 => (first | omega)) | rotate_left)))
  | ((with_reducible refine' g_Cmp ?_); first
    | (with_reducible refine' c_eqI ?_)
    | (with_reducible refine' c_lt ?_)
    | (with_reducible refine' c_le ?_)
    | (with_reducible refine' c_gt ?_)
    | (with_reducible refine' c_ge ?_)
    | (with_reducible refine' c_neI ?_)
    | (with_reducible refine' c_isN ?_)
    | (with_reducible refine' c_isNotN ?_)
    | (with_reducible refine' c_isB ?_)
    | (with_reducible refine' c_isNotB ?_)
    | ((with_reducible refine' c_eqBt ?h1 ?_); (case h1 => first | rfl | trivial | assumption | decide))
    | ((with_reducible refine' c_eqBf ?h1 ?_); (case h1 => first | rfl | trivial | assumption | decide))
    | ((with_reducible refine' c_neBt ?h1 ?_); (case h1 => first | rfl | trivial | assumption | decide))
    | ((with_reducible refine' c_neBf ?h1 ?_); (case h1 => first | rfl | trivial | assumption | decide))
    | ((with_reducible refine' c_eq ?h1 ?h2 ?_); (first | (case h1 => (first | rfl | exact okD_tupI | exact okD_lstI)) | rotate_left); (first | (case h2 => (first | rfl | exact okD_tupI | exact okD_lstI)) | rotate_left))
    | ((with_reducible refine' c_ne ?h1 ?h2 ?_); (first | (case h1 => (first | rfl | exact okD_tupI | exact okD_lstI)) | rotate_left); (first | (case h2 => (first | rfl | exact okD_tupI | exact okD_lstI)) | rotate_left)))
  | ((with_reducible refine' g_L ?_); first
    | (with_reducible refine' l_cons ?_)
    | (with_reducible refine' l_nil ?_))
  | ((with_reducible refine' g_Os ?_); first
    | (with_reducible refine' os_cons ?_)
    | (with_reducible refine' os_nil ?_))
  | ((with_reducible refine' g_Blt ?_); first
    | (with_reducible refine' f_int ?_)
    | (with_reducible refine' f_lenT ?_)
    | (with_reducible refine' f_lenL ?_)
    | (with_reducible refine' f_lenC ?_)
    | (with_reducible refine' f_tupL ?_)
    | (with_reducible refine' f_tupT ?_)
    | (with_reducible refine' f_lstL ?_)
    | (with_reducible refine' f_lstT ?_)
    | (with_reducible refine' f_lstC ?_)
    | (with_reducible refine' f_abs ?_)
    | (with_reducible refine' f_min ?_)
    | (with_reducible refine' f_max ?_)
    | (with_reducible refine' f_sumC ?_)
    | (with_reducible refine' f_intB ?_)
    | ((with_reducible refine' f_lenS ?h1 ?_); (first | (case h1 => (first | omega)) | rotate_left))
    | ((with_reducible refine' f_strI ?h1 ?_); (first | (case h1 => (first | exact log_ok (by omega) (by omega))) | rotate_left))
    | ((with_reducible refine' f_intS ?h1 ?h2 ?_); (first | (case h1 => (first | assumption)) | rotate_left); (first | (case h2 => (first | decide)) | rotate_left)))
  | ((with_reducible refine' g_S ?_); first
    | (with_reducible refine' s_set ?_)
    | (with_reducible refine' s_ret ?_)
    | (with_reducible refine' s_cond ?_)
    | (with_reducible refine' s_sidx ?_)
    | (with_reducible refine' s_expr ?_)
    | (with_reducible refine' s_par ?_)
    | (with_reducible refine' s_setS ?_)
    | (with_reducible refine' s_setO ?_)
    | (with_reducible refine' s_for ?_)
    | (with_reducible refine' s_app ?_)
    | (with_reducible refine' s_ext ?_)
    | (with_reducible refine' s_retN ?_)
    | (with_reducible refine' s_unp ?_)
    | (with_reducible refine' s_pass ?_)
    | (with_reducible refine' s_brk ?_)
    | (with_reducible refine' s_cont ?_)
    | (with_reducible refine' s_try ?_)
    | (with_reducible refine' s_raise ?_)
    | ((with_reducible refine' s_retO ?h1 ?_); (case h1 => first | rfl | trivial | assumption | decide))
    | ((with_reducible refine' s_aug ?h1 ?_); (case h1 => first | rfl | trivial | assumption | decide)))
  | (with_reducible refine' b_nil ?_)
  | ((with_reducible refine' g_T ?_); first
    | ((with_reducible refine' t_bor ?h1 ?h2 ?_); (case h1 => first | rfl | trivial | assumption | decide); (case h2 => first | rfl | trivial | assumption | decide))
    | (with_reducible refine' e_cmp ?_)
    | (with_reducible refine' e_andT ?_)
    | (with_reducible refine' e_orT ?_)
    | (with_reducible refine' e_notT ?_)
    | (with_reducible refine' e_ite ?_)
    | (with_reducible refine' e_chain ?_)
    | ((with_reducible refine' t_fin ?h1 ?_); (case h1 => first | rfl | trivial | assumption | decide)))
  | ((with_reducible refine' i_tup ?h1 ?_); (case h1 => rfl))
  | ((with_reducible refine' i_lst ?h1 ?_); (case h1 => rfl))
  | (with_reducible refine' p_isN ?_)
  | (with_reducible refine' p_nisN ?_)
  | ((with_reducible refine' p_isN0 ?h1 ?_); (case h1 => first | rfl | trivial | assumption | decide))
  | ((with_reducible refine' p_nisN0 ?h1 ?_); (case h1 => first | rfl | trivial | assumption | decide))
  | (with_reducible refine' aug_add ?_)
  | (with_reducible refine' aug_sub ?_)
  | (with_reducible refine' fg_cons ?_)
  | (with_reducible refine' fg_nil ?_)
  | (with_reducible refine' lcg_cons ?_)
  | (with_reducible refine' lcg_nil ?_)
  | (with_reducible refine' p_nt ?_)
  | (with_reducible refine' p_nf ?_)
  | (with_reducible refine' p_true ?_)
  | (with_reducible refine' p_false ?_)
  | (with_reducible refine' u_tup ?_)
  | (with_reducible refine' u_lst ?_)
  | (with_reducible refine' u_scr ?_)
  | (with_reducible refine' ts_nil ?_)
  | (with_reducible refine' ts_one ?_)
  | ((with_reducible refine' isi_t ?h1 ?h2 ?_); (case h1 => first | rfl | trivial | assumption | decide); (case h2 => first | rfl | trivial | assumption | decide))
  | ((with_reducible refine' isi_f ?h1 ?h2 ?_); (case h1 => first | rfl | trivial | assumption | decide); (case h2 => first | rfl | trivial | assumption | decide))
  | ((with_reducible refine' And.intro ?h1 ?_); (case h1 => first | rfl | exact Nat.le_of_ble_eq_true rfl | trivial | exact ⟨rfl, by decide, by decide⟩))
  | ((with_reducible refine' w_set ?h1 ?h2 ?h3 ?_); (case h1 => rfl); (case h2 => assumption); (case h3 => rfl))
  | (with_reducible refine' g_P ?_; first | (change ifP true _ _; refine p_true ?_) | (change ifP false _ _; refine p_false ?_))
  | ((with_reducible refine' x_hit ?h1 ?_); (case h1 => first | rfl | (walk_at "tb1")))
  | ((with_reducible refine' h_yes ?h1 ?_); (case h1 => rfl); intro aE)
  | ((with_reducible refine' h_no ?h1 ?_); (case h1 => rfl))
  | (with_reducible refine' h_nil ?_)
  | walk_at "call1")
local macro_rules | `(tactic| walk_at "r") => `(tactic| repeat (walk_at "r1"))
/-! ### what is said -/
def Byt (bs : List Int) : Prop := ∀ b, b ∈ bs → 0 ≤ b ∧ b < 256
@[reducible] def tupI (bs : List Int) : D := .tup (bs.map D.int)
def isI : D → Bool
  | .int _ => true
  | _ => false
def wIn (d : D) (l m : Int) : Bool := match d with
  | .int i => decide (l ≤ i ∧ i ≤ m)
  | _ => false
def val : List Int → Int
  | [] => 0
  | b :: bs => b % 128 + 128 * val bs
def fig (n : Nat) : List Int := if n < 128 then [(n : Int)] else (((n % 128 + 128 : Nat) : Int)) :: fig (n / 128)
termination_by n
def rd (bs : List Int) : Option (Int × Nat) := match (bs.take 10).findIdx? (fun b => decide (b < 128)) with
  | none => none
  | some t => if (0 < t ∧ bs[t]? = some 0) ∨ 18446744073709551616 ≤ val (bs.take (t + 1)) then none else some (val (bs.take (t + 1)), t + 1)
def isHand (o : VO) : Prop := ∃ (cs : List Int) (a b c d : Int), o = .lst [.lst (cs.map D.int), .int a, .int b, .int c, .int d] ∧ 0 ≤ a
theorem byt_app {as bs : List Int} (h1 : Byt as) (h2 : Byt bs) : Byt (as ++ bs) := fun b hb => (List.mem_append.mp hb).elim (h1 b) (h2 b)
/-! ### numbers as bytes -/
theorem fig_lt {n : Nat} (h : n < 128) : fig n = [(n : Int)] := by
  unfold fig
  rw [if_pos h]
theorem fig_ge {n : Nat} (h : 128 ≤ n) : fig n = ((n % 128 + 128 : Nat) : Int) :: fig (n / 128) := by
  conv => lhs; unfold fig
  rw [if_neg (by omega)]
theorem fig_byt (n : Nat) : Byt (fig n) := by
  induction n using Nat.strongRecOn with
  | _ n ih =>
    by_cases h : n < 128
    · rw [fig_lt h]
      intro b hb
      simp at hb
      omega
    · rw [fig_ge (by omega)]
      intro b hb
      rcases List.mem_cons.mp hb with e | hb
      · omega
      · exact ih (n / 128) (by omega) b hb
theorem fig_len (k : Nat) : ∀ n : Nat, n < 128 ^ (k + 1) → (fig n).length ≤ k + 1 := by
  induction k with
  | zero =>
    intro n h
    rw [fig_lt (by omega)]
    simp
  | succ k ih =>
    intro n h
    by_cases h1 : n < 128
    · rw [fig_lt h1]
      simp
    · rw [fig_ge (by omega), List.length_cons]
      have := ih (n / 128) (by rw [Nat.pow_succ] at h; omega)
      omega
theorem fig_len10 {n : Nat} (h : n < 1180591620717411303424) : (fig n).length ≤ 10 := fig_len 9 n (by omega)
theorem fig_pos (n : Nat) : 0 < (fig n).length := by
  by_cases h : n < 128
  · rw [fig_lt h]; simp
  · rw [fig_ge (by omega)]; simp
/-- what a written number reads as -/
theorem fig_rd (n : Nat) : ∀ (tail : List Int), ∃ t, (fig n ++ tail).findIdx? (fun b => decide (b < 128)) = some t ∧ t + 1 = (fig n).length ∧ val (fig n) = n ∧ (0 < t → (fig n)[t]? ≠ some 0) := by
  induction n using Nat.strongRecOn with
  | _ n ih =>
    intro tail
    by_cases h : n < 128
    · rw [fig_lt h]
      refine ⟨0, ?_, rfl, ?_, fun z => absurd z (by omega)⟩
      · rw [List.singleton_append, List.findIdx?_cons, decide_eq_true (by omega)]
        rfl
      · show (n : Int) % 128 + 128 * 0 = n
        omega
    · obtain ⟨t, h1, h2, h3, h4⟩ := ih (n / 128) (by omega) tail
      have h0 : 128 ≤ n := by omega
      refine ⟨t + 1, ?_, ?_, ?_, fun _ => ?_⟩
      · rw [fig_ge h0, List.cons_append, List.findIdx?_cons, decide_eq_false (by omega), h1]
        rfl
      · rw [fig_ge h0, List.length_cons, h2]
      · rw [fig_ge h0]
        show ((n % 128 + 128 : Nat) : Int) % 128 + 128 * val (fig (n / 128)) = n
        rw [h3]
        omega
      · rw [fig_ge h0, List.getElem?_cons_succ]
        by_cases ht : 0 < t
        · exact h4 ht
        · have t0 : t = 0 := by omega
          subst t0
          by_cases h5 : n / 128 < 128
          · rw [fig_lt h5]
            simp
            omega
          · rw [fig_ge (by omega)]
            simp
            omega
theorem rd_fig {n : Nat} (h : n < 18446744073709551616) (tail : List Int) : rd (fig n ++ tail) = some (((n : Nat) : Int), (fig n).length) := by
  obtain ⟨t, h1, h2, h3, h4⟩ := fig_rd n tail
  have hl := fig_len10 (n := n) (by omega)
  unfold rd
  have e : ((fig n ++ tail).take 10).findIdx? (fun b => decide (b < 128)) = some t := by
    rw [List.findIdx?_eq_some_iff_getElem] at h1 ⊢
    obtain ⟨g1, g2, g3⟩ := h1
    refine ⟨by rw [List.length_take]; omega, by rw [List.getElem_take]; exact g2, fun j hj => by rw [List.getElem_take]; exact g3 j hj⟩
  rw [e]
  dsimp only
  have e2 : (fig n ++ tail).take (t + 1) = fig n := by rw [h2, List.take_left]
  rw [e2, h3, if_neg ?_, h2]
  rintro (⟨z1, z2⟩ | z)
  · rw [List.getElem?_append_left (by omega)] at z2
    exact h4 z1 z2
  · omega
theorem rd_nonneg {bs : List Int} {u : Int} {t : Nat} (h : rd bs = some (u, t)) : 0 ≤ u ∧ u < 18446744073709551616 := by
  have vn : ∀ l : List Int, 0 ≤ val l := fun l => by
    induction l with
    | nil => exact Int.le_refl _
    | cons b l ih =>
      show 0 ≤ b % 128 + 128 * val l
      omega
  unfold rd at h
  split at h
  · cases h
  · split at h
    · cases h
    · rename_i q
      cases h
      exact ⟨vn _, by omega⟩

/-! ### changes -/
def pr (k m : Nat) : List Int := if 0 < m then fig (3 * m + k) else []
/-- what a row becomes by a change, or the place of the first wrong part -/
def bec (one row : List Int) : Nat → Nat → Nat → List Int → Option (List Int) × Nat
  | 0, _, at_, _ => (none, at_)
  | f + 1, here, at_, acc => if row.length ≤ at_ then (some acc, 0) else (match rd (row.drop at_) with
    | none => (none, at_)
    | some (n, t) => if n < 3 then (none, at_) else if n % 3 = 2 then (if row.length < at_ + t + (n / 3).toNat then (none, at_) else bec one row f here (at_ + t + (n / 3).toNat) (acc ++ (row.drop (at_ + t)).take (n / 3).toNat))
      else if one.length < here + (n / 3).toNat then (none, at_) else bec one row f (here + (n / 3).toNat) (at_ + t) (if n % 3 = 0 then acc ++ (one.drop here).take (n / 3).toNat else acc))
theorem rd_len {bs : List Int} {u : Int} {t : Nat} (h : rd bs = some (u, t)) : 0 < t ∧ t ≤ bs.length := by
  unfold rd at h
  split at h
  · cases h
  · rename_i k hk
    split at h
    · cases h
    · cases h
      rw [List.findIdx?_eq_some_iff_getElem] at hk
      obtain ⟨h1, _, _⟩ := hk
      rw [List.length_take] at h1
      omega
/-- a part that stands there -/
theorem bec_part {one pre suf : List Int} {k m f here : Nat} {acc : List Int} (hm : 0 < m) (hk : k < 3) (hz : 3 * m + k < 18446744073709551616) :
    bec one (pre ++ (pr k m ++ suf)) (f + 1) here pre.length acc =
      if k = 2 then (if suf.length < m then (none, pre.length) else bec one (pre ++ (pr k m ++ suf)) f here ((pre ++ pr k m).length + m) (acc ++ suf.take m))
      else if one.length < here + m then (none, pre.length) else bec one (pre ++ (pr k m ++ suf)) f (here + m) (pre ++ pr k m).length (if k = 0 then acc ++ (one.drop here).take m else acc) := by
  have e1 : pr k m = fig (3 * m + k) := by unfold pr; rw [if_pos hm]
  have hp := fig_pos (3 * m + k)
  rw [e1]
  conv => lhs; unfold bec
  have hl : ¬ (pre ++ (fig (3 * m + k) ++ suf)).length ≤ pre.length := by
    rw [List.length_append, List.length_append]
    omega
  rw [if_neg hl, List.drop_left, rd_fig hz]
  dsimp only
  have h3 : ¬ (((3 * m + k : Nat) : Int) < 3) := by omega
  have hd : (((3 * m + k : Nat) : Int) / 3).toNat = m := by omega
  have hr : (((3 * m + k : Nat) : Int) % 3) = (k : Int) := by omega
  rw [if_neg h3, hd, hr]
  by_cases h2 : k = 2
  · subst h2
    rw [if_pos rfl, if_pos (by decide : ((2 : Nat) : Int) = 2)]
    have e2 : ((pre ++ (fig (3 * m + 2) ++ suf)).length < pre.length + (fig (3 * m + 2)).length + m) ↔ suf.length < m := by
      rw [List.length_append, List.length_append]
      omega
    have e3 : (pre ++ (fig (3 * m + 2) ++ suf)).drop (pre.length + (fig (3 * m + 2)).length) = suf := by
      rw [← List.append_assoc, ← List.length_append, List.drop_left]
    rw [e3, show (pre ++ fig (3 * m + 2)).length = pre.length + (fig (3 * m + 2)).length from List.length_append]
    by_cases h4 : suf.length < m
    · rw [if_pos h4, if_pos (e2.mpr h4)]
    · rw [if_neg h4, if_neg (fun z => h4 (e2.mp z))]
  · have h2' : ¬ ((k : Int) = 2) := by omega
    rw [if_neg h2, if_neg h2', List.length_append]
    by_cases h4 : one.length < here + m
    · rw [if_pos h4, if_pos h4]
    · rw [if_neg h4, if_neg h4]
      by_cases h5 : k = 0
      · subst h5
        rw [if_pos rfl, if_pos (by decide : ((0 : Nat) : Int) = 0)]
      · have h5' : ¬ ((k : Int) = 0) := by omega
        rw [if_neg h5, if_neg h5']
theorem bec_end {one row : List Int} {f here : Nat} {acc : List Int} : bec one row (f + 1) here row.length acc = (some acc, 0) := by
  unfold bec
  rw [if_pos (Nat.le_refl _)]
/-- more turns than needed change nothing -/
theorem bec_fuel {one row : List Int} : ∀ (f g here at_ : Nat) (acc : List Int), at_ ≤ row.length → row.length < at_ + f → row.length < at_ + g → bec one row f here at_ acc = bec one row g here at_ acc
  | 0, g, here, at_, acc, h0, h1, h2 => by omega
  | f + 1, 0, here, at_, acc, h0, h1, h2 => by omega
  | f + 1, g + 1, here, at_, acc, h0, h1, h2 => by
    unfold bec
    by_cases h3 : row.length ≤ at_
    · rw [if_pos h3, if_pos h3]
    · rw [if_neg h3, if_neg h3]
      cases e : rd (row.drop at_) with
      | none => rfl
      | some p =>
        obtain ⟨n, t⟩ := p
        obtain ⟨t0, t1⟩ := rd_len e
        rw [List.length_drop] at t1
        dsimp only
        by_cases h4 : n < 3
        · rw [if_pos h4, if_pos h4]
        · rw [if_neg h4, if_neg h4]
          by_cases h5 : n % 3 = 2
          · rw [if_pos h5, if_pos h5]
            by_cases h6 : row.length < at_ + t + (n / 3).toNat
            · rw [if_pos h6, if_pos h6]
            · rw [if_neg h6, if_neg h6]
              exact bec_fuel f g _ _ _ (by omega) (by omega) (by omega)
          · rw [if_neg h5, if_neg h5]
            by_cases h6 : one.length < here + (n / 3).toNat
            · rw [if_pos h6, if_pos h6]
            · rw [if_neg h6, if_neg h6]
              exact bec_fuel f g _ _ _ (by omega) (by omega) (by omega)

def bcc (one row : List Int) (here at_ : Nat) (acc : List Int) : Option (List Int) × Nat := bec one row (row.length + 1 - at_) here at_ acc
def become (one row : List Int) : Option (List Int) × Nat := bec one row (row.length + 1) 0 0 []
theorem bcc_part {one row pre suf : List Int} {k m here at_ : Nat} {acc : List Int} (hr : row = pre ++ (pr k m ++ suf)) (ha : at_ = pre.length) (hm : 0 < m) (hk : k < 3) (hz : 3 * m + k < 18446744073709551616) :
    bcc one row here at_ acc = if k = 2 then (if suf.length < m then (none, at_) else bcc one row here (at_ + (pr k m).length + m) (acc ++ suf.take m))
      else if one.length < here + m then (none, at_) else bcc one row (here + m) (at_ + (pr k m).length) (if k = 0 then acc ++ (one.drop here).take m else acc) := by
  have hp : 0 < (pr k m).length := by
    unfold pr
    rw [if_pos hm]
    exact fig_pos _
  have hl : row.length = pre.length + ((pr k m).length + suf.length) := by rw [hr, List.length_append, List.length_append]
  subst ha
  unfold bcc
  have ef : row.length + 1 - pre.length = (row.length - pre.length) + 1 := by omega
  have hlp : (pre ++ pr k m).length = pre.length + (pr k m).length := List.length_append
  have eq := bec_part (one := one) (pre := pre) (suf := suf) (here := here) (acc := acc) (f := row.length - pre.length) hm hk hz
  rw [← hr, hlp] at eq
  rw [ef, eq]
  by_cases h2 : k = 2
  · rw [if_pos h2, if_pos h2]
    by_cases h3 : suf.length < m
    · rw [if_pos h3, if_pos h3]
    · rw [if_neg h3, if_neg h3]
      exact bec_fuel _ _ _ _ _ (by omega) (by omega) (by omega)
  · rw [if_neg h2, if_neg h2]
    by_cases h3 : one.length < here + m
    · rw [if_pos h3, if_pos h3]
    · rw [if_neg h3, if_neg h3]
      exact bec_fuel _ _ _ _ _ (by omega) (by omega) (by omega)
theorem pr_0 {k : Nat} : pr k 0 = [] := rfl
theorem bcc_0 {one row pre suf : List Int} {m here at_ : Nat} {acc : List Int} (hr : row = pre ++ (pr 0 m ++ suf)) (ha : at_ = pre.length) (hz : m < 1000000) (h : here + m ≤ one.length) :
    bcc one row here at_ acc = bcc one row (here + m) (at_ + (pr 0 m).length) (acc ++ (one.drop here).take m) := by
  by_cases hm : m = 0
  · subst hm
    rw [pr_0, List.take_zero, List.append_nil]
    rfl
  · rw [bcc_part hr ha (by omega) (by omega) (by omega), if_neg (by omega), if_neg (by omega), if_pos rfl]
theorem bcc_1 {one row pre suf : List Int} {m here at_ : Nat} {acc : List Int} (hr : row = pre ++ (pr 1 m ++ suf)) (ha : at_ = pre.length) (hz : m < 1000000) (h : here + m ≤ one.length) :
    bcc one row here at_ acc = bcc one row (here + m) (at_ + (pr 1 m).length) acc := by
  by_cases hm : m = 0
  · subst hm
    rw [pr_0]
    rfl
  · rw [bcc_part hr ha (by omega) (by omega) (by omega), if_neg (by omega), if_neg (by omega), if_neg (by omega)]
theorem bcc_2 {one row pre mid suf : List Int} {here at_ : Nat} {acc : List Int} (hr : row = pre ++ (pr 2 mid.length ++ (mid ++ suf))) (ha : at_ = pre.length) (hz : mid.length < 1000000) :
    bcc one row here at_ acc = bcc one row here (at_ + (pr 2 mid.length).length + mid.length) (acc ++ mid) := by
  by_cases hm : mid.length = 0
  · rw [hm, pr_0, List.eq_nil_of_length_eq_zero hm, List.append_nil]
    rfl
  · rw [bcc_part hr ha (by omega) (by omega) (by omega), if_pos rfl, if_neg (by rw [List.length_append]; omega), List.take_left]
theorem bcc_end {one row : List Int} {here at_ : Nat} {acc : List Int} (h : at_ = row.length) : bcc one row here at_ acc = (some acc, 0) := by
  subst h
  unfold bcc
  rw [show row.length + 1 - row.length = 0 + 1 by omega]
  exact bec_end
def chg (b out : Nat) (mid : List Int) (e : Nat) : List Int := pr 0 b ++ pr 1 out ++ pr 2 mid.length ++ mid ++ pr 0 e
/-- a change leads where it should -/
theorem become_chg {one mid : List Int} {b out e : Nat} (hb : b + out + e ≤ one.length) (ho : 0 < e → b + out + e = one.length) (h1 : one.length < 1000000) (h2 : mid.length < 1000000) :
    become one (chg b out mid e) = (some (one.take b ++ mid ++ one.drop (one.length - e)), 0) := by
  have e0 : become one (chg b out mid e) = bcc one (chg b out mid e) 0 0 [] := rfl
  rw [e0]
  have r0 : chg b out mid e = [] ++ (pr 0 b ++ (pr 1 out ++ (pr 2 mid.length ++ (mid ++ (pr 0 e ++ []))))) := by unfold chg; simp
  have r1 : chg b out mid e = pr 0 b ++ (pr 1 out ++ (pr 2 mid.length ++ (mid ++ (pr 0 e ++ [])))) := by unfold chg; simp
  have r2 : chg b out mid e = (pr 0 b ++ pr 1 out) ++ (pr 2 mid.length ++ (mid ++ (pr 0 e ++ []))) := by unfold chg; simp
  have r3 : chg b out mid e = (pr 0 b ++ pr 1 out ++ pr 2 mid.length ++ mid) ++ (pr 0 e ++ []) := by unfold chg; simp
  rw [bcc_0 r0 (at_ := 0) rfl (by omega) (by omega), bcc_1 r1 (by rw [Nat.zero_add]) (by omega) (by omega), bcc_2 r2 (by rw [List.length_append]; omega) h2, bcc_0 r3 (by simp [List.length_append]; omega) (by omega) (by omega), bcc_end (by rw [r3]; simp [List.length_append]; omega)]
  congr 2
  rw [List.drop_zero, List.nil_append]
  congr 1
  by_cases he : e = 0
  · subst he
    rw [List.take_zero, Nat.sub_zero, List.drop_length]
  · have := ho (by omega)
    rw [show 0 + b + out = one.length - e by omega]
    rw [List.take_of_length_le (by rw [List.length_drop]; omega)]
theorem pr_len {k m : Nat} (h : 3 * m + k < 16384) : (pr k m).length ≤ 2 := by
  unfold pr
  split
  · exact fig_len 1 _ (by omega)
  · simp
theorem pr_byt (k m : Nat) : Byt (pr k m) := by
  unfold pr
  split
  · exact fig_byt _
  · intro b hb
    cases hb
theorem chg_ok {one other : List Int} {b e : Nat} (h1 : one.length ≤ 3000) (h2 : other.length ≤ 3000) (hb : b + e ≤ one.length) (hb2 : b + e ≤ other.length) (hp : other.take b = one.take b) (he : other.drop (other.length - e) = one.drop (one.length - e)) :
    become one (chg b (if 0 < e then one.length - b - e else 0) ((other.drop b).take (other.length - e - b)) e) = (some other, 0) ∧
      (chg b (if 0 < e then one.length - b - e else 0) ((other.drop b).take (other.length - e - b)) e).length ≤ 8 + (other.length - e - b) := by
  have hm : ((other.drop b).take (other.length - e - b)).length = other.length - e - b := by
    rw [List.length_take, List.length_drop]
    omega
  constructor
  · rw [become_chg (by split <;> omega) (fun h => by rw [if_pos h]; omega) (by omega) (by omega)]
    rw [← hp, ← he]
    congr 2
    have e1 : other.drop (other.length - e) = (other.drop b).drop (other.length - e - b) := by
      rw [List.drop_drop]
      congr 1
      omega
    rw [e1, List.append_assoc, List.take_append_drop, List.take_append_drop]
  · unfold chg
    rw [List.length_append, List.length_append, List.length_append, List.length_append, hm]
    have q0 := pr_len (k := 0) (m := b) (by omega)
    have q1 := pr_len (k := 1) (m := if 0 < e then one.length - b - e else 0) (by split <;> omega)
    have q2 := pr_len (k := 2) (m := other.length - e - b) (by omega)
    have q3 := pr_len (k := 0) (m := e) (by omega)
    omega
theorem chg_byt {b out e : Nat} {mid : List Int} (h : Byt mid) : Byt (chg b out mid e) := by
  unfold chg
  exact byt_app (byt_app (byt_app (byt_app (pr_byt _ _) (pr_byt _ _)) (pr_byt _ _)) h) (pr_byt _ _)
/-- what a row becomes is made of bytes, and not long -/
theorem bec_byt {one row : List Int} (h1 : Byt one) (h2 : Byt row) : ∀ (f here at_ : Nat) (acc r : List Int) (k : Nat), Byt acc → bec one row f here at_ acc = (some r, k) → Byt r
  | 0, here, at_, acc, r, k, ha, e => by
    unfold bec at e
    cases e
  | f + 1, here, at_, acc, r, k, ha, e => by
    have td : ∀ {l : List Int} {a b : Nat}, Byt l → Byt ((l.drop a).take b) := fun h x hx => h x (List.mem_of_mem_drop (List.mem_of_mem_take hx))
    unfold bec at e
    split at e
    · cases e
      exact ha
    · split at e
      · cases e
      · split at e
        · cases e
        · split at e
          · split at e
            · cases e
            · exact bec_byt h1 h2 f _ _ _ r k (byt_app ha (td h2)) e
          · split at e
            · cases e
            · refine bec_byt h1 h2 f _ _ _ r k ?_ e
              split
              · exact byt_app ha (td h1)
              · exact ha
theorem bec_len {one row : List Int} : ∀ (f here at_ : Nat) (acc r : List Int) (k : Nat), here ≤ one.length → at_ ≤ row.length → bec one row f here at_ acc = (some r, k) → r.length + here + at_ ≤ acc.length + one.length + row.length
  | 0, here, at_, acc, r, k, hh, ha, e => by
    unfold bec at e
    cases e
  | f + 1, here, at_, acc, r, k, hh, ha, e => by
    unfold bec at e
    split at e
    · cases e
      omega
    · split at e
      · cases e
      · rename_i n t e0
        obtain ⟨t0, t1⟩ := rd_len e0
        rw [List.length_drop] at t1
        split at e
        · cases e
        · split at e
          · split at e
            · cases e
            · have := bec_len f _ _ _ r k hh (by omega) e
              rw [List.length_append, List.length_take, List.length_drop] at this
              omega
          · split at e
            · cases e
            · have := bec_len f _ _ _ r k (by omega) (by omega) e
              split at this
              · rw [List.length_append, List.length_take, List.length_drop] at this
                omega
              · omega
theorem become_row {one row r : List Int} {k : Nat} (h1 : Byt one) (h2 : Byt row) (e : become one row = (some r, k)) : Byt r ∧ r.length ≤ one.length + row.length ∧ k = 0 := by
  refine ⟨bec_byt h1 h2 _ _ _ _ _ _ (fun b hb => by cases hb) e, ?_, ?_⟩
  · have := bec_len _ _ _ _ _ _ (Nat.zero_le _) (Nat.zero_le _) e
    simpa using this
  · have q : ∀ (f here at_ : Nat) (acc : List Int), bec one row f here at_ acc = (some r, k) → k = 0 := fun f => by
      induction f with
      | zero =>
        intro here at_ acc e
        unfold bec at e
        cases e
      | succ f ih =>
        intro here at_ acc e
        unfold bec at e
        split at e
        · cases e
          rfl
        · split at e
          · cases e
          · split at e
            · cases e
            · split at e
              · split at e
                · cases e
                · exact ih _ _ _ e
              · split at e
                · cases e
                · exact ih _ _ _ e
    exact q _ _ _ _ e
/-! ### promises -/
def Gam : Cns := fun x => if x = "MOST_BYTES" then some (.int 300000) else if x = "BYTE" then some (.int 256) else if x = "FIGURE" then some (.int 128) else if x = "MOST_FIGURES" then some (.int 10) else if x = "WHOLE_BOUND" then some (.int 18446744073709551616)
  else if x = "KEPT" then some (.int 0) else if x = "LEFT_OUT" then some (.int 1) else if x = "PUT_IN" then some (.int 2) else if x = "LEAST_KEPT" then some (.int 8) else none
def Ty (d : D) : Prop := ∃ n, tyD d = some n
def byteD (d : D) : Bool := wIn d 0 255
def rowD (d : D) : Bool := match d with
  | .tup xs => xs.all byteD
  | _ => false
/-- a thing that is asked whether it is a row -/
def Th (d : D) : Prop := Ty d ∧ ∀ xs, d = .tup xs → xs.length ≤ 3000 ∧ ∀ x, x ∈ xs → Ty x
def Rw (bs : List Int) : Prop := Byt bs ∧ bs.length ≤ 3000
def rowAt (a : List Int × Nat) : Prop := Byt a.1 ∧ a.1.length ≤ 300000 ∧ a.2 ≤ a.1.length
def dataR (at_ : Nat) (o : Option (Int × Nat)) : D := match o with
  | none => .non
  | some (n, t) => .tup [.int n, .int (at_ + t)]
def dataP (row : List Int) (at_ : Nat) : D := match rd (row.drop at_) with
  | none => .non
  | some (n, t) => if n < 3 ∨ (n % 3 = 2 ∧ row.length < at_ + t + (n / 3).toNat) then .non else .tup [.int (n % 3), .int (n / 3), .int (at_ + t)]
def dataC (o : Option (List Int) × Nat) : D := match o with
  | (some r, _) => .tup [tupI r, .non]
  | (none, k) => .tup [.non, .int k]
def dataB (o : Option (List Int) × Nat) : D := match o with
  | (some r, _) => .tup [tupI r, .int (-1)]
  | (none, k) => .tup [.non, .int k]
def toldC (o : Option (List Int) × Nat) : D := match o with
  | (some r, _) => .tup [.str "told", tupI r]
  | (none, k) => .tup [.str "bad", .int k]
def outC (o : Option (List Int) × Nat) : Out := match o with
  | (some r, _) => .ok (.v (tupI r))
  | (none, k) => .exc "BadChange" [.int k]
/-- whether a thing is a change of one row into another -/
def isCh (one other : List Int) (d : D) : Bool := match d with
  | .tup xs => xs.all byteD && decide (become one (xs.map fun x => match x with
    | .int i => i
    | _ => 0) = (some other, 0))
  | _ => false
/-- a plain thing, so deep -/
def plD : Nat → D → Bool
  | _, .bl _ => true
  | _, .int _ => true
  | _, .str x => PyData.canLay0 (.str x)
  | n + 1, .tup xs => decide (xs.length ≤ 16777216) && xs.all (plD n)
  | _, _ => false
def s_is_integer : VSp := specF (A := D) (fun d => [d]) Ty fun d => .v (.bl (isI d))
def s_is_within : VSp := specF (A := D × Int × Int) (fun a => [a.1, .int a.2.1, .int a.2.2]) (fun a => Ty a.1) fun a => .v (.bl (wIn a.1 a.2.1 a.2.2))
def s_is_below : VSp := specF (A := D × Int) (fun a => [a.1, .int a.2]) (fun a => Ty a.1) fun a => .v (.bl (wIn a.1 0 (a.2 - 1)))
def s_is_row : VSp := specF (A := D) (fun d => [d]) Th fun d => .v (.bl (rowD d))
def s_check_row : VSp := specF (A := List Int) (fun bs => [tupI bs]) Rw fun _ => .v .non
def s_figures_of : VSp := specF (A := Nat) (fun n => [.int n]) (fun n => n < 1180591620717411303424) fun n => .v (tupI (fig n))
def s_number_at : VSp := specF (A := List Int × Nat) (fun a => [tupI a.1, .int a.2]) rowAt fun a => .v (dataR a.2 (rd (a.1.drop a.2)))
def s_part_at : VSp := specF (A := List Int × Nat) (fun a => [tupI a.1, .int a.2]) rowAt fun a => .v (dataP a.1 a.2)
def s_changed_or_wrong : VSp := specF (A := List Int × List Int) (fun a => [tupI a.1, tupI a.2]) (fun a => Rw a.1 ∧ Rw a.2) fun a => .v (dataC (become a.1 a.2))
def s_changed : VSp := specE (A := List Int × List Int) (fun a => [tupI a.1, tupI a.2]) (fun a => Rw a.1 ∧ Rw a.2) fun a => outC (become a.1 a.2)
def s_common_begin : VSp := spec (A := List Int × List Int) (fun a => [tupI a.1, tupI a.2]) (fun a _ => Rw a.1 ∧ Rw a.2) fun a vh x vh' => vh' = vh ∧ ∃ b : Nat, x = .v (.int b) ∧ b ≤ a.1.length ∧ b ≤ a.2.length ∧ a.2.take b = a.1.take b ∧ (a.1 = a.2 → b = a.1.length)
def s_common_end : VSp := spec (A := List Int × List Int × Nat) (fun a => [tupI a.1, tupI a.2.1, .int a.2.2]) (fun a _ => Rw a.1 ∧ Rw a.2.1 ∧ a.2.2 ≤ a.1.length ∧ a.2.2 ≤ a.2.1.length) fun a vh x vh' => vh' = vh ∧ ∃ e : Nat, x = .v (.int e) ∧ e ≤ a.2.2 ∧ a.2.1.drop (a.2.1.length - e) = a.1.drop (a.1.length - e)
def s_part_row : VSp := specF (A := Nat × Nat) (fun a => [.int a.1, .int a.2]) (fun a => a.1 < 3 ∧ a.2 ≤ 3000) fun a => .v (tupI (pr a.1 a.2))
def s_change : VSp := spec (A := List Int × List Int) (fun a => [tupI a.1, tupI a.2]) (fun a _ => Rw a.1 ∧ Rw a.2) fun a vh x vh' => vh' = vh ∧ ∃ c, x = .v (tupI c) ∧ Byt c ∧ become a.1 c = (some a.2, 0) ∧ c.length ≤ a.2.length + 11 ∧ (a.1 = a.2 → c.length ≤ 11)
def s_is_change : VSp := specF (A := List Int × List Int × D) (fun a => [tupI a.1, tupI a.2.1, a.2.2]) (fun a => Rw a.1 ∧ Rw a.2.1 ∧ Th a.2.2) fun a => .v (.bl (isCh a.1 a.2.1 a.2.2))
def s__law_hand : VSp := spec (A := List Int) (fun ns => [.scr ns]) (fun _ _ => True) fun ns vh x vh' => ∃ ds, x = .fr ds ∧ isHand (.lst ds) ∧ vh' = vh
def s__law_draw : VSp := spec (A := Nat × Int) (fun a => [.ref a.1, .int a.2]) (fun a vh => (∃ o, vh[a.1]? = some o ∧ isHand o) ∧ 0 < a.2 ∧ a.2 ≤ 18446744073709551616) fun a vh x vh' => ∃ k o, x = .v (.int k) ∧ 0 ≤ k ∧ k < a.2 ∧ isHand o ∧ vh' = vh.set a.1 o
def s__law_is : Nat → VSp
  | 0 => none_sp
  | n + 1 => specF (A := D) (fun d => [d, d]) (fun d => plD n d = true) fun _ => .v (.bl true)
def s__law_deep : VSp := spec (A := Nat) (fun n => [.ref n]) (fun n vh => ∃ o, vh[n]? = some o ∧ isHand o) fun n vh x vh' => ∃ d o, x = .v d ∧ Th d ∧ rowD d = false ∧ isHand o ∧ vh' = vh.set n o
def s__law_whole : VSp := specF (A := Nat) (fun n => [.int n]) (fun n => n < 18446744073709551616) fun n => .v (tupI (fig n))
def s__law_read : VSp := specF (A := List Int × Nat) (fun a => [tupI a.1, .int a.2]) rowAt fun a => .v (dataR a.2 (rd (a.1.drop a.2)))
def s__law_byte : VSp := spec (A := Nat) (fun n => [.ref n]) (fun n vh => ∃ o, vh[n]? = some o ∧ isHand o) fun n vh x vh' => ∃ k o, x = .v (.int k) ∧ 0 ≤ k ∧ k < 256 ∧ isHand o ∧ vh' = vh.set n o
def s__law_bytes : VSp := spec (A := Nat × Int) (fun a => [.ref a.1, .int a.2]) (fun a vh => (∃ o, vh[a.1]? = some o ∧ isHand o) ∧ 0 ≤ a.2 ∧ a.2 ≤ 1000) fun a vh x vh' => ∃ (bs : List Int) (o : VO), x = .v (tupI bs) ∧ Byt bs ∧ bs.length ≤ a.2 ∧ isHand o ∧ vh' = vh.set a.1 o
def s__law_spoilt : VSp := spec (A := Nat × List Int) (fun a => [.ref a.1, tupI a.2]) (fun a vh => (∃ o, vh[a.1]? = some o ∧ isHand o) ∧ Byt a.2 ∧ a.2.length ≤ 2900) fun a vh x vh' => ∃ (bs : List Int) (o : VO), x = .v (tupI bs) ∧ Byt bs ∧ bs.length ≤ a.2.length + 4 ∧ isHand o ∧ vh' = vh.set a.1 o
def s__law_become : VSp := specF (A := List Int × List Int) (fun a => [tupI a.1, tupI a.2]) (fun a => Rw a.1 ∧ Rw a.2) fun a => .v (dataB (become a.1 a.2))
def s__law_changed_told : VSp := specF (A := List Int × List Int) (fun a => [tupI a.1, tupI a.2]) (fun a => Rw a.1 ∧ Rw a.2) fun a => .v (toldC (become a.1 a.2))
def s__law_is_told : VSp := specF (A := List Int × List Int × List Int) (fun a => [tupI a.1, tupI a.2.1, tupI a.2.2]) (fun a => Rw a.1 ∧ Rw a.2.1 ∧ Rw a.2.2) fun _ => .v (.bl true)
def s__law_drawn_change : VSp := spec (A := Nat × List Int) (fun a => [.ref a.1, tupI a.2]) (fun a vh => (∃ o, vh[a.1]? = some o ∧ isHand o) ∧ Rw a.2) fun a vh x vh' => ∃ (bs : List Int) (o : VO), x = .v (tupI bs) ∧ Byt bs ∧ bs.length ≤ 600 ∧ isHand o ∧ vh' = vh.set a.1 o
def s__law_spliced : VSp := spec (A := Nat × List Int) (fun a => [.ref a.1, tupI a.2]) (fun a vh => (∃ o, vh[a.1]? = some o ∧ isHand o) ∧ Byt a.2 ∧ a.2.length ≤ 1000) fun a vh x vh' => ∃ (bs : List Int) (o : VO), x = .v (tupI bs) ∧ Byt bs ∧ bs.length ≤ a.2.length + 18 ∧ isHand o ∧ vh' = vh.set a.1 o
def s__law_is_path : VSp := specF (A := List Int × List Int) (fun a => [tupI a.1, tupI a.2]) (fun a => (Byt a.1 ∧ a.1.length ≤ 1000) ∧ Byt a.2 ∧ a.2.length ≤ 1000) fun _ => .v (.bl true)
def s_law : VSp := spec (A := List Int) (fun ns => [.scr ns]) (fun _ _ => True) fun _ _ x _ => x = .v (.bl true)
def PhiL (n : Nat) : Fns := fun x => if x = "is_integer" then s_is_integer else if x = "is_within" then s_is_within else if x = "is_below" then s_is_below else if x = "is_row" then s_is_row else if x = "check_row" then s_check_row else if x = "figures_of" then s_figures_of
  else if x = "number_at" then s_number_at else if x = "part_at" then s_part_at else if x = "changed_or_wrong" then s_changed_or_wrong else if x = "changed" then s_changed else if x = "common_begin" then s_common_begin else if x = "common_end" then s_common_end else if x = "part_row" then s_part_row
  else if x = "change_of" then s_change else if x = "change" then s_change else if x = "is_change" then s_is_change else if x = "_law_hand" then s__law_hand else if x = "_law_draw" then s__law_draw else if x = "_law_is" then s__law_is n else if x = "_law_deep" then s__law_deep
  else if x = "_law_whole" then s__law_whole else if x = "_law_read" then s__law_read else if x = "_law_byte" then s__law_byte else if x = "_law_bytes" then s__law_bytes else if x = "_law_spoilt" then s__law_spoilt else if x = "_law_become" then s__law_become else if x = "_law_changed_told" then s__law_changed_told
  else if x = "_law_is_told" then s__law_is_told else if x = "_law_drawn_change" then s__law_drawn_change else if x = "_law_spliced" then s__law_spliced else if x = "_law_is_path" then s__law_is_path else if x = "law" then s_law else none_sp
@[reducible] def Phi : Fns := PhiL 5
def Hd (n : Nat) (vh : VH) : Prop := ∃ o, vh[n]? = some o ∧ isHand o
theorem fx_trans {n : Nat} {a b c : VH} (h1 : Fx n a b) (h2 : Fx n b c) : Fx n a c := ⟨h2.1.trans h1.1, fun j e => (h2.2 j e).trans (h1.2 j e)⟩
theorem vh_eq {n : Nat} {vh vh' : VH} {o u : VO} (h1 : vh[n]? = some u) (h2 : vh'[n]? = some o) (f : Fx n vh vh') : vh' = vh.set n o := by
  apply List.ext_getElem?
  intro j
  by_cases e : j = n
  · subst e
    rw [get_set h1]
    exact h2
  · rw [List.getElem?_set_ne (Ne.symm e)]
    exact f.2 j e
theorem th_row {bs : List Int} (h : bs.length ≤ 3000) : Th (tupI bs) := ⟨⟨_, rfl⟩, fun xs e => by
  injection e with e
  subst e
  refine ⟨by rw [List.length_map]; exact h, fun x hx => ?_⟩
  obtain ⟨b, _, rfl⟩ := List.mem_map.mp hx
  exact ⟨_, rfl⟩⟩
theorem all_byte {bs : List Int} : Byt bs → (bs.map D.int).all byteD = true := fun h => by
  rw [List.all_eq_true]
  intro x hx
  obtain ⟨b, hb, rfl⟩ := List.mem_map.mp hx
  have := h b hb
  exact decide_eq_true (by omega)
theorem row_byt {bs : List Int} (h : Byt bs) : rowD (tupI bs) = true := all_byte h
theorem isCh_row {one other bs : List Int} (h : Byt bs) : isCh one other (tupI bs) = decide (become one bs = (some other, 0)) := by
  show ((bs.map D.int).all byteD && decide (become one ((bs.map D.int).map _) = (some other, 0))) = _
  rw [all_byte h, Bool.true_and, List.map_map]
  congr 2
  have e : ∀ l : List Int, l.map ((fun x : D => match x with
    | .int i => i
    | _ => 0) ∘ D.int) = l := fun l => by
    induction l with
    | nil => rfl
    | cons a l ih => rw [List.map_cons, ih]; rfl
  rw [e]
/-! ### calls -/
section
variable {vh : VH} {k : DV → VH → Prop} {kx : Str → List D → VH → Prop} {m : Nat}
theorem c_is_integer {d : D} (h : Ty d) (q : k (.v (.bl (isI d))) vh) : (PhiL m "is_integer").run [d] vh (callK k kx) := call_specF (A := D) d rfl h q
theorem c_is_within {d : D} {l u : Int} (h : Ty d) (q : k (.v (.bl (wIn d l u))) vh) : (PhiL m "is_within").run [d, .int l, .int u] vh (callK k kx) := call_specF (A := D × Int × Int) (d, l, u) rfl h q
theorem c_is_below {d : D} {u : Int} (h : Ty d) (q : k (.v (.bl (wIn d 0 (u - 1)))) vh) : (PhiL m "is_below").run [d, .int u] vh (callK k kx) := call_specF (A := D × Int) (d, u) rfl h q
theorem c_is_row {d : D} (h : Th d) (q : k (.v (.bl (rowD d))) vh) : (PhiL m "is_row").run [d] vh (callK k kx) := call_specF (A := D) d rfl h q
theorem c_check_row {bs : List Int} (h : Rw bs) (q : k (.v .non) vh) : (PhiL m "check_row").run [tupI bs] vh (callK k kx) := call_specF (A := List Int) bs rfl h q
theorem c_figures_of {i : Int} (h0 : 0 ≤ i) (h1 : i < 1180591620717411303424) (q : k (.v (tupI (fig i.toNat))) vh) : (PhiL m "figures_of").run [.int i] vh (callK k kx) := call_specF (A := Nat) i.toNat (by rw [Int.toNat_of_nonneg h0]) (by show i.toNat < _; omega) q
theorem c_number_at {bs : List Int} {at_ : Nat} (h : rowAt (bs, at_)) (q : k (.v (dataR at_ (rd (bs.drop at_)))) vh) : (PhiL m "number_at").run [tupI bs, .int at_] vh (callK k kx) := call_specF (A := List Int × Nat) (bs, at_) rfl h q
theorem c_part_at {bs : List Int} {at_ : Nat} (h : rowAt (bs, at_)) (q : k (.v (dataP bs at_)) vh) : (PhiL m "part_at").run [tupI bs, .int at_] vh (callK k kx) := call_specF (A := List Int × Nat) (bs, at_) rfl h q
theorem c_changed_or_wrong {a b : List Int} (h : Rw a) (h2 : Rw b) (q : k (.v (dataC (become a b))) vh) : (PhiL m "changed_or_wrong").run [tupI a, tupI b] vh (callK k kx) := call_specF (A := List Int × List Int) (a, b) rfl ⟨h, h2⟩ q
theorem c_changed {a b : List Int} (h : Rw a) (h2 : Rw b) (q : callK k kx (outC (become a b)) vh) : (PhiL m "changed").run [tupI a, tupI b] vh (callK k kx) := call_specE (A := List Int × List Int) (a, b) rfl ⟨h, h2⟩ q
theorem c_changedI {a b r : List Int} {j : Nat} (h : Rw a) (h2 : Rw b) (e : become a b = (some r, j)) (q : k (.v (tupI r)) vh) : (PhiL m "changed").run [tupI a, tupI b] vh (callK k kx) := c_changed h h2 (by rw [e]; exact q)
theorem c_common_begin {a b : List Int} (h : Rw a) (h2 : Rw b) (q : ∀ x : Nat, x ≤ a.length → x ≤ b.length → b.take x = a.take x → (a = b → x = a.length) → k (.v (.int x)) vh) : (PhiL m "common_begin").run [tupI a, tupI b] vh (callK k kx) := call_spec (A := List Int × List Int) (a, b) rfl ⟨h, h2⟩ (by
  rintro _ _ ⟨rfl, x, rfl, g1, g2, g3, g4⟩
  exact q x g1 g2 g3 g4)
theorem c_common_end {a b : List Int} {u : Int} (h : Rw a) (h2 : Rw b) (h0 : 0 ≤ u) (h3 : u ≤ a.length) (h4 : u ≤ b.length) (q : ∀ x : Nat, x ≤ u → b.drop (b.length - x) = a.drop (a.length - x) → k (.v (.int x)) vh) : (PhiL m "common_end").run [tupI a, tupI b, .int u] vh (callK k kx) :=
  call_spec (A := List Int × List Int × Nat) (a, b, u.toNat) (by rw [Int.toNat_of_nonneg h0]) ⟨h, h2, by show u.toNat ≤ a.length; omega, by show u.toNat ≤ b.length; omega⟩ (by
  rintro _ _ ⟨rfl, x, rfl, g1, g2⟩
  exact q x (by dsimp only at g1; omega) g2)
theorem c_part_row {i u : Int} (h : 0 ≤ i ∧ i < 3) (h2 : 0 ≤ u ∧ u ≤ 3000) (q : k (.v (tupI (pr i.toNat u.toNat))) vh) : (PhiL m "part_row").run [.int i, .int u] vh (callK k kx) := call_specF (A := Nat × Nat) (i.toNat, u.toNat) (by rw [Int.toNat_of_nonneg h.1, Int.toNat_of_nonneg h2.1]) ⟨by show i.toNat < 3; omega, by show u.toNat ≤ 3000; omega⟩ q
theorem c_change {a b : List Int} (h : Rw a) (h2 : Rw b) (q : ∀ c : List Int, Byt c → become a c = (some b, 0) → c.length ≤ b.length + 11 → (a = b → c.length ≤ 11) → k (.v (tupI c)) vh) : (PhiL m "change").run [tupI a, tupI b] vh (callK k kx) := call_spec (A := List Int × List Int) (a, b) rfl ⟨h, h2⟩ (by
  rintro _ _ ⟨rfl, x, rfl, g1, g2, g3, g4⟩
  exact q x g1 g2 g3 g4)
theorem c_change_of {a b : List Int} (h : Rw a) (h2 : Rw b) (q : ∀ c : List Int, Byt c → become a c = (some b, 0) → c.length ≤ b.length + 11 → (a = b → c.length ≤ 11) → k (.v (tupI c)) vh) : (PhiL m "change_of").run [tupI a, tupI b] vh (callK k kx) := call_spec (A := List Int × List Int) (a, b) rfl ⟨h, h2⟩ (by
  rintro _ _ ⟨rfl, x, rfl, g1, g2, g3, g4⟩
  exact q x g1 g2 g3 g4)
theorem c_is_change {a b : List Int} {d : D} (h : Rw a) (h2 : Rw b) (h3 : Th d) (q : k (.v (.bl (isCh a b d))) vh) : (PhiL m "is_change").run [tupI a, tupI b, d] vh (callK k kx) := call_specF (A := List Int × List Int × D) (a, b, d) rfl ⟨h, h2, h3⟩ q
theorem c__law_hand {ns : List Int} (q : ∀ ds, isHand (.lst ds) → k (.fr ds) vh) : (PhiL m "_law_hand").run [.scr ns] vh (callK k kx) := call_spec (A := List Int) ns rfl trivial (by
  rintro _ _ ⟨ds, rfl, h, rfl⟩
  exact q ds h)
theorem c__law_draw {n : Nat} {u : Int} (h : Hd n vh) (h3 : 0 < u ∧ u ≤ 18446744073709551616) (q : ∀ (x : Int) (vh' : VH), 0 ≤ x → x < u → Hd n vh' → Fx n vh vh' → k (.v (.int x)) vh') : (PhiL m "_law_draw").run [.ref n, .int u] vh (callK k kx) := by
  obtain ⟨o0, h1, h2⟩ := h
  refine call_spec (A := Nat × Int) (n, u) rfl ⟨⟨o0, h1, h2⟩, h3⟩ ?_
  rintro _ _ ⟨x, o, rfl, a1, a2, a3, rfl⟩
  exact q x _ a1 a2 ⟨o, get_set h1, a3⟩ fx_set
theorem c__law_is {d e : D} (hd : d = e) (h : plD m d = true) (q : k (.v (.bl true)) vh) : (PhiL (m + 1) "_law_is").run [d, e] vh (callK k kx) := by
  subst hd
  exact call_specF (A := D) d rfl h q
theorem c__law_deep {n : Nat} (h : Hd n vh) (q : ∀ (d : D) (vh' : VH), Th d → rowD d = false → Hd n vh' → Fx n vh vh' → k (.v d) vh') : (PhiL m "_law_deep").run [.ref n] vh (callK k kx) := by
  obtain ⟨o0, h1, h2⟩ := h
  refine call_spec (A := Nat) n rfl ⟨o0, h1, h2⟩ ?_
  rintro _ _ ⟨u, o, rfl, a1, a2, a3, rfl⟩
  exact q u _ a1 a2 ⟨o, get_set h1, a3⟩ fx_set
theorem c__law_whole {i : Int} (h0 : 0 ≤ i) (h1 : i < 18446744073709551616) (q : k (.v (tupI (fig i.toNat))) vh) : (PhiL m "_law_whole").run [.int i] vh (callK k kx) := call_specF (A := Nat) i.toNat (by rw [Int.toNat_of_nonneg h0]) (by show i.toNat < _; omega) q
theorem c__law_read {bs : List Int} {at_ : Nat} (h : rowAt (bs, at_)) (q : k (.v (dataR at_ (rd (bs.drop at_)))) vh) : (PhiL m "_law_read").run [tupI bs, .int at_] vh (callK k kx) := call_specF (A := List Int × Nat) (bs, at_) rfl h q
theorem c__law_byte {n : Nat} (h : Hd n vh) (q : ∀ (x : Int) (vh' : VH), 0 ≤ x → x < 256 → Hd n vh' → Fx n vh vh' → k (.v (.int x)) vh') : (PhiL m "_law_byte").run [.ref n] vh (callK k kx) := by
  obtain ⟨o0, h1, h2⟩ := h
  refine call_spec (A := Nat) n rfl ⟨o0, h1, h2⟩ ?_
  rintro _ _ ⟨u, o, rfl, a1, a2, a3, rfl⟩
  exact q u _ a1 a2 ⟨o, get_set h1, a3⟩ fx_set
theorem c__law_bytes {n : Nat} {u : Int} (h : Hd n vh) (h3 : 0 ≤ u ∧ u ≤ 1000) (q : ∀ (bs : List Int) (vh' : VH), Byt bs → bs.length ≤ u → Hd n vh' → Fx n vh vh' → k (.v (tupI bs)) vh') : (PhiL m "_law_bytes").run [.ref n, .int u] vh (callK k kx) := by
  obtain ⟨o0, h1, h2⟩ := h
  refine call_spec (A := Nat × Int) (n, u) rfl ⟨⟨o0, h1, h2⟩, h3⟩ ?_
  rintro _ _ ⟨bs, o, rfl, a1, a2, a3, rfl⟩
  exact q bs _ a1 a2 ⟨o, get_set h1, a3⟩ fx_set
theorem c__law_spoilt {n : Nat} {b : List Int} (h : Hd n vh) (h3 : Byt b) (h4 : b.length ≤ 2900) (q : ∀ (bs : List Int) (vh' : VH), Byt bs → bs.length ≤ b.length + 4 → Hd n vh' → Fx n vh vh' → k (.v (tupI bs)) vh') : (PhiL m "_law_spoilt").run [.ref n, tupI b] vh (callK k kx) := by
  obtain ⟨o0, h1, h2⟩ := h
  refine call_spec (A := Nat × List Int) (n, b) rfl ⟨⟨o0, h1, h2⟩, h3, h4⟩ ?_
  rintro _ _ ⟨bs, o, rfl, a1, a2, a3, rfl⟩
  exact q bs _ a1 a2 ⟨o, get_set h1, a3⟩ fx_set
theorem c__law_become {a b : List Int} (h : Rw a) (h2 : Rw b) (q : k (.v (dataB (become a b))) vh) : (PhiL m "_law_become").run [tupI a, tupI b] vh (callK k kx) := call_specF (A := List Int × List Int) (a, b) rfl ⟨h, h2⟩ q
theorem c__law_changed_told {a b : List Int} (h : Rw a) (h2 : Rw b) (q : k (.v (toldC (become a b))) vh) : (PhiL m "_law_changed_told").run [tupI a, tupI b] vh (callK k kx) := call_specF (A := List Int × List Int) (a, b) rfl ⟨h, h2⟩ q
theorem c__law_is_told {a b c : List Int} (h : Rw a) (h2 : Rw b) (h3 : Rw c) (q : k (.v (.bl true)) vh) : (PhiL m "_law_is_told").run [tupI a, tupI b, tupI c] vh (callK k kx) := call_specF (A := List Int × List Int × List Int) (a, b, c) rfl ⟨h, h2, h3⟩ q
theorem c__law_drawn_change {n : Nat} {b : List Int} (h : Hd n vh) (h3 : Rw b) (q : ∀ (bs : List Int) (vh' : VH), Byt bs → bs.length ≤ 600 → Hd n vh' → Fx n vh vh' → k (.v (tupI bs)) vh') : (PhiL m "_law_drawn_change").run [.ref n, tupI b] vh (callK k kx) := by
  obtain ⟨o0, h1, h2⟩ := h
  refine call_spec (A := Nat × List Int) (n, b) rfl ⟨⟨o0, h1, h2⟩, h3⟩ ?_
  rintro _ _ ⟨bs, o, rfl, a1, a2, a3, rfl⟩
  exact q bs _ a1 a2 ⟨o, get_set h1, a3⟩ fx_set
theorem c__law_spliced {n : Nat} {b : List Int} (h : Hd n vh) (h3 : Byt b) (h4 : b.length ≤ 1000) (q : ∀ (bs : List Int) (vh' : VH), Byt bs → bs.length ≤ b.length + 18 → Hd n vh' → Fx n vh vh' → k (.v (tupI bs)) vh') : (PhiL m "_law_spliced").run [.ref n, tupI b] vh (callK k kx) := by
  obtain ⟨o0, h1, h2⟩ := h
  refine call_spec (A := Nat × List Int) (n, b) rfl ⟨⟨o0, h1, h2⟩, h3, h4⟩ ?_
  rintro _ _ ⟨bs, o, rfl, a1, a2, a3, rfl⟩
  exact q bs _ a1 a2 ⟨o, get_set h1, a3⟩ fx_set
theorem c__law_is_path {a b : List Int} (h : Byt a) (h1 : a.length ≤ 1000) (h2 : Byt b) (h3 : b.length ≤ 1000) (q : k (.v (.bl true)) vh) : (PhiL m "_law_is_path").run [tupI a, tupI b] vh (callK k kx) := call_specF (A := List Int × List Int) (a, b) rfl ⟨⟨h, h1⟩, h2, h3⟩ q
end
local macro_rules | `(tactic| walk_at "call1") => `(tactic| first
  | ((with_reducible refine' c_is_integer ?h1 ?_); (case h1 => first | exact ⟨_, rfl⟩ | assumption)) | ((with_reducible refine' c_is_within ?h1 ?_); (case h1 => first | exact ⟨_, rfl⟩ | assumption)) | ((with_reducible refine' c_is_below ?h1 ?_); (case h1 => first | exact ⟨_, rfl⟩ | assumption)))
/-! ### each def keeps its promise -/
theorem k_is_integer : Sat Phi Gam ir_is_integer tc_is_integer.N ["thing"] s_is_integer := by
  refine sat_specF (fun _ => rfl) ?_
  rintro d vh R ⟨n, hn⟩ q
  show wpB Phi Gam ir_is_integer _ _ [.val d] vh
  unfold ir_is_integer
  cases d <;> first
    | (cases hn; done)
    | (walk_at "r"; exact q)
theorem k_is_within : Sat Phi Gam ir_is_within tc_is_within.N ["thing", "least", "most"] s_is_within := by
  refine sat_specF (fun _ => rfl) ?_
  rintro ⟨d, l, m⟩ vh R hd q
  show wpB Phi Gam ir_is_within _ _ [.val d, .val (.int l), .val (.int m)] vh
  unfold ir_is_within
  walk_at "r"
  obtain ⟨n, hn⟩ := hd
  cases d <;> first
    | (cases hn; done)
    | (walk_at "r"; exact q)
    | (walk_at "r"
       refine p_true ?_
       walk_at "r"
       refine p_dec (fun h1 => ?_) (fun h1 => ?_)
       · walk_at "r"
         simpa [h1, wIn] using q
       · simpa [h1, wIn] using q)
theorem k_is_below : Sat Phi Gam ir_is_below tc_is_below.N ["thing", "many"] s_is_below := by
  refine sat_specF (fun _ => rfl) ?_
  rintro ⟨d, m⟩ vh R hd q
  show wpB Phi Gam ir_is_below _ _ [.val d, .val (.int m)] vh
  unfold ir_is_below
  dsimp only at hd
  walk_at "r"
  exact q
theorem k_is_row : Sat Phi Gam ir_is_row tc_is_row.N ["thing"] s_is_row := by
  refine sat_specF (fun _ => rfl) ?_
  rintro d vh R ⟨hd, hx⟩ q
  show wpB Phi Gam ir_is_row _ _ [.val d, .no, .no] vh
  unfold ir_is_row
  cases d with
  | tup xs =>
    obtain ⟨hl, ht⟩ := hx xs rfl
    walk_at "r"
    refine p_dec (fun h1 => ?_) (fun h1 => ?_)
    · walk_at "r"
      refine lc_map (fun d => .bl (wIn d 0 (256 - 1))) _ _ _ (fun d hd R q => ?_) ?_ ?_
      · have htd := ht d hd
        walk_at "r"
        exact q
      · simp
        omega
      · walk_at "r"
        refine f_all (bs := xs.map fun d => wIn d 0 (256 - 1)) (by simp) ?_
        have e : (xs.map fun d => wIn d 0 (256 - 1)).all id = xs.all byteD := by
          rw [List.all_map]
          rfl
        (rw [e]; try rfl)
        exact q
    · omega
  | _ =>
    obtain ⟨n, hn⟩ := hd
    first
      | (cases hn; done)
      | (walk_at "r"; exact q)
theorem k_check_row : Sat Phi Gam ir_check_row tc_check_row.N ["thing"] s_check_row := by
  refine sat_specF (fun _ => rfl) ?_
  rintro bs vh R h q
  show wpB Phi Gam ir_check_row _ _ [.val (tupI bs)] vh
  unfold ir_check_row
  walk_at "r"
  refine c_is_row (th_row h.2) ?_
  rw [row_byt h.1]
  walk_at "r"
  exact q
theorem k_figures_of : Sat Phi Gam ir_figures_of tc_figures_of.N ["number"] s_figures_of := by
  refine sat_specF (fun _ => rfl) ?_
  rintro n vh R hn q
  show wpB Phi Gam ir_figures_of _ _ [.val (.int n), .no, .no] vh
  unfold ir_figures_of
  walk_at "r"
  have hl := fig_len10 hn
  refine b_cut (fun e h => h = vh ∧ ∃ (a : List Int) (j : Nat), j < 128 ∧ a ++ [(j : Int)] = fig n ∧ e = [.val (.int n), .own (a.map D.int), .val (.int j)]) ?_ ?_
  · refine s_whl (fun w e h => h = vh ∧ ∃ (a : List Int), a ++ fig w = fig n ∧ e = [.val (.int n), .own (a.map D.int), .val (.int (w : Int))]) ⟨n, rfl, [], rfl, rfl⟩ ?_
    rintro j _ _ ⟨rfl, a, ha, rfl⟩
    walk_at "r"
    refine p_dec (fun h1 => ?_) (fun h1 => ?_)
    · have hj := fig_ge (n := j) (by omega)
      have hla : a.length ≤ 10 := by
        have := congrArg List.length ha
        rw [List.length_append] at this
        omega
      walk_at "r"
      refine ⟨by rw [List.length_map]; omega, ?_⟩
      walk_at "r"
      refine ⟨j / 128, by omega, rfl, a ++ [((j % 128 + 128 : Nat) : Int)], ?_, ?_⟩
      · rw [List.append_assoc, List.singleton_append, ← hj]
        exact ha
      · rw [List.map_append]
        have e1 : (j : Int) % 128 + 128 = ((j % 128 + 128 : Nat) : Int) := by omega
        have e2 : (j : Int) / 128 = ((j / 128 : Nat) : Int) := by omega
        rw [e1, e2]
        rfl
    · refine hold ⟨rfl, a, j, by omega, ?_, rfl⟩
      rw [← ha, fig_lt (by omega)]
  · rintro _ _ ⟨rfl, a, j, hj, ha, rfl⟩
    have hla : a.length ≤ 10 := by
      have := congrArg List.length ha
      rw [List.length_append] at this
      omega
    walk_at "r"
    have e : (a.map D.int ++ [D.int j]) = (fig n).map D.int := by rw [← ha, List.map_append]; rfl
    · rw [e]
      exact q
    · simp
      omega
theorem val_snoc : ∀ (a : List Int) (b : Int), val (a ++ [b]) = val a + b % 128 * 128 ^ a.length
  | [], b => by
    show b % 128 + 128 * 0 = 0 + b % 128 * 1
    omega
  | x :: a, b => by
    show x % 128 + 128 * val (a ++ [b]) = (x % 128 + 128 * val a) + b % 128 * 128 ^ (a.length + 1)
    rw [val_snoc a b, Int.pow_succ]
    grind
theorem rd_hit {l : List Int} {k : Nat} (hk : k < 10) (hl : k < l.length) (h1 : l[k] < 128) (h2 : ∀ j (hj : j < k), 128 ≤ l[j]) :
    rd l = if (0 < k ∧ l[k] = 0) ∨ 18446744073709551616 ≤ val (l.take (k + 1)) then none else some (val (l.take (k + 1)), k + 1) := by
  unfold rd
  have e : (l.take 10).findIdx? (fun b => decide (b < 128)) = some k := by
    rw [List.findIdx?_eq_some_iff_getElem]
    refine ⟨by rw [List.length_take]; omega, by rw [List.getElem_take]; simpa using h1, fun j hj => ?_⟩
    rw [List.getElem_take]
    have := h2 j hj
    simp
    omega
  rw [e]
  dsimp only
  have e2 : (l[k]? = some 0) = (l[k] = 0) := by
    rw [List.getElem?_eq_getElem hl]
    simp
  simp only [e2]
theorem rd_miss {l : List Int} (h : ∀ j (hj : j < l.length), j < 10 → 128 ≤ l[j]) : rd l = none := by
  unfold rd
  have e : (l.take 10).findIdx? (fun b => decide (b < 128)) = none := by
    rw [List.findIdx?_eq_none_iff]
    intro x hx
    obtain ⟨j, hj, rfl⟩ := List.mem_iff_getElem.mp hx
    rw [List.length_take] at hj
    rw [List.getElem_take]
    have := h j (by omega) (by omega)
    simp
    omega
  rw [e]
theorem atI_drop {bs : List Int} {at_ k : Nat} (h : k < (bs.drop at_).length) {i : Int} (e : i = (at_ : Int) + (k : Int)) : atI (bs.map D.int) i = some (.int (bs.drop at_)[k]) := by
  subst e
  rw [List.length_drop] at h
  unfold atI ixN
  rw [List.length_map, if_pos (by omega), if_pos (by omega)]
  have e : ((at_ : Int) + (k : Int)).toNat = at_ + k := by omega
  rw [e]
  show (bs.map D.int)[at_ + k]? = _
  rw [List.getElem?_map, List.getElem?_eq_getElem (by omega), List.getElem_drop]
  rfl
theorem pow128 (k : Nat) : (0 : Int) < 128 ^ k := Int.pow_pos (by decide)
theorem k_number_at : Sat Phi Gam ir_number_at tc_number_at.N ["row", "at"] s_number_at := by
  refine sat_specF (fun _ => rfl) ?_
  rintro ⟨bs, at_⟩ vh R ⟨hb, hl, ha⟩ q
  dsimp only at hb hl ha q
  show wpB Phi Gam ir_number_at _ _ [.val (tupI bs), .val (.int at_), .no, .no, .no, .no] vh
  unfold ir_number_at
  have hlm : (List.map D.int bs).length = bs.length := List.length_map _
  obtain ⟨l, hll⟩ : ∃ l, l = bs.drop at_ := ⟨_, rfl⟩
  have hlen : l.length = bs.length - at_ := by rw [hll, List.length_drop]
  walk_at "r"
  obtain ⟨b, hb0⟩ : ∃ b, b = (if (at_ : Int) + 10 < ((List.map D.int bs).length : Int) then (at_ : Int) + 10 else ((List.map D.int bs).length : Int)) := ⟨_, rfl⟩
  have hb1 : (at_ : Int) ≤ b ∧ b ≤ 300000 ∧ (b - at_).toNat = min 10 l.length := by
    rw [hb0]
    split <;> omega
  rw [← hb0]
  obtain ⟨c, hc⟩ : ∃ c, c = min 10 l.length := ⟨_, rfl⟩
  have ec : (b - (at_ : Int)).toNat = c := by omega
  rw [ec]
  refine for_rule (fun rest e h => h = vh ∧ ∃ (k : Nat) (s4 s5 : Slot), k ≤ c ∧ rest = ((List.range c).drop k).map (fun (i : Nat) => D.int ((at_ : Int) + (i : Int))) ∧ (∀ j (hj : j < l.length), j < k → 128 ≤ l[j]) ∧ e = [.val (tupI bs), .val (.int at_), .val (.int (val (l.take k))), .val (.int (128 ^ k)), s4, s5]) ?_ ?_ _ _ _ ⟨rfl, 0, .no, .no, by omega, by simp, fun j hj h => absurd h (by omega), rfl⟩
  · rintro _ _ ⟨rfl, k, s4, s5, hk, hr, hj, rfl⟩
    have ek : k = c := by
      have := congrArg List.length hr
      simp at this
      omega
    subst ek
    walk_at "r"
    rw [← hll, rd_miss (fun j h1 h2 => hj j h1 (by omega))] at q
    exact q
  · rintro d ds _ _ ⟨rfl, k, s4, s5, hk, hr, hj, rfl⟩ ih
    have hkc : k < c := by
      have := congrArg List.length hr
      simp at this
      omega
    have hkl : k < l.length := by omega
    rw [List.drop_eq_getElem_cons (by simpa using hkc), List.map_cons] at hr
    cases hr
    rw [List.getElem_range]
    have hat : atI (List.map D.int bs) ((at_ : Int) + (k : Int)) = some (.int l[k]) := by
      have := atI_drop (bs := bs) (at_ := at_) (k := k) (by rw [← hll]; exact hkl) rfl
      rw [this]
      simp only [hll]
    have hval : val (l.take k) + l[k] % 128 * 128 ^ k = val (l.take (k + 1)) := by
      have e : l.take (k + 1) = l.take k ++ [l[k]] := by rw [List.take_append_getElem]
      rw [e, val_snoc, List.length_take, Nat.min_eq_left (by omega)]
    walk_at "r"
    refine i_tup hat ?_
    walk_at "r"
    · rw [hval]
      refine i_tup hat ?_
      walk_at "r"
      refine p_dec (fun h1 => ?_) (fun h1 => ?_)
      · have hh := rd_hit (by omega) hkl h1 (fun j h2 => hj j (by omega) h2)
        walk_at "r"
        refine i_tup hat ?_
        walk_at "r"
        refine p_dec (fun h2 => ?_) (fun h2 => ?_)
        · walk_at "r"
          refine p_dec (fun h3 => ?_) (fun h3 => ?_)
          · walk_at "r"
            rw [← hll, hh, if_pos (.inl ⟨by omega, h2⟩)] at q
            exact q
          · walk_at "r"
            refine p_dec (fun h4 => ?_) (fun h4 => ?_)
            · walk_at "r"
              rw [← hll, hh, if_pos (.inr h4)] at q
              exact q
            · walk_at "r"
              rw [← hll, hh, if_neg (by omega)] at q
              have e : (at_ : Int) + (k : Int) + 1 = (at_ : Int) + ((k + 1 : Nat) : Int) := by omega
              rw [e]
              exact q
        · walk_at "r"
          refine p_dec (fun h3 => absurd h3 h2) (fun _ => ?_)
          walk_at "r"
          refine p_dec (fun h4 => ?_) (fun h4 => ?_)
          · walk_at "r"
            rw [← hll, hh, if_pos (.inr h4)] at q
            exact q
          · walk_at "r"
            rw [← hll, hh, if_neg (by omega)] at q
            have e : (at_ : Int) + (k : Int) + 1 = (at_ : Int) + ((k + 1 : Nat) : Int) := by omega
            rw [e]
            exact q
      · walk_at "r"
        rw [← Int.pow_succ]
        refine ih _ _ ⟨rfl, k + 1, _, _, hkc, rfl, fun j h2 h3 => ?_, rfl⟩
        by_cases e : j = k
        · subst e
          omega
        · exact hj j h2 (by omega)

theorem k_part_at : Sat Phi Gam ir_part_at tc_part_at.N ["change", "at"] s_part_at := by
  refine sat_specF (fun _ => rfl) ?_
  rintro ⟨bs, at_⟩ vh R h q
  dsimp only at q
  show wpB Phi Gam ir_part_at _ _ [.val (tupI bs), .val (.int at_), .no, .no, .no, .no, .no] vh
  unfold ir_part_at
  walk_at "r"
  refine c_number_at h ?_
  unfold dataP at q
  cases e : rd (bs.drop at_) with
  | none =>
    rw [e] at q
    unfold dataR
    dsimp only
    walk_at "r"
    exact q
  | some p =>
    obtain ⟨n, t⟩ := p
    rw [e] at q
    dsimp only at q
    obtain ⟨n0, _⟩ := rd_nonneg e
    have hlm : (bs.map D.int).length = bs.length := List.length_map _
    unfold dataR
    dsimp only
    walk_at "r"
    refine p_dec (fun h1 => ?_) (fun h1 => ?_)
    · walk_at "r"
      rw [if_pos (.inl (by omega))] at q
      exact q
    · walk_at "r"
      refine p_dec (fun h2 => ?_) (fun h2 => ?_)
      · walk_at "r"
        refine p_dec (fun h3 => ?_) (fun h3 => ?_)
        · walk_at "r"
          rw [if_pos (.inr ⟨h2, by omega⟩)] at q
          exact q
        · walk_at "r"
          rw [if_neg (by omega)] at q
          exact q
      · walk_at "r"
        rw [if_neg (by omega)] at q
        exact q
theorem k_changed : Sat Phi Gam ir_changed tc_changed.N ["one", "change"] s_changed := by
  refine sat_specE (fun _ => rfl) ?_
  rintro ⟨a, b⟩ vh R ⟨ha, hb⟩ q
  dsimp only at ha hb q
  show wpB Phi Gam ir_changed _ _ [.val (tupI a), .val (tupI b), .no, .no] vh
  unfold ir_changed
  walk_at "r"
  refine c_check_row ha ?_
  walk_at "r"
  refine c_check_row hb ?_
  walk_at "r"
  refine c_changed_or_wrong ha hb ?_
  generalize become a b = z at q
  obtain ⟨o, j⟩ := z
  cases o with
  | none =>
    unfold outC at q
    unfold dataC
    dsimp only at q ⊢
    walk_at "r"
    exact q
  | some r =>
    unfold outC at q
    unfold dataC
    dsimp only at q ⊢
    walk_at "r"
    exact q
theorem cut_both {α : Type} {xs : List α} {v w : Int} {a m : Nat} (h : v = a) (h2 : w = a + m) (hl : a + m ≤ xs.length) : cutL xs (some v) (some w) = (xs.drop a).take m := by
  subst h h2
  unfold cutL HT.sIx
  dsimp only
  rw [if_neg (by omega), if_neg (by omega)]
  have e1 : min ((a : Int)).toNat xs.length = a := by omega
  have e2 : min ((a : Int) + (m : Int)).toNat xs.length = a + m := by omega
  rw [e1, e2, show a + m - a = m by omega]
theorem k_part_row : Sat Phi Gam ir_part_row tc_part_row.N ["kind", "many"] s_part_row := by
  refine sat_specF (fun _ => rfl) ?_
  rintro ⟨i, m⟩ vh R ⟨hi, hm⟩ q
  dsimp only at hi hm q
  show wpB Phi Gam ir_part_row _ _ [.val (.int i), .val (.int m)] vh
  unfold ir_part_row
  unfold pr at q
  walk_at "r"
  refine p_dec (fun h1 => ?_) (fun h1 => ?_)
  · walk_at "r"
    refine c_figures_of (by omega) (by omega) ?_
    walk_at "r"
    rw [if_pos (by omega)] at q
    have e : (3 * (m : Int) + (i : Int)).toNat = 3 * m + i := by omega
    rw [e]
    exact q
  · walk_at "r"
    rw [if_neg (by omega)] at q
    exact q
theorem k_change : Sat Phi Gam ir_change tc_change.N ["one", "other"] s_change := by
  refine sat_spec (fun _ => rfl) ?_
  rintro ⟨a, b⟩ vh R ⟨ha, hb⟩ q
  dsimp only at ha hb q
  show wpB Phi Gam ir_change _ _ [.val (tupI a), .val (tupI b)] vh
  unfold ir_change
  walk_at "r"
  refine c_check_row ha ?_
  walk_at "r"
  refine c_check_row hb ?_
  walk_at "r"
  refine c_change_of ha hb fun c g1 g2 g3 g4 => ?_
  walk_at "r"
  exact q _ _ ⟨rfl, c, rfl, g1, g2, g3, g4⟩
theorem k_changed_or_wrong : Sat Phi Gam ir_changed_or_wrong tc_changed_or_wrong.N ["one", "change"] s_changed_or_wrong := by
  refine sat_specF (fun _ => rfl) ?_
  rintro ⟨one, row⟩ vh R ⟨ho, hr⟩ q
  dsimp only at ho hr q
  show wpB Phi Gam ir_changed_or_wrong _ _ [.val (tupI one), .val (tupI row), .no, .no, .no, .no, .no, .no, .no] vh
  unfold ir_changed_or_wrong
  have hl1 : (one.map D.int).length = one.length := List.length_map _
  have hl2 : (row.map D.int).length = row.length := List.length_map _
  have hz1 := ho.2
  have hz2 := hr.2
  walk_at "r"
  refine b_cut (fun e h => h = vh ∧ ∃ (r : List Int) (s3 s4 s5 s6 s7 s8 : Slot), become one row = (some r, 0) ∧ r.length ≤ 6000 ∧ e = [.val (tupI one), .val (tupI row), .own (r.map D.int), s3, s4, s5, s6, s7, s8]) ?_ ?_
  · refine s_whl (fun w e h => h = vh ∧ ∃ (here at_ f : Nat) (acc : List Int) (s5 s6 s7 s8 : Slot), w = row.length - at_ ∧ at_ ≤ row.length ∧ row.length < at_ + f ∧ here ≤ one.length ∧ acc.length ≤ here + at_ ∧ bec one row f here at_ acc = become one row ∧
        e = [.val (tupI one), .val (tupI row), .own (acc.map D.int), .val (.int here), .val (.int at_), s5, s6, s7, s8]) ⟨row.length, rfl, 0, 0, row.length + 1, [], .no, .no, .no, .no, rfl, Nat.zero_le _, by omega, Nat.zero_le _, Nat.zero_le _, rfl, rfl⟩ ?_
    rintro j _ vh2 ⟨hv, here, at_, f, acc, s5, s6, s7, s8, hj, hat, hf, hh, hacc, hbec, rfl⟩
    obtain ⟨f, rfl⟩ : ∃ g, f = g + 1 := ⟨f - 1, by omega⟩
    have hl3 : (acc.map D.int).length = acc.length := List.length_map _
    walk_at "r"
    unfold bec at hbec
    refine p_dec (fun h1 => ?_) (fun h1 => ?_)
    · walk_at "r"
      refine c_part_at ⟨hr.1, by dsimp only; omega, hat⟩ ?_
      rw [if_neg (by omega)] at hbec
      unfold dataP
      cases e : rd (row.drop at_) with
      | none =>
        rw [e] at hbec
        dsimp only at hbec ⊢
        walk_at "r"
        rw [← hbec] at q
        subst hv
        exact q
      | some p =>
        obtain ⟨n, t⟩ := p
        obtain ⟨t0, t1⟩ := rd_len e
        obtain ⟨n0, _⟩ := rd_nonneg e
        rw [List.length_drop] at t1
        rw [e] at hbec
        dsimp only at hbec ⊢
        by_cases h3 : n < 3 ∨ (n % 3 = 2 ∧ row.length < at_ + t + (n / 3).toNat)
        · rw [if_pos h3]
          walk_at "r"
          have e2 : become one row = (none, at_) := by
            rw [← hbec]
            by_cases h4 : n < 3
            · rw [if_pos h4]
            · rw [if_neg h4, if_pos (by omega), if_pos (by omega)]
          rw [e2] at q
          subst hv
          exact q
        · rw [if_neg h3]
          rw [if_neg (by omega)] at hbec
          have hm : here + (n / 3).toNat ≤ one.length ∨ one.length < here + (n / 3).toNat := by omega
          walk_at "r"
          refine p_ndec (fun h4 => ?_) (fun h4 => ?_)
          · walk_at "r"
            rw [if_neg h4] at hbec
            refine p_dec (fun h5 => ?_) (fun h5 => ?_)
            · walk_at "r"
              rw [if_pos (by omega)] at hbec
              rw [← hbec] at q
              subst hv
              exact q
            · walk_at "r"
              rw [if_neg (by omega)] at hbec
              refine p_dec (fun h6 => ?_) (fun h6 => ?_)
              · have hc : cutL (one.map D.int) (some (here : Int)) (some ((here : Int) + n / 3)) = ((one.drop here).take (n / 3).toNat).map D.int := by
                  rw [cut_both (m := (n / 3).toNat) rfl (by omega) (by omega), List.map_take, List.map_drop]
                have hcl : ((one.drop here).take (n / 3).toNat).length = (n / 3).toNat := by
                  rw [List.length_take, List.length_drop]
                  omega
                walk_at "r"
                rw [hc]
                refine ⟨by rw [List.length_map, List.length_map]; omega, ?_⟩
                rw [← List.map_append]
                walk_at "r"
                refine p_dec (fun h7 => absurd h7 h4) (fun _ => ?_)
                rw [if_pos h6] at hbec
                walk_at "r"
                refine ⟨row.length - (at_ + t), by omega, hv, here + (n / 3).toNat, at_ + t, f, acc ++ (one.drop here).take (n / 3).toNat, .val (.tup [.int (n % 3), .int (n / 3), .int ((at_ : Int) + (t : Int))]), .val (.int (n % 3)), .val (.int (n / 3)), .val (.int ((at_ : Int) + (t : Int))), rfl, by omega, by omega, by omega, by rw [List.length_append]; omega, hbec, ?_⟩
                have e1 : (here : Int) + n / 3 = ((here + (n / 3).toNat : Nat) : Int) := by omega
                have e2 : (((at_ + t : Nat)) : Int) = (at_ : Int) + (t : Int) := by omega
                rw [e1, e2]
                rfl
              · walk_at "r"
                refine p_dec (fun h7 => absurd h7 h4) (fun _ => ?_)
                rw [if_neg h6] at hbec
                walk_at "r"
                refine ⟨row.length - (at_ + t), by omega, hv, here + (n / 3).toNat, at_ + t, f, acc, .val (.tup [.int (n % 3), .int (n / 3), .int ((at_ : Int) + (t : Int))]), .val (.int (n % 3)), .val (.int (n / 3)), .val (.int ((at_ : Int) + (t : Int))), rfl, by omega, by omega, by omega, by omega, hbec, ?_⟩
                have e1 : (here : Int) + n / 3 = ((here + (n / 3).toNat : Nat) : Int) := by omega
                have e2 : (((at_ + t : Nat)) : Int) = (at_ : Int) + (t : Int) := by omega
                rw [e1, e2]
                rfl
          · have hput : at_ + t + (n / 3).toNat ≤ row.length := by omega
            have hc : cutL (row.map D.int) (some ((at_ : Int) + (t : Int))) (some ((at_ : Int) + (t : Int) + n / 3)) = ((row.drop (at_ + t)).take (n / 3).toNat).map D.int := by
              rw [cut_both (a := at_ + t) (m := (n / 3).toNat) (by omega) (by omega) (by omega), List.map_take, List.map_drop]
            have hcl : ((row.drop (at_ + t)).take (n / 3).toNat).length = (n / 3).toNat := by
              rw [List.length_take, List.length_drop]
              omega
            rw [if_pos h4, if_neg (by omega)] at hbec
            walk_at "r"
            refine p_dec (fun h6 => by omega) (fun _ => ?_)
            walk_at "r"
            refine p_dec (fun _ => ?_) (fun h7 => absurd h4 h7)
            walk_at "r"
            rw [hc]
            refine ⟨by rw [List.length_map, List.length_map]; omega, ?_⟩
            rw [← List.map_append]
            walk_at "r"
            refine ⟨row.length - (at_ + t + (n / 3).toNat), by omega, hv, here, at_ + t + (n / 3).toNat, f, acc ++ (row.drop (at_ + t)).take (n / 3).toNat, .val (.tup [.int (n % 3), .int (n / 3), .int ((at_ : Int) + (t : Int))]), .val (.int (n % 3)), .val (.int (n / 3)), .val (.int ((at_ : Int) + (t : Int) + n / 3)), rfl, by omega, by omega, by omega, by rw [List.length_append]; omega, hbec, ?_⟩
            have e2 : ((at_ + t + (n / 3).toNat : Nat) : Int) = (at_ : Int) + (t : Int) + n / 3 := by omega
            rw [e2]
            rfl
    · refine hold ⟨hv, acc, _, _, _, _, _, _, ?_, by omega, rfl⟩
      rw [if_pos (by omega)] at hbec
      exact hbec.symm
  · rintro _ vh2 ⟨hv, r, s3, s4, s5, s6, s7, s8, he, hrl, rfl⟩
    rw [he] at q
    subst hv
    walk_at "r"
    exact q
theorem take_succ_eq {a b : List Int} {n : Nat} (h : b.take n = a.take n) (h1 : n < a.length) (h2 : n < b.length) (e : a[n] = b[n]) : b.take (n + 1) = a.take (n + 1) := by
  rw [List.take_succ_eq_append_getElem h2, List.take_succ_eq_append_getElem h1, h, e]
theorem drop_pred_eq {a b : List Int} {n : Nat} (h : b.drop (b.length - n) = a.drop (a.length - n)) (h1 : n < a.length) (h2 : n < b.length) (e : a[a.length - 1 - n] = b[b.length - 1 - n]) : b.drop (b.length - (n + 1)) = a.drop (a.length - (n + 1)) := by
  have e1 : b.length - (n + 1) < b.length := by omega
  have e2 : a.length - (n + 1) < a.length := by omega
  rw [List.drop_eq_getElem_cons e1, List.drop_eq_getElem_cons e2]
  have q1 : b.length - (n + 1) + 1 = b.length - n := by omega
  have q2 : a.length - (n + 1) + 1 = a.length - n := by omega
  rw [q1, q2, h]
  congr 1
  have p1 : b.length - (n + 1) = b.length - 1 - n := by omega
  have p2 : a.length - (n + 1) = a.length - 1 - n := by omega
  simp only [p1, p2]
  exact e.symm
theorem at_int {xs : List Int} {i : Int} {n : Nat} (hi : i = n) (h : n < xs.length) : atI (xs.map D.int) i = some (.int xs[n]) := by
  subst hi
  unfold atI ixN
  simp [h]
theorem k_common_begin : Sat Phi Gam ir_common_begin tc_common_begin.N ["one", "other"] s_common_begin := by
  refine sat_spec (fun _ => rfl) ?_
  rintro ⟨a, b⟩ vh R ⟨ha, hb⟩ q
  dsimp only at ha hb q
  show wpB Phi Gam ir_common_begin _ _ [.val (tupI a), .val (tupI b), .no] vh
  unfold ir_common_begin
  have hl1 : (a.map D.int).length = a.length := List.length_map _
  have hl2 : (b.map D.int).length = b.length := List.length_map _
  walk_at "r"
  refine b_cut (fun e h => h = vh ∧ ∃ n : Nat, n ≤ a.length ∧ n ≤ b.length ∧ b.take n = a.take n ∧ (a = b → n = a.length) ∧ e = [.val (tupI a), .val (tupI b), .val (.int n)]) ?_ ?_
  · refine s_whl (fun w e h => h = vh ∧ ∃ n : Nat, w = a.length - n ∧ n ≤ a.length ∧ n ≤ b.length ∧ b.take n = a.take n ∧ e = [.val (tupI a), .val (tupI b), .val (.int n)]) ⟨a.length, rfl, 0, rfl, Nat.zero_le _, Nat.zero_le _, rfl, rfl⟩ ?_
    rintro j _ vh2 ⟨hv, n, hj, h1, h2, h3, rfl⟩
    walk_at "r"
    refine p_dec (fun h4 => ?_) (fun h4 => ?_)
    · have g1 : n < a.length := by split at h4 <;> omega
      have g2 : n < b.length := by split at h4 <;> omega
      walk_at "r"
      refine i_tup (at_int rfl g1) ?_
      walk_at "r"
      refine i_tup (at_int rfl g2) ?_
      walk_at "r"
      refine p_dec (fun h5 => ?_) (fun h5 => ?_)
      · walk_at "r"
        exact ⟨a.length - (n + 1), by omega, hv, n + 1, rfl, by omega, by omega, take_succ_eq h3 g1 g2 h5, rfl⟩
      · walk_at "r"
        refine hold ⟨hv, n, h1, h2, h3, fun e => ?_, rfl⟩
        subst e
        exact absurd rfl h5
    · walk_at "r"
      refine hold ⟨hv, n, h1, h2, h3, fun e => ?_, rfl⟩
      subst e
      split at h4 <;> omega
  · rintro _ vh2 ⟨hv, n, h1, h2, h3, h4, rfl⟩
    subst hv
    walk_at "r"
    exact q _ _ ⟨rfl, n, rfl, h1, h2, h3, h4⟩
theorem k_common_end : Sat Phi Gam ir_common_end tc_common_end.N ["one", "other", "most"] s_common_end := by
  refine sat_spec (fun _ => rfl) ?_
  rintro ⟨a, b, m⟩ vh R ⟨ha, hb, hm1, hm2⟩ q
  dsimp only at ha hb hm1 hm2 q
  show wpB Phi Gam ir_common_end _ _ [.val (tupI a), .val (tupI b), .val (.int m), .no] vh
  unfold ir_common_end
  have hl1 : (a.map D.int).length = a.length := List.length_map _
  have hl2 : (b.map D.int).length = b.length := List.length_map _
  walk_at "r"
  refine b_cut (fun e h => h = vh ∧ ∃ n : Nat, n ≤ m ∧ b.drop (b.length - n) = a.drop (a.length - n) ∧ e = [.val (tupI a), .val (tupI b), .val (.int m), .val (.int n)]) ?_ ?_
  · refine s_whl (fun w e h => h = vh ∧ ∃ n : Nat, w = m - n ∧ n ≤ m ∧ b.drop (b.length - n) = a.drop (a.length - n) ∧ e = [.val (tupI a), .val (tupI b), .val (.int m), .val (.int n)]) ⟨m, rfl, 0, rfl, Nat.zero_le _, by rw [Nat.sub_zero, Nat.sub_zero, List.drop_length, List.drop_length], rfl⟩ ?_
    rintro j _ vh2 ⟨hv, n, hj, h1, h3, rfl⟩
    walk_at "r"
    refine p_dec (fun h4 => ?_) (fun h4 => ?_)
    · walk_at "r"
      refine i_tup (at_int (n := a.length - 1 - n) (by omega) (by omega)) ?_
      walk_at "r"
      refine i_tup (at_int (n := b.length - 1 - n) (by omega) (by omega)) ?_
      walk_at "r"
      refine p_dec (fun h5 => ?_) (fun h5 => ?_)
      · walk_at "r"
        exact ⟨m - (n + 1), by omega, hv, n + 1, rfl, by omega, drop_pred_eq h3 (by omega) (by omega) h5, rfl⟩
      · walk_at "r"
        exact hold ⟨hv, n, h1, h3, rfl⟩
    · walk_at "r"
      exact hold ⟨hv, n, h1, h3, rfl⟩
  · rintro _ vh2 ⟨hv, n, h1, h3, rfl⟩
    subst hv
    walk_at "r"
    exact q _ _ ⟨rfl, n, rfl, h1, h3⟩
theorem k_change_of : Sat Phi Gam ir_change_of tc_change_of.N ["one", "other"] s_change := by
  refine sat_spec (fun _ => rfl) ?_
  rintro ⟨a, b⟩ vh R ⟨ha, hb⟩ q
  dsimp only at ha hb q
  show wpB Phi Gam ir_change_of _ _ [.val (tupI a), .val (tupI b), .no, .no, .no, .no, .no] vh
  unfold ir_change_of
  have hl1 : (a.map D.int).length = a.length := List.length_map _
  have hl2 : (b.map D.int).length = b.length := List.length_map _
  have hz1 := ha.2
  have hz2 := hb.2
  walk_at "r"
  refine c_common_begin ha hb fun x x1 x2 x3 x4 => ?_
  walk_at "r"
  rw [hl1, hl2]
  refine c_common_end ha hb (by split <;> omega) (by split <;> omega) (by split <;> omega) fun y y1 y2 => ?_
  have hxy : x + y ≤ a.length ∧ x + y ≤ b.length := by split at y1 <;> omega
  have hab : a = b → y = 0 := fun e => by
    have := x4 e
    subst e
    split at y1 <;> omega
  refine b_cut (fun e h => h = vh ∧ ∃ b0 : Nat, (b0 = 0 ∧ x < 8 ∨ b0 = x ∧ 8 ≤ x) ∧ e = [.val (tupI a), .val (tupI b), .val (.int b0), .val (.int y), .no, .no, .no]) ?_ ?_
  · walk_at "r"
    refine p_dec (fun h1 => ?_) (fun h1 => ?_)
    · walk_at "r"
      exact hold ⟨rfl, 0, .inl ⟨rfl, by omega⟩, rfl⟩
    · walk_at "r"
      exact hold ⟨rfl, x, .inr ⟨rfl, by omega⟩, rfl⟩
  rintro _ vh2 ⟨hv, b0, hb0, rfl⟩
  refine b_cut (fun e h => h = vh2 ∧ ∃ e0 : Nat, (e0 = 0 ∨ e0 = y) ∧ e = [.val (tupI a), .val (tupI b), .val (.int b0), .val (.int e0), .no, .no, .no]) ?_ ?_
  · walk_at "r"
    refine p_dec (fun h1 => ?_) (fun h1 => ?_)
    · walk_at "r"
      exact hold ⟨rfl, 0, .inl rfl, rfl⟩
    · walk_at "r"
      exact hold ⟨rfl, y, .inr rfl, rfl⟩
  rintro _ vh3 ⟨hv3, e0, he0, rfl⟩
  have hbe : b0 + e0 ≤ a.length ∧ b0 + e0 ≤ b.length := by omega
  have hp : b.take b0 = a.take b0 := by
    rcases hb0 with ⟨rfl, _⟩ | ⟨rfl, _⟩
    · rfl
    · exact x3
  have he : b.drop (b.length - e0) = a.drop (a.length - e0) := by
    rcases he0 with rfl | rfl
    · rw [Nat.sub_zero, Nat.sub_zero, List.drop_length, List.drop_length]
    · exact y2
  have hc : cutL (b.map D.int) (some (b0 : Int)) (some ((b.length : Int) - (e0 : Int))) = ((b.drop b0).take (b.length - e0 - b0)).map D.int := by
    rw [cut_both (m := b.length - e0 - b0) rfl (by omega) (by omega), List.map_take, List.map_drop]
  obtain ⟨out, hout⟩ : ∃ out, out = if 0 < e0 then a.length - b0 - e0 else 0 := ⟨_, rfl⟩
  obtain ⟨mid, hmid⟩ : ∃ mid, mid = (b.drop b0).take (b.length - e0 - b0) := ⟨_, rfl⟩
  have hml : mid.length = b.length - e0 - b0 := by
    rw [hmid, List.length_take, List.length_drop]
    omega
  have hol : out ≤ a.length := by rw [hout]; split <;> omega
  obtain ⟨c1, c2⟩ := chg_ok (one := a) (other := b) (b := b0) (e := e0) hz1 hz2 hbe.1 hbe.2 hp he
  rw [← hout, ← hmid] at c1 c2
  rw [← hmid] at hc
  refine b_cut (fun e h => h = vh3 ∧ e = [.val (tupI a), .val (tupI b), .val (.int b0), .val (.int e0), .val (tupI mid), .no, .no]) ?_ ?_
  · walk_at "r"
    rw [hl2, hc]
    exact hold ⟨rfl, rfl⟩
  rintro _ vh4 ⟨hv4, rfl⟩
  refine b_cut (fun e h => h = vh4 ∧ e = [.val (tupI a), .val (tupI b), .val (.int b0), .val (.int e0), .val (tupI mid), .val (.int out), .no]) ?_ ?_
  · walk_at "r"
    refine p_dec (fun h1 => ?_) (fun h1 => ?_)
    · walk_at "r"
      refine hold ⟨rfl, ?_⟩
      rw [if_pos (by omega)] at hout
      have eo : (((a.map D.int).length : Int) - (b0 : Int) - (e0 : Int)) = (out : Int) := by rw [hl1]; omega
      rw [eo]
      rfl
    · walk_at "r"
      refine hold ⟨rfl, ?_⟩
      rw [if_neg (by omega)] at hout
      subst hout
      rfl
  rintro _ vh5 ⟨hv5, rfl⟩
  have hlm : (mid.map D.int).length = mid.length := List.length_map _
  have k0 := pr_len (k := 0) (m := b0) (by omega)
  have k1 := pr_len (k := 1) (m := out) (by omega)
  have k2 := pr_len (k := 2) (m := mid.length) (by omega)
  have k3 := pr_len (k := 0) (m := e0) (by omega)
  walk_at "r"
  refine c_part_row (by decide) (by omega) ?_
  walk_at "r"
  refine c_part_row (by decide) (by omega) ?_
  walk_at "r"
  refine c_part_row (by decide) (by omega) ?_
  walk_at "r"
  refine c_part_row (by decide) (by omega) ?_
  walk_at "r"
  have et : (List.map D.int (pr (Int.toNat 0) (b0 : Int).toNat) ++ List.map D.int (pr (Int.toNat 1) (out : Int).toNat) ++ List.map D.int (pr (Int.toNat 2) ((mid.map D.int).length : Int).toNat) ++ List.map D.int mid ++ List.map D.int (pr (Int.toNat 0) (e0 : Int).toNat)) = (chg b0 out mid e0).map D.int := by
    unfold chg
    simp
  · rw [et]
    subst hv5 hv4 hv3 hv
    refine q _ _ ⟨rfl, _, rfl, chg_byt (fun z hz => ?_), c1, by omega, fun e => ?_⟩
    · rw [hmid] at hz
      exact hb.1 z (List.mem_of_mem_drop (List.mem_of_mem_take hz))
    · have ex := x4 e
      have ey := hab e
      have hlen : a.length = b.length := by rw [e]
      have e00 : e0 = 0 := by omega
      rcases hb0 with ⟨h1, h2⟩ | ⟨h1, h2⟩
      · subst h1 e00
        rw [if_neg (by omega)] at hout
        subst hout
        unfold chg
        rw [List.length_append, List.length_append, List.length_append, List.length_append, pr_0, pr_0]
        simp only [List.length_nil]
        omega
      · omega
  all_goals (simp; omega)
theorem byt_of {xs : List D} (h : xs.all byteD = true) : ∃ bs : List Int, xs = bs.map D.int ∧ Byt bs := by
  induction xs with
  | nil => exact ⟨[], rfl, fun b hb => by cases hb⟩
  | cons x xs ih =>
    rw [List.all_cons, Bool.and_eq_true] at h
    obtain ⟨bs, e, hb⟩ := ih h.2
    have h1 := h.1
    cases x with
    | int i =>
      have h1 : 0 ≤ i ∧ i ≤ 255 := of_decide_eq_true h1
      refine ⟨i :: bs, by rw [e]; rfl, fun b hm => ?_⟩
      rcases List.mem_cons.mp hm with rfl | hm
      · omega
      · exact hb b hm
    | _ => cases h1
theorem eq_dataC {o : Option (List Int) × Nat} {other : List Int} (h : ∀ r, o.1 = some r → o.2 = 0) : eqD (dataC o) (.tup [tupI other, .non]) = decide (o = (some other, 0)) := by
  obtain ⟨p, k⟩ := o
  cases p with
  | none =>
    unfold dataC eqD eqDs eqD
    simp
  | some r =>
    have hk : k = 0 := h r rfl
    subst hk
    unfold dataC
    show eqD (.tup [tupI r, .non]) (.tup [tupI other, .non]) = _
    have e : eqD (.tup [tupI r, .non]) (.tup [tupI other, .non]) = (eqD (tupI r) (tupI other) && true) := by
      simp [eqD, eqDs]
    rw [e, eqD_tupI, Bool.and_true]
    by_cases q : r = other <;> simp [q]
theorem okC {o : Option (List Int) × Nat} : okD 64 (dataC o) = true := by
  obtain ⟨p, k⟩ := o
  cases p with
  | none => rfl
  | some r =>
    show (okD 63 (tupI r) && (okD 63 .non && true)) = true
    rw [okD_tupI]
    rfl
theorem okO {other : List Int} : okD 64 (.tup [tupI other, .non]) = true := by
  show (okD 63 (tupI other) && (okD 63 .non && true)) = true
  rw [okD_tupI]
  rfl
theorem ld_C {o : Option (List Int) × Nat} {env : VE} {vh : VH} : (Op.dat (dataC o)).ld env vh = some (dataC o) := by
  obtain ⟨p, k⟩ := o
  cases p <;> rfl
theorem k_is_change : Sat Phi Gam ir_is_change tc_is_change.N ["one", "other", "thing"] s_is_change := by
  refine sat_specF (fun _ => rfl) ?_
  rintro ⟨a, b, d⟩ vh R ⟨ha, hb, hd⟩ q
  dsimp only at ha hb hd q
  show wpB Phi Gam ir_is_change _ _ [.val (tupI a), .val (tupI b), .val d] vh
  unfold ir_is_change
  walk_at "r"
  refine c_check_row ha ?_
  walk_at "r"
  refine c_check_row hb ?_
  walk_at "r"
  refine c_is_row hd ?_
  cases e : rowD d with
  | false =>
    walk_at "r"
    have e2 : isCh a b d = false := by
      cases d with
      | tup xs =>
        have e : xs.all byteD = false := e
        show (xs.all byteD && _) = false
        rw [e]
        rfl
      | _ => rfl
    rw [e2] at q
    exact q
  | true =>
    obtain ⟨bs, rfl, hbs⟩ : ∃ bs, d = tupI bs ∧ Byt bs := by
      cases d with
      | tup xs =>
        obtain ⟨bs, e, h⟩ := byt_of e
        exact ⟨bs, by rw [e], h⟩
      | _ => cases e
    have hl := (hd.2 _ rfl).1
    rw [List.length_map] at hl
    walk_at "r"
    refine c_changed_or_wrong ha ⟨hbs, hl⟩ ?_
    walk_at "r"
    refine ⟨_, _, ld_C, rfl, c_eq okC okO ?_⟩
    rw [eq_dataC (fun r hr => ?_)]
    · rw [isCh_row hbs] at q
      exact q
    · exact (become_row (k := (become a bs).2) ha.1 hbs (by rw [← hr])).2.2
theorem k_law_hand : Sat Phi Gam ir__law_hand tc__law_hand.N ["script"] s__law_hand := by
  refine sat_spec (fun _ => rfl) ?_
  rintro ns vh R _ q
  show wpB Phi Gam ir__law_hand _ _ [.val (.scr ns), .no, .no] vh
  unfold ir__law_hand
  walk_at "r"
  refine lc_map (fun d => d) _ _ _ (fun d hd R q => ?_) ?_ ?_
  · obtain ⟨b, hbm, rfl⟩ := List.mem_map.mp hd
    walk_at "r"
    exact q
  · rw [List.length_map, cut_take (by omega), List.length_take]
    simp
    omega
  · walk_at "r"
    refine q _ _ ⟨_, rfl, ⟨cutL ns none (some 63), 0, 0, 1 + ((cutL ns none (some 63)).length : Int), 0, ?_, by omega⟩, rfl⟩
    simp
theorem k_law_draw : Sat Phi Gam ir__law_draw tc__law_draw.N ["hand", "many"] s__law_draw := by
  refine sat_spec (fun _ => rfl) ?_
  rintro ⟨n, m⟩ vh R ⟨⟨o, ho, cs, a, b, c, d, rfl, ha⟩, m0, m1⟩ q
  dsimp only at ho m0 m1 q
  show wpB Phi Gam ir__law_draw _ _ [.val (.ref n), .val (.int m), .no, .no, .no] vh
  unfold ir__law_draw
  refine b_cut (fun e h => ∃ (sl : Slot) (cs : List Int) (a b c d : Int), e = [.val (.ref n), .val (.int m), sl, .no, .no] ∧ h[n]? = some (.lst [.lst (cs.map D.int), .int a, .int b, .int c, .int d]) ∧ 0 ≤ a ∧ ∀ o, h.set n o = vh.set n o) ?_ ?_
  · walk_at "r"
    refine p_dec (fun h1 => ?_) (fun h1 => ?_)
    · walk_at "r"
      refine p_dec (fun h1 => ?_) (fun h1 => ?_)
      · obtain ⟨u, hu, _⟩ := atI_int (xs := cs) ha (by rw [List.length_map] at h1; exact h1)
        walk_at "r"
        refine i_lst hu ?_
        walk_at "r"
        intro vh1 g1 g2
        walk_at "r"
        intro vh2 g3 g4
        walk_at "r"
        refine p_dec (fun h1 => ?_) (fun h1 => ?_)
        · walk_at "r"
          intro vh3 g5 g6
          walk_at "r"
          refine hold ⟨_, _, _, _, _, _, rfl, g5, by omega, fun o => by rw [g6, g4, g2]⟩
        · walk_at "r"
          refine hold ⟨_, _, _, _, _, _, rfl, g3, by omega, fun o => by rw [g4, g2]⟩
      · walk_at "r"
        refine hold ⟨_, _, _, _, _, _, rfl, ho, ha, fun _ => rfl⟩
    · walk_at "r"
      refine hold ⟨_, _, _, _, _, _, rfl, ho, ha, fun _ => rfl⟩
  · rintro _ vh1 ⟨sl, cs, a, b, c, d, rfl, ho1, ha, hs⟩
    walk_at "r"
    refine p_dec (fun h1 => ?_) (fun h1 => ?_)
    · walk_at "r"
      intro vh2 g1 g2
      walk_at "r"
      refine' q _ _ ⟨_, _, rfl, Int.emod_nonneg _ (by omega), Int.emod_lt_of_pos _ m0, ?_, set_eq g1 fun o => by rw [g2, hs]⟩
      exact ⟨_, _, _, _, _, rfl, ha⟩
    · walk_at "r"
      intro vh2 g1 g2
      walk_at "r"
      refine' q _ _ ⟨_, _, rfl, Int.emod_nonneg _ (by omega), Int.emod_lt_of_pos _ m0, ?_, set_eq g1 fun o => by rw [g2, hs]⟩
      exact ⟨_, _, _, _, _, rfl, ha⟩
theorem zip_same : ∀ xs : List D, List.zipWith (fun x y => D.tup [x, y]) xs xs = xs.map fun x => D.tup [x, x]
  | [] => rfl
  | x :: xs => by rw [List.zipWith_cons_cons, zip_same xs, List.map_cons]
theorem k_law_byte : Sat Phi Gam ir__law_byte tc__law_byte.N ["hand"] s__law_byte := by
  refine sat_spec (fun _ => rfl) ?_
  rintro n vh R ⟨o, ho, hh⟩ q
  show wpB Phi Gam ir__law_byte _ _ [.val (.ref n)] vh
  unfold ir__law_byte
  walk_at "r"
  refine c__law_draw ⟨o, ho, hh⟩ (by decide) fun u vh1 h2 h3 hh1 hf => ?_
  walk_at "r"
  refine p_dec (fun h1 => ?_) (fun h1 => ?_)
  · walk_at "r"
    refine c__law_draw hh1 (by decide) fun u2 vh2 g2 g3 hh2 hf2 => ?_
    obtain ⟨d, hd, hm⟩ := atI_ok (xs := [D.int 0, .int 1, .int 127, .int 128, .int 129, .int 255]) g2 g3
    walk_at "r"
    refine i_lst hd ?_
    obtain ⟨o2, e1, e2⟩ := hh2
    obtain ⟨z, rfl, z1, z2⟩ : ∃ z : Int, d = .int z ∧ 0 ≤ z ∧ z < 256 := by
      simp only [List.mem_cons, List.not_mem_nil, or_false] at hm
      rcases hm with rfl | rfl | rfl | rfl | rfl | rfl <;> exact ⟨_, rfl, by omega, by omega⟩
    exact q _ _ ⟨z, o2, rfl, z1, z2, e2, vh_eq ho e1 (fx_trans hf hf2)⟩
  · walk_at "r"
    refine c__law_draw hh1 (by decide) fun u2 vh2 g2 g3 hh2 hf2 => ?_
    obtain ⟨o2, e1, e2⟩ := hh2
    exact q _ _ ⟨u2, o2, rfl, g2, g3, e2, vh_eq ho e1 (fx_trans hf hf2)⟩
theorem k_law_bytes : Sat Phi Gam ir__law_bytes tc__law_bytes.N ["hand", "most"] s__law_bytes := by
  refine sat_spec (fun _ => rfl) ?_
  rintro ⟨n, m⟩ vh R ⟨⟨o, ho, hh⟩, h0, h1⟩ q
  show wpB Phi Gam ir__law_bytes _ _ [.val (.ref n), .val (.int m), .no, .no] vh
  unfold ir__law_bytes
  dsimp only at h0 h1
  walk_at "r"
  refine c__law_draw ⟨o, ho, hh⟩ ⟨by omega, by omega⟩ fun u vh1 h2 h3 hh1 hf => ?_
  walk_at "r"
  refine lc_rule (fun rest h acc => Hd n h ∧ Fx n vh h ∧ ∃ bs : List Int, acc = bs.map D.int ∧ Byt bs ∧ bs.length + rest.length = u.toNat) ?_ ?_ _ _ _ ⟨hh1, hf, [], rfl, fun _ h => (by cases h), by simp⟩
  · rintro vh3 _ ⟨⟨o3, g1, g2⟩, f3, bs, rfl, hb, hl⟩
    walk_at "r"
    exact q _ _ ⟨bs, o3, rfl, hb, by simp at hl; dsimp only; omega, g2, vh_eq ho g1 f3⟩
  · rintro d2 ds2 vh3 _ ⟨h3', f3, bs, rfl, hb, hl⟩ ih2
    walk_at "r"
    refine c__law_byte h3' fun w vh4 g1 g2 h4 f4 => ?_
    walk_at "r"
    refine ⟨?_, ih2 _ _ ⟨h4, fx_trans f3 f4, bs ++ [w], by simp, byt_app hb (fun x hx => ?_), ?_⟩⟩
    · rw [List.length_map]
      simp at hl
      omega
    · simp at hx
      omega
    · simp at hl ⊢
      omega
theorem plD_tupI {bs : List Int} {n : Nat} (h : bs.length ≤ 16777216) : plD (n + 1) (tupI bs) = true := by
  show (decide _ && _) = true
  rw [List.length_map, decide_eq_true h, Bool.true_and, List.all_eq_true]
  intro x hx
  obtain ⟨b, _, rfl⟩ := List.mem_map.mp hx
  cases n <;> rfl
theorem k_law_whole : Sat Phi Gam ir__law_whole tc__law_whole.N ["number"] s__law_whole := by
  refine sat_specF (fun _ => rfl) ?_
  rintro n vh R hn q
  show wpB Phi Gam ir__law_whole _ _ [.val (.int n), .no, .no] vh
  unfold ir__law_whole
  have hl := fig_len10 (n := n) (by omega)
  walk_at "r"
  refine for_rule (fun rest e h => h = vh ∧ ∃ (a : List Int) (j : Nat) (s2 : Slot), a ++ fig j = fig n ∧ a.length + rest.length = 10 ∧ e = [.val (.int j), .own (a.map D.int), s2]) ?_ ?_ _ _ _ ⟨rfl, [], n, .no, rfl, rfl, rfl⟩
  · rintro _ _ ⟨rfl, a, j, s2, ha, hr, rfl⟩
    have h0 := fig_pos j
    have h1 := congrArg List.length ha
    rw [List.length_append] at h1
    simp at hr
    have hj : (fig j).length = 0 := by omega
    omega
  · rintro d ds _ _ ⟨rfl, a, j, s2, ha, hr, rfl⟩ ih
    walk_at "r"
    refine p_dec (fun h1 => ?_) (fun h1 => ?_)
    · rw [fig_lt (by omega)] at ha
      have hla : a.length ≤ 10 := by
        have := congrArg List.length ha
        rw [List.length_append] at this
        omega
      walk_at "r"
      · have e : (a.map D.int ++ [D.int j]) = (fig n).map D.int := by rw [← ha, List.map_append]; rfl
        rw [show (a.map D.int ++ [(DV.v (D.int (j : Int))).d]) = (fig n).map D.int from e]
        exact q
      · simp
        omega
    · have hj := fig_ge (n := j) (by omega)
      rw [List.length_cons] at hr
      walk_at "r"
      refine ⟨by rw [List.length_map]; omega, ?_⟩
      walk_at "r"
      refine ih _ _ ⟨rfl, a ++ [((j % 128 + 128 : Nat) : Int)], j / 128, .val d, ?_, ?_, ?_⟩
      · rw [List.append_assoc, List.singleton_append, ← hj]
        exact ha
      · rw [List.length_append, List.length_singleton]
        omega
      · rw [List.map_append]
        have e1 : (j : Int) % 128 + 128 = ((j % 128 + 128 : Nat) : Int) := by omega
        have e2 : (j : Int) / 128 = ((j / 128 : Nat) : Int) := by omega
        rw [e1, e2]
        rfl
theorem k_law_read : Sat Phi Gam ir__law_read tc__law_read.N ["row", "at"] s__law_read := by
  refine sat_specF (fun _ => rfl) ?_
  rintro ⟨bs, at_⟩ vh R ⟨hb, hl, ha⟩ q
  dsimp only at hb hl ha q
  show wpB Phi Gam ir__law_read _ _ [.val (tupI bs), .val (.int at_), .no, .no, .no] vh
  unfold ir__law_read
  have hlm : (List.map D.int bs).length = bs.length := List.length_map _
  obtain ⟨l, hll⟩ : ∃ l, l = bs.drop at_ := ⟨_, rfl⟩
  have hlen : l.length = bs.length - at_ := by rw [hll, List.length_drop]
  walk_at "r"
  refine for_rule (fun rest e h => h = vh ∧ ∃ (k : Nat) (s2 s3 s4 : Slot), k ≤ 10 ∧ k ≤ l.length ∧ rest = ((List.range 10).drop k).map (fun (i : Nat) => D.int (i : Int)) ∧ (∀ j (hj : j < l.length), j < k → 128 ≤ l[j]) ∧ e = [.val (tupI bs), .val (.int at_), s2, s3, s4]) ?_ ?_ _ _ _ ⟨rfl, 0, .no, .no, .no, by omega, by omega, by simp, fun j hj h => absurd h (by omega), rfl⟩
  · rintro _ _ ⟨rfl, k, s2, s3, s4, hk, hkl, hr, hj, rfl⟩
    have ek : k = 10 := by
      have := congrArg List.length hr
      simp at this
      omega
    subst ek
    walk_at "r"
    rw [← hll, rd_miss (fun j h1 h2 => hj j h1 (by omega))] at q
    exact q
  · rintro d ds _ h0 ⟨e0, k, s2, s3, s4, hk, hkl, hr, hj, rfl⟩ ih
    subst h0
    have hkc : k < 10 := by
      have := congrArg List.length hr
      simp at this
      omega
    rw [List.drop_eq_getElem_cons (by simpa using hkc), List.map_cons] at hr
    cases hr
    rw [List.getElem_range]
    walk_at "r"
    refine p_dec (fun h1 => ?_) (fun h1 => ?_)
    · walk_at "r"
      rw [← hll, rd_miss (fun j h2 h3 => hj j h2 (by omega))] at q
      exact q
    · have hkl2 : k < l.length := by omega
      have hat : ∀ i : Nat, (hi : i < l.length) → ∀ z : Int, z = (at_ : Int) + (i : Int) → atI (List.map D.int bs) z = some (.int l[i]) := fun i hi z hz => by
        have := atI_drop (bs := bs) (at_ := at_) (k := i) (by rw [← hll]; exact hi) hz
        rw [this]
        simp only [hll]
      walk_at "r"
      refine i_tup (hat k hkl2 _ rfl) ?_
      walk_at "r"
      refine p_dec (fun h2 => ?_) (fun h2 => ?_)
      · have hh := rd_hit hkc hkl2 h2 (fun j h2 => hj j (by omega) h2)
        have fin : ∀ (sl3 sl4 : Slot), ¬ (0 < k ∧ l[k] = 0) → ∀ V : VEnds, (∀ x h, V.rt x h = R (.ok x) h) → wpB Phi Gam [S.set 3 (E.int 0), S.forS (Tg.one 4) Ik.rng3 [E.bin Operator.Add (E.bor 1) (E.bor 2), E.bin Operator.Sub (E.bor 1) (E.int 1), E.neg (E.int 1)] [S.set 3 (E.bin Operator.Add (E.bin Operator.Mult (E.bor 3) (E.int 128)) (E.bin Operator.Mod (E.blt Bf.int [E.idx (E.bor 0) (E.bor 4)]) (E.int 128)))], S.cond (E.cmp CmpOp.GtE (E.bor 3) (E.bin Operator.Pow (E.int 2) (E.int 64))) [S.ret E.non] [], S.ret (E.tup [E.var 3, E.bin Operator.Add (E.bin Operator.Add (E.bor 1) (E.bor 2)) (E.int 1)])] (fun c xs _ vh => R (.exc c xs) vh) V [.val (tupI bs), .val (.int at_), .val (.int (k : Int)), sl3, sl4] vh := by
          intro sl3 sl4 hz V hV
          obtain ⟨nx, rt, bk, ct⟩ := V
          have hV : ∀ x h, rt x h = R (.ok x) h := hV
          walk_at "r"
          have ec : (((at_ : Int) + (k : Int)) - ((at_ : Int) - 1)).toNat = k + 1 := by omega
          rw [ec]
          refine for_rule (fun rest e h => h = vh ∧ ∃ (i : Nat) (s4 : Slot), i ≤ k + 1 ∧ rest = ((List.range (k + 1)).drop i).map (fun (i : Nat) => D.int ((at_ : Int) + (k : Int) - (i : Int))) ∧ e = [.val (tupI bs), .val (.int at_), .val (.int (k : Int)), .val (.int (val ((l.take (k + 1)).drop (k + 1 - i)))), s4]) ?_ ?_ _ _ _ ⟨rfl, 0, sl4, by omega, by simp, by
            rw [Nat.sub_zero, List.drop_eq_nil_of_le (by rw [List.length_take]; omega)]
            rfl⟩
          · rintro _ _ ⟨rfl, i, s4, hi, hr, rfl⟩
            have ei : i = k + 1 := by
              have := congrArg List.length hr
              simp at this
              omega
            subst ei
            rw [Nat.sub_self, List.drop_zero]
            have e64 : (2 : Int) ^ (Int.toNat 64) = 18446744073709551616 := by decide
            walk_at "r"
            rw [e64]
            refine p_dec (fun h4 => ?_) (fun h4 => ?_)
            · walk_at "r"
              rw [← hll, hh, if_pos (.inr h4)] at q
              rw [hV]
              exact q
            · walk_at "r"
              rw [← hll, hh, if_neg (by omega)] at q
              rw [hV]
              have e : (at_ : Int) + (k : Int) + 1 = (at_ : Int) + ((k + 1 : Nat) : Int) := by omega
              rw [e]
              exact q
          · rintro d ds _ _ ⟨rfl, i, s4, hi, hr, rfl⟩ ih2
            have hik : i < k + 1 := by
              have := congrArg List.length hr
              simp at this
              omega
            rw [List.drop_eq_getElem_cons (by simpa using hik), List.map_cons] at hr
            cases hr
            rw [List.getElem_range]
            walk_at "r"
            refine i_tup (hat (k - i) (by omega) _ (by omega)) ?_
            walk_at "r"
            refine ih2 _ _ ⟨rfl, i + 1, .val (.int ((at_ : Int) + (k : Int) - (i : Int))), by omega, rfl, ?_⟩
            have e1 : (l.take (k + 1)).drop (k + 1 - (i + 1)) = l[k - i] :: (l.take (k + 1)).drop (k + 1 - i) := by
              rw [List.drop_eq_getElem_cons (by rw [List.length_take]; omega)]
              have e2 : k + 1 - (i + 1) = k - i := by omega
              have e3 : k + 1 - (i + 1) + 1 = k + 1 - i := by omega
              rw [e3]
              congr 1
              rw [List.getElem_take]
              congr 1
            rw [e1]
            have e4 : val (List.drop (k + 1 - i) (List.take (k + 1) l)) * 128 + l[k - i] % 128 = val (l[k - i] :: List.drop (k + 1 - i) (List.take (k + 1) l)) := by
              show _ = l[k - i] % 128 + 128 * _
              omega
            rw [e4]
            rfl
        walk_at "r"
        refine p_dec (fun h3 => ?_) (fun h3 => ?_)
        · walk_at "r"
          refine i_tup (hat k hkl2 _ rfl) ?_
          walk_at "r"
          refine p_dec (fun h4 => ?_) (fun h4 => ?_)
          · walk_at "r"
            rw [← hll, hh, if_pos (.inl ⟨by omega, h4⟩)] at q
            exact q
          · refine fin _ _ (fun z => h4 z.2) _ ?_
            exact fun _ _ => rfl
        · refine ⟨_, rfl, ?_⟩
          refine fin _ _ (fun z => h3 (by omega)) _ ?_
          exact fun _ _ => rfl
      · walk_at "r"
        refine ih _ _ ⟨rfl, k + 1, _, _, _, hkc, hkl2, rfl, fun j h3 h4 => ?_, rfl⟩
        by_cases e : j = k
        · subst e
          omega
        · exact hj j h3 (by omega)
theorem k_law_is_none : ∀ ds vh R, ¬ (PhiL 0 "_law_is").run ds vh R := fun _ _ _ h => h
theorem k_law_is (n : Nat) : Sat (PhiL n) Gam ir__law_is tc__law_is.N ["told", "due"] (s__law_is (n + 1)) := by
  refine sat_specF (fun _ => rfl) ?_
  rintro d vh R hd q
  show wpB (PhiL n) Gam ir__law_is _ _ [.val d, .val d, .no, .no, .no] vh
  unfold ir__law_is
  cases d with
  | bl b =>
    walk_at "r"
    rw [show eqD (D.bl b) (D.bl b) = true from eqD_refl 64 _ rfl]
    exact q
  | int i =>
    walk_at "r"
    rw [decide_eq_true rfl]
    exact q
  | str x =>
    have hd : PyData.canLay0 (.str x) = true := by cases n <;> exact hd
    walk_at "r"
    · rw [show eqD (D.str x) (D.str x) = true from eqD_refl 64 _ hd]
      exact q
    · exact hd
    · exact hd
  | tup xs =>
    cases n with
    | zero => cases hd
    | succ n =>
      have hd : (decide (xs.length ≤ 16777216) && xs.all (plD n)) = true := hd
      rw [Bool.and_eq_true] at hd
      obtain ⟨hz, hd⟩ := hd
      have hz := of_decide_eq_true hz
      walk_at "r"
      refine p_d rfl ?_
      walk_at "r"
      rw [zip_same]
      refine lc_map (fun _ => .bl true) _ _ _ (fun d hd2 R q => ?_) ?_ ?_
      · obtain ⟨x, hx, rfl⟩ := List.mem_map.mp hd2
        walk_at "r"
        refine c__law_is rfl (List.all_eq_true.mp hd x hx) ?_
        walk_at "r"
        exact q
      · rw [List.length_map]
        simpa using hz
      · walk_at "r"
        refine f_all (bs := xs.map fun _ => true) (by simp) ?_
        have e : (xs.map fun _ => true).all id = true := by simp
        (rw [e]; try rfl)
        exact q
  | _ => cases n <;> cases hd

theorem th_not {d : D} (h : Ty d) (h2 : ∀ xs, d ≠ .tup xs) : Th d := ⟨h, fun xs e => absurd e (h2 xs)⟩
theorem th_one {x : D} (hx : Ty x) : Th (.tup [x]) := ⟨⟨_, rfl⟩, fun xs e => by
  injection e with e
  subst e
  exact ⟨by simp, fun y hy => by
    simp at hy
    subst hy
    exact hx⟩⟩
theorem deep_step {x d : D} (hx : Ty x) (hb : byteD x = false) (hm : d = .tup [x] ∨ d = .lst [x] ∨ d = .tup [x] ∨ d = .dct [.inl 0] [x]) : Ty d ∧ byteD d = false ∧ Th d ∧ rowD d = false := by
  have hr : rowD (.tup [x]) = false := by
    show [x].all byteD = false
    simp [hb]
  rcases hm with rfl | rfl | rfl | rfl
  · exact ⟨⟨_, rfl⟩, rfl, th_one hx, hr⟩
  · exact ⟨⟨_, rfl⟩, rfl, th_not ⟨_, rfl⟩ (fun xs e => (by cases e)), rfl⟩
  · exact ⟨⟨_, rfl⟩, rfl, th_one hx, hr⟩
  · exact ⟨⟨_, rfl⟩, rfl, th_not ⟨_, rfl⟩ (fun xs e => (by cases e)), rfl⟩
theorem k_law_deep : Sat Phi Gam ir__law_deep tc__law_deep.N ["hand"] s__law_deep := by
  refine sat_spec (fun _ => rfl) ?_
  rintro n vh R ⟨o, ho, hh⟩ q
  show wpB Phi Gam ir__law_deep _ _ [.val (.ref n), .no, .no] vh
  unfold ir__law_deep
  walk_at "r"
  refine c__law_draw ⟨o, ho, hh⟩ (by decide) fun u vh1 h2 h3 hh1 hf => ?_
  obtain ⟨d, hd, hm⟩ := atI_ok (xs := [D.non, .str "a", .int (-1), .dct [] []]) h2 h3
  have hok : Ty d ∧ byteD d = false ∧ Th d ∧ rowD d = false := by
    simp only [List.mem_cons, List.not_mem_nil, or_false] at hm
    rcases hm with rfl | rfl | rfl | rfl <;> exact ⟨⟨_, rfl⟩, by first | rfl | decide, th_not ⟨_, rfl⟩ (fun xs e => (by cases e)), rfl⟩
  walk_at "r"
  refine i_lst hd ?_
  walk_at "r"
  refine c__law_draw hh1 (by decide) fun u2 vh2 g2 g3 hh2 hf2 => ?_
  walk_at "r"
  refine for_rule (fun rest e h => Hd n h ∧ Fx n vh h ∧ ∃ (d : D) (s2 : Slot), Ty d ∧ byteD d = false ∧ Th d ∧ rowD d = false ∧ e = [.val (.ref n), .val d, s2]) ?_ ?_ _ _ _ ⟨hh2, fx_trans hf hf2, d, .no, hok.1, hok.2.1, hok.2.2.1, hok.2.2.2, rfl⟩
  · rintro _ vh3 ⟨⟨o3, g4, g5⟩, f3, d, s2, k1, k2, k3, k4, rfl⟩
    walk_at "r"
    exact q _ _ ⟨d, o3, rfl, k3, k4, g5, vh_eq ho g4 f3⟩
  · rintro x ds _ vh3 ⟨h3, f3, d, s2, k1, k2, k3, k4, rfl⟩ ih
    walk_at "r"
    refine c__law_draw h3 (by decide) fun u4 vh4 g6 g7 hh4 hf4 => ?_
    obtain ⟨d2, hd2, hm2⟩ := atI_ok (xs := [D.tup [d], .lst [d], .tup (cutL [d, d] none (some 1)), .dct [.inl 0] [d]]) g6 g7
    walk_at "r"
    refine i_lst hd2 ?_
    have hm3 : d2 = .tup [d] ∨ d2 = .lst [d] ∨ d2 = .tup [d] ∨ d2 = .dct [.inl 0] [d] := by
      simp only [List.mem_cons, List.not_mem_nil, or_false] at hm2
      exact hm2
    obtain ⟨w1, w2, w3, w4⟩ := deep_step k1 k2 hm3
    exact ih _ _ ⟨hh4, fx_trans f3 hf4, d2, .val x, w1, w2, w3, w4, rfl⟩
theorem byt_cutI {bs : List Int} {lo hi : Option Int} (h : Byt bs) : Byt (cutL bs lo hi) := fun b hb => h b (cutL_mem hb)
theorem byt_one {u : Int} (h : 0 ≤ u) (h2 : u < 256) : Byt [u] := fun b hb => by
  rw [List.mem_singleton] at hb
  omega
theorem k_law_spoilt : Sat Phi Gam ir__law_spoilt tc__law_spoilt.N ["hand", "row"] s__law_spoilt := by
  refine sat_spec (fun _ => rfl) ?_
  rintro ⟨n, bs⟩ vh R ⟨⟨o, ho, hh⟩, hb, hl⟩ q
  dsimp only at ho hb hl q
  show wpB Phi Gam ir__law_spoilt _ _ [.val (.ref n), .val (tupI bs), .no, .no] vh
  unfold ir__law_spoilt
  have hlm : (List.map D.int bs).length = bs.length := List.length_map _
  have done_ : ∀ (b : List Int) (vh' : VH), Byt b → b.length ≤ bs.length + 4 → Hd n vh' → Fx n vh vh' → R (.ok (.v (tupI b))) vh' := fun b vh' h0 h1 ⟨o2, e1, e2⟩ f => q _ _ ⟨b, o2, rfl, h0, h1, e2, vh_eq ho e1 f⟩
  walk_at "r"
  refine c__law_draw ⟨o, ho, hh⟩ (by decide) fun u vh1 h2 h3 hh1 hf => ?_
  walk_at "r"
  refine c__law_draw hh1 (by omega) fun at_ vh2 a2 a3 hh2 hf2 => ?_
  have hf12 := fx_trans hf hf2
  have e1 : cutL (bs.map D.int) none (some at_) = (bs.take at_.toNat).map D.int := by rw [cut_take a2, List.map_take]
  have e2 : cutL (bs.map D.int) (some at_) none = (bs.drop at_.toNat).map D.int := by rw [cut_drop a2, List.map_drop]
  have e3 : cutL (bs.map D.int) (some (at_ + 1)) none = (bs.drop (at_ + 1).toNat).map D.int := by rw [cut_drop (by omega), List.map_drop]
  have b1 : Byt (bs.take at_.toNat) := fun b h => hb b (List.mem_of_mem_take h)
  have b2 : Byt (bs.drop at_.toNat) := fun b h => hb b (List.mem_of_mem_drop h)
  have b3 : Byt (bs.drop (at_ + 1).toNat) := fun b h => hb b (List.mem_of_mem_drop h)
  have l1 : (bs.take at_.toNat).length = at_.toNat := by rw [List.length_take]; omega
  have l2 : (bs.drop at_.toNat).length = bs.length - at_.toNat := List.length_drop
  have l3 : (bs.drop (at_ + 1).toNat).length = bs.length - (at_ + 1).toNat := List.length_drop
  walk_at "r"
  refine p_dec (fun h1 => ?_) (fun h1 => ?_)
  · walk_at "r"
    rw [e1]
    refine c__law_byte hh2 fun w vh3 w0 w1 hh3 hf3 => ?_
    walk_at "r"
    rw [e3]
    · have et : List.map D.int (bs.take at_.toNat) ++ [D.int w] ++ List.map D.int (bs.drop (at_ + 1).toNat) = (bs.take at_.toNat ++ [w] ++ bs.drop (at_ + 1).toNat).map D.int := by simp
      rw [et]
      exact done_ _ _ (byt_app (byt_app b1 (byt_one w0 w1)) b3) (by rw [List.length_append, List.length_append, List.length_singleton, l1]; omega) hh3 (fx_trans hf12 hf3)
    all_goals (simp only [e1, e2, e3, List.length_append, List.length_singleton, List.length_map]; omega)
  · walk_at "r"
    refine p_dec (fun h4 => ?_) (fun h4 => ?_)
    · walk_at "r"
      rw [e1]
      refine c__law_byte hh2 fun w vh3 w0 w1 hh3 hf3 => ?_
      walk_at "r"
      rw [e2]
      · have et : List.map D.int (bs.take at_.toNat) ++ [D.int w] ++ List.map D.int (bs.drop at_.toNat) = (bs.take at_.toNat ++ [w] ++ bs.drop at_.toNat).map D.int := by simp
        rw [et]
        exact done_ _ _ (byt_app (byt_app b1 (byt_one w0 w1)) b2) (by rw [List.length_append, List.length_append, List.length_singleton, l1]; omega) hh3 (fx_trans hf12 hf3)
      all_goals (simp only [e1, e2, e3, List.length_append, List.length_singleton, List.length_map]; omega)
    · walk_at "r"
      refine p_dec (fun h5 => ?_) (fun h5 => ?_)
      · walk_at "r"
        rw [e1, e3]
        · rw [← List.map_append]
          exact done_ _ _ (byt_app b1 b3) (by simp only [List.length_append]; omega) hh2 hf12
        all_goals (simp only [e1, e2, e3, List.length_map]; omega)
      · walk_at "r"
        refine p_dec (fun h6 => ?_) (fun h6 => ?_)
        · walk_at "r"
          rw [e1]
          exact done_ _ _ b1 (by omega) hh2 hf12
        · walk_at "r"
          refine c__law_bytes hh2 (by decide) fun c vh3 c0 c1 hh3 hf3 => ?_
          walk_at "r"
          · rw [← List.map_append]
            exact done_ _ _ (byt_app hb c0) (by simp only [List.length_append]; omega) hh3 (fx_trans hf12 hf3)
          all_goals (simp only [List.length_map]; omega)
theorem k_law_changed_told : Sat Phi Gam ir__law_changed_told tc__law_changed_told.N ["one", "some"] s__law_changed_told := by
  refine sat_specF (fun _ => rfl) ?_
  rintro ⟨a, b⟩ vh R ⟨ha, hb⟩ q
  dsimp only at ha hb q
  show wpB Phi Gam ir__law_changed_told _ _ [.val (tupI a), .val (tupI b), .no] vh
  unfold ir__law_changed_told
  walk_at "r"
  refine c_changed ha hb ?_
  generalize become a b = z at q
  obtain ⟨o, j⟩ := z
  cases o with
  | none =>
    unfold outC callK
    unfold toldC at q
    dsimp only at q ⊢
    walk_at "r"
    exact q
  | some r =>
    unfold outC callK
    unfold toldC at q
    dsimp only at q ⊢
    walk_at "r"
    exact q
theorem pl_toldC (o : Option (List Int) × Nat) (h : ∀ r, o.1 = some r → r.length ≤ 16777216) : plD 4 (toldC o) = true := by
  have h1 : PyData.canLay0 (.str ("bad" : Str)) = true := by decide +kernel
  have h2 : PyData.canLay0 (.str ("told" : Str)) = true := by decide +kernel
  obtain ⟨p, k⟩ := o
  cases p with
  | none => simp [toldC, plD, h1]
  | some r =>
    show (decide _ && ([D.str "told", tupI r].all (plD 3))) = true
    simp only [List.all_cons, List.all_nil, Bool.and_true]
    rw [plD_tupI (h r rfl)]
    simp [plD, h2]
theorem isCh_become {a b c : List Int} (h : Byt c) (hj : ∀ r, (become a c).1 = some r → (become a c).2 = 0) : isCh a b (tupI c) = decide ((become a c).1 = some b) := by
  rw [isCh_row h]
  generalize become a c = z at hj
  obtain ⟨o, j⟩ := z
  cases o with
  | none => simp
  | some r =>
    have := hj r rfl
    dsimp only at this
    subst this
    simp
theorem k_law_is_told : Sat Phi Gam ir__law_is_told tc__law_is_told.N ["one", "other", "some"] s__law_is_told := by
  refine sat_specF (fun _ => rfl) ?_
  rintro ⟨a, b, c⟩ vh R ⟨ha, hb, hc⟩ q
  dsimp only at ha hb hc q
  show wpB Phi Gam ir__law_is_told _ _ [.val (tupI a), .val (tupI b), .val (tupI c), .no, .no, .no] vh
  unfold ir__law_is_told
  have hr : ∀ r, (become a c).1 = some r → Byt r ∧ r.length ≤ a.length + c.length ∧ (become a c).2 = 0 := fun r e => become_row ha.1 hc.1 (by rw [← e])
  have hz1 := ha.2
  have hz2 := hc.2
  have hp := pl_toldC (become a c) fun r e => by
    have := (hr r e).2.1
    omega
  have hi := isCh_become (b := b) hc.1 fun r e => (hr r e).2.2
  walk_at "r"
  refine c__law_become ha hc ?_
  obtain ⟨z, hz⟩ : ∃ z, become a c = z := ⟨_, rfl⟩
  rw [hz] at hr hp hi
  rw [hz]
  obtain ⟨o, j⟩ := z
  cases o with
  | none =>
    unfold toldC at hp
    unfold dataB
    dsimp only at hp hi ⊢
    walk_at "r"
    refine c__law_changed_told ha hc ?_
    rw [hz]
    unfold toldC
    dsimp only
    walk_at "r"
    refine c__law_is rfl hp ?_
    walk_at "r"
    refine c_is_change ha hb (th_row hz2) ?_
    rw [hi]
    walk_at "r"
    refine c__law_is (by simp [isNon]) rfl ?_
    exact q
  | some r =>
    unfold toldC at hp
    unfold dataB
    dsimp only at hp hi ⊢
    walk_at "r"
    refine c__law_changed_told ha hc ?_
    rw [hz]
    unfold toldC
    dsimp only
    walk_at "r"
    refine c__law_is rfl hp ?_
    walk_at "r"
    refine c_is_change ha hb (th_row hz2) ?_
    rw [hi]
    walk_at "r"
    refine c__law_is (by rw [eqD_tupI]; simp) rfl ?_
    exact q
theorem k_law_become : Sat Phi Gam ir__law_become tc__law_become.N ["one", "some"] s__law_become := by
  refine sat_specF (fun _ => rfl) ?_
  rintro ⟨one, row⟩ vh R ⟨ho, hr⟩ q
  dsimp only at ho hr q
  show wpB Phi Gam ir__law_become _ _ [.val (tupI one), .val (tupI row), .no, .no, .no, .no, .no, .no, .no] vh
  unfold ir__law_become
  have hl1 : (one.map D.int).length = one.length := List.length_map _
  have hl2 : (row.map D.int).length = row.length := List.length_map _
  have hz1 := ho.2
  have hz2 := hr.2
  walk_at "r"
  refine for_rule (fun rest e h => h = vh ∧ ∃ (here at_ : Nat) (acc : List Int) (s5 s6 s7 s8 : Slot), at_ ≤ row.length ∧ here ≤ one.length ∧ acc.length ≤ here + at_ ∧ row.length < at_ + rest.length ∧ bec one row rest.length here at_ acc = become one row ∧
        e = [.val (tupI one), .val (tupI row), .own (acc.map D.int), .val (.int here), .val (.int at_), s5, s6, s7, s8]) ?_ ?_ _ _ _ ⟨rfl, 0, 0, [], .no, .no, .no, .no, Nat.zero_le _, Nat.zero_le _, Nat.zero_le _, ?_, ?_, rfl⟩
  · rintro _ _ ⟨rfl, here, at_, acc, s5, s6, s7, s8, hat, hh, hacc, hf, hbec, rfl⟩
    simp at hf
    omega
  · rintro d ds _ vh2 ⟨hv, here, at_, acc, s5, s6, s7, s8, hat, hh, hacc, hf, hbec, rfl⟩ ih
    rw [List.length_cons] at hf hbec
    have hl3 : (acc.map D.int).length = acc.length := List.length_map _
    unfold bec at hbec
    walk_at "r"
    refine p_dec (fun h1 => ?_) (fun h1 => ?_)
    · walk_at "r"
      rw [if_pos (by omega)] at hbec
      rw [← hbec] at q
      subst hv
      exact q
    · walk_at "r"
      refine c__law_read ⟨hr.1, by dsimp only; omega, hat⟩ ?_
      rw [if_neg (by omega)] at hbec
      cases e : rd (row.drop at_) with
      | none =>
        rw [e] at hbec
        unfold dataR
        dsimp only at hbec ⊢
        walk_at "r"
        rw [← hbec] at q
        subst hv
        exact q
      | some p =>
        obtain ⟨n, t⟩ := p
        obtain ⟨t0, t1⟩ := rd_len e
        obtain ⟨n0, _⟩ := rd_nonneg e
        rw [List.length_drop] at t1
        rw [e] at hbec
        unfold dataR
        dsimp only at hbec ⊢
        walk_at "r"
        refine p_dec (fun h3 => ?_) (fun h3 => ?_)
        · walk_at "r"
          rw [if_pos (by omega)] at hbec
          rw [← hbec] at q
          subst hv
          exact q
        · rw [if_neg (by omega)] at hbec
          walk_at "r"
          refine p_dec (fun h4 => ?_) (fun h4 => ?_)
          · walk_at "r"
            rw [if_pos h4] at hbec
            refine p_dec (fun h5 => ?_) (fun h5 => ?_)
            · walk_at "r"
              rw [if_pos (by omega)] at hbec
              rw [← hbec] at q
              subst hv
              exact q
            · rw [if_neg (by omega)] at hbec
              have hc : cutL (row.map D.int) (some ((at_ : Int) + (t : Int))) (some ((at_ : Int) + (t : Int) + n / 3)) = ((row.drop (at_ + t)).take (n / 3).toNat).map D.int := by
                rw [cut_both (a := at_ + t) (m := (n / 3).toNat) (by omega) (by omega) (by omega), List.map_take, List.map_drop]
              have hcl : ((row.drop (at_ + t)).take (n / 3).toNat).length = (n / 3).toNat := by
                rw [List.length_take, List.length_drop]
                omega
              walk_at "r"
              rw [hc]
              refine ⟨by rw [List.length_map, List.length_map]; omega, ?_⟩
              rw [← List.map_append]
              walk_at "r"
              have e2 : (at_ : Int) + (t : Int) + n / 3 = ((at_ + t + (n / 3).toNat : Nat) : Int) := by omega
              rw [e2]
              exact ih _ _ ⟨hv, here, at_ + t + (n / 3).toNat, acc ++ (row.drop (at_ + t)).take (n / 3).toNat, _, _, _, _, by omega, by omega, by rw [List.length_append]; omega, by omega, hbec, rfl⟩
          · walk_at "r"
            rw [if_neg h4] at hbec
            refine p_dec (fun h5 => ?_) (fun h5 => ?_)
            · walk_at "r"
              rw [if_pos (by omega)] at hbec
              rw [← hbec] at q
              subst hv
              exact q
            · rw [if_neg (by omega)] at hbec
              walk_at "r"
              refine p_dec (fun h6 => ?_) (fun h6 => ?_)
              · rw [if_pos h6] at hbec
                have hc : cutL (one.map D.int) (some (here : Int)) (some ((here : Int) + n / 3)) = ((one.drop here).take (n / 3).toNat).map D.int := by
                  rw [cut_both (m := (n / 3).toNat) rfl (by omega) (by omega), List.map_take, List.map_drop]
                have hcl : ((one.drop here).take (n / 3).toNat).length = (n / 3).toNat := by
                  rw [List.length_take, List.length_drop]
                  omega
                walk_at "r"
                rw [hc]
                refine ⟨by rw [List.length_map, List.length_map]; omega, ?_⟩
                rw [← List.map_append]
                walk_at "r"
                have e1 : (here : Int) + n / 3 = ((here + (n / 3).toNat : Nat) : Int) := by omega
                have e2 : (at_ : Int) + (t : Int) = (((at_ + t : Nat)) : Int) := by omega
                rw [e1, e2]
                exact ih _ _ ⟨hv, here + (n / 3).toNat, at_ + t, acc ++ (one.drop here).take (n / 3).toNat, _, _, _, _, by omega, by omega, by rw [List.length_append]; omega, by omega, hbec, rfl⟩
              · rw [if_neg h6] at hbec
                walk_at "r"
                have e1 : (here : Int) + n / 3 = ((here + (n / 3).toNat : Nat) : Int) := by omega
                have e2 : (at_ : Int) + (t : Int) = (((at_ + t : Nat)) : Int) := by omega
                rw [e1, e2]
                exact ih _ _ ⟨hv, here + (n / 3).toNat, at_ + t, acc, _, _, _, _, by omega, by omega, by omega, by omega, hbec, rfl⟩
  · simp
  · simp [become]
theorem k_law_drawn_change : Sat Phi Gam ir__law_drawn_change tc__law_drawn_change.N ["hand", "one"] s__law_drawn_change := by
  refine sat_spec (fun _ => rfl) ?_
  rintro ⟨n, one⟩ vh R ⟨⟨o, ho, hh⟩, hb, hl⟩ q
  dsimp only at ho hb hl q
  show wpB Phi Gam ir__law_drawn_change _ _ [.val (.ref n), .val (tupI one), .no, .no, .no, .no, .no, .no, .no, .no] vh
  unfold ir__law_drawn_change
  have hlm : (List.map D.int one).length = one.length := List.length_map _
  have e61 : (2 : Int) ^ (Int.toNat 61) = 2305843009213693952 := by decide
  walk_at "r"
  refine c__law_draw ⟨o, ho, hh⟩ (by decide) fun u vh1 h2 h3 hh1 hf => ?_
  walk_at "r"
  refine for_rule (fun rest e h => Hd n h ∧ Fx n vh h ∧ ∃ (found : List Int) (here : Int) (s4 s5 s6 s7 s8 s9 : Slot), Byt found ∧ found.length + 60 * rest.length ≤ 540 ∧ 0 ≤ here ∧ here ≤ one.length ∧ s8 = .no ∧ s9 = .no ∧
    e = [.val (.ref n), .val (tupI one), .val (tupI found), .val (.int here), s4, s5, s6, s7, s8, s9]) ?_ ?_ _ _ _ ⟨hh1, hf, [], 0, .no, .no, .no, .no, .no, .no, fun _ h => (by cases h), ?_, by omega, by omega, rfl, rfl, rfl⟩
  · rintro _ vh3 ⟨⟨o3, g1, g2⟩, f3, found, here, s4, s5, s6, s7, s8, s9, b1, b2, b3, b4, rfl, rfl, rfl⟩
    walk_at "r"
    exact q _ _ ⟨found, o3, rfl, b1, by simp at b2; omega, g2, vh_eq ho g1 f3⟩
  · rintro d ds _ vh3 ⟨h3', f3, found, here, s4, s5, s6, s7, s8, s9, b1, b2, b3, b4, rfl, rfl, rfl⟩ ih
    rw [List.length_cons] at b2
    have hlf : (List.map D.int found).length = found.length := List.length_map _
    walk_at "r"
    refine c__law_draw h3' (by decide) fun w vh4 w0 w1 hh4 hf4 => ?_
    have hf04 := fx_trans f3 hf4
    walk_at "r"
    refine p_dec (fun h4 => ?_) (fun h4 => ?_)
    · walk_at "r"
      refine c__law_draw hh4 (by decide) fun m vh5 m0 m1 hh5 hf5 => ?_
      have hf05 := fx_trans hf04 hf5
      walk_at "r"
      refine lc_rule (fun rest h acc => Hd n h ∧ Fx n vh h ∧ ∃ bs : List Int, acc = bs.map D.int ∧ Byt bs ∧ bs.length + rest.length = (1 + m).toNat) ?_ ?_ _ _ _ ⟨hh5, hf05, [], rfl, fun _ h => (by cases h), by simp⟩
      · rintro vh6 _ ⟨hh6, f6, bs, rfl, hb, hl⟩
        rw [List.length_nil, Nat.add_zero] at hl
        have hlb : (List.map D.int bs).length = bs.length := List.length_map _
        walk_at "r"
        refine c__law_whole (by omega) (by omega) ?_
        have e1 : (3 * ((List.map D.int bs).length : Int) + 2).toNat = 3 * bs.length + 2 := by omega
        rw [e1]
        have hk := fig_len 1 (3 * bs.length + 2) (by omega)
        have hlk : (List.map D.int (fig (3 * bs.length + 2))).length = (fig (3 * bs.length + 2)).length := List.length_map _
        walk_at "r"
        · rw [← List.map_append, ← List.map_append]
          refine ih _ _ ⟨hh6, f6, found ++ fig (3 * bs.length + 2) ++ bs, here, _, _, _, _, _, _, byt_app (byt_app b1 (fig_byt _)) hb, ?_, b3, b4, rfl, rfl, rfl⟩
          rw [List.length_append, List.length_append]
          omega
        all_goals (simp only [List.length_append, List.length_map]; omega)
      · rintro d2 ds2 vh6 _ ⟨hh6, f6, bs, rfl, hb, hl⟩ ih2
        rw [List.length_cons] at hl
        walk_at "r"
        refine c__law_byte hh6 fun w2 vh7 g1 g2 h7 f7 => ?_
        walk_at "r"
        refine ⟨?_, ih2 _ _ ⟨h7, fx_trans f6 f7, bs ++ [w2], by simp, byt_app hb (byt_one g1 g2), ?_⟩⟩
        · rw [List.length_map]
          omega
        · rw [List.length_append, List.length_singleton]
          omega
    · walk_at "r"
      refine c__law_draw hh4 (by omega) fun m vh5 m0 m1 hh5 hf5 => ?_
      have hf05 := fx_trans hf04 hf5
      refine b_cut (fun e h => Hd n h ∧ Fx n vh h ∧ ∃ many : Int, 0 ≤ many ∧ many ≤ 2305843009213693952 ∧ e = [.val (.ref n), .val (tupI one), .val (tupI found), .val (.int here), .val d, .val (.int w), s6, .val (.int many), .no, .no]) ?_ ?_
      · walk_at "r"
        refine c__law_draw hh5 (by decide) fun k vh6 k0 k1 hh6 hf6 => ?_
        have hf06 := fx_trans hf05 hf6
        walk_at "r"
        refine p_dec (fun h5 => ?_) (fun h5 => ?_)
        · walk_at "r"
          refine c__law_draw hh6 (by decide) fun k2 vh7 g0 g1 hh7 hf7 => ?_
          obtain ⟨x, hx, hm⟩ := atI_ok (xs := [D.int 0, .int (((List.map D.int one).length : Int) - here + 1), .int (2 ^ (Int.toNat 61))]) g0 g1
          obtain ⟨z, rfl, z0, z1⟩ : ∃ z : Int, x = .int z ∧ 0 ≤ z ∧ z ≤ 2305843009213693952 := by
            rw [e61] at hm
            simp only [List.mem_cons, List.not_mem_nil, or_false] at hm
            rcases hm with rfl | rfl | rfl <;> exact ⟨_, rfl, by omega, by omega⟩
          walk_at "r"
          refine i_lst hx ?_
          exact hold ⟨hh7, fx_trans hf06 hf7, z, z0, z1, rfl⟩
        · walk_at "r"
          exact hold ⟨hh6, hf06, m, m0, by omega, rfl⟩
      · rintro _ vh7 ⟨hh7, hf7, many, n0, n1, rfl⟩
        refine b_cut (fun e h => Hd n h ∧ Fx n vh h ∧ ∃ f2 : List Int, Byt f2 ∧ f2.length ≤ found.length + 60 ∧ e = [.val (.ref n), .val (tupI one), .val (tupI f2), .val (.int here), .val d, .val (.int w), s6, .val (.int many), .no, .no]) ?_ ?_
        · have hk := fig_len10 (n := (3 * many + w).toNat) (by omega)
          have hlk : (List.map D.int (fig (3 * many + w).toNat)).length = (fig (3 * many + w).toNat).length := List.length_map _
          have hbb := byt_app b1 (fig_byt (3 * many + w).toNat)
          have hll : (found ++ fig (3 * many + w).toNat).length ≤ found.length + 60 := by
            rw [List.length_append]
            omega
          walk_at "r"
          refine p_dec (fun h5 => ?_) (fun h5 => ?_)
          · walk_at "r"
            refine c__law_whole (by omega) (by omega) ?_
            walk_at "r"
            rw [← List.map_append]
            exact hold ⟨hh7, hf7, _, hbb, hll, rfl⟩
          · walk_at "r"
            refine c__law_draw hh7 (by decide) fun k2 vh8 g0 g1 hh8 hf8 => ?_
            walk_at "r"
            refine p_dec (fun h6 => ?_) (fun h6 => ?_)
            · walk_at "r"
              refine c__law_whole (by omega) (by omega) ?_
              walk_at "r"
              rw [← List.map_append]
              exact hold ⟨hh8, fx_trans hf7 hf8, _, hbb, hll, rfl⟩
            · walk_at "r"
              exact hold ⟨hh8, fx_trans hf7 hf8, found, b1, by omega, rfl⟩
        · rintro _ vh8 ⟨hh8, hf8, f2, c1, c2, rfl⟩
          walk_at "r"
          refine ih _ _ ⟨hh8, hf8, f2, _, .val d, _, _, _, _, _, c1, by omega, ?_, ?_, rfl, rfl, rfl⟩
          · split <;> omega
          · split <;> omega
  · simp
    omega
theorem k_law_spliced : Sat Phi Gam ir__law_spliced tc__law_spliced.N ["hand", "row"] s__law_spliced := by
  refine sat_spec (fun _ => rfl) ?_
  rintro ⟨n, b0⟩ vh R ⟨⟨o, ho, hh⟩, hb, hl⟩ q
  dsimp only at ho hb hl q
  show wpB Phi Gam ir__law_spliced _ _ [.val (.ref n), .val (tupI b0), .no, .no, .no] vh
  unfold ir__law_spliced
  walk_at "r"
  refine c__law_draw ⟨o, ho, hh⟩ (by decide) fun u vh1 h2 h3 hh1 hf => ?_
  walk_at "r"
  refine for_rule (fun rest e h => Hd n h ∧ Fx n vh h ∧ ∃ (bs : List Int) (s2 s3 s4 : Slot), Byt bs ∧ bs.length + 6 * rest.length ≤ b0.length + 18 ∧
    e = [.val (.ref n), .val (tupI bs), s2, s3, s4]) ?_ ?_ _ _ _ ⟨hh1, hf, b0, .no, .no, .no, hb, ?_, rfl⟩
  · rintro _ vh3 ⟨⟨o3, g1, g2⟩, f3, bs, s2, s3, s4, b1, b2, rfl⟩
    walk_at "r"
    exact q _ _ ⟨bs, o3, rfl, b1, by simp at b2; omega, g2, vh_eq ho g1 f3⟩
  · rintro d ds _ vh3 ⟨h3', f3, bs, s2, s3, s4, b1, b2, rfl⟩ ih
    rw [List.length_cons] at b2
    have hlm : (List.map D.int bs).length = bs.length := List.length_map _
    walk_at "r"
    refine c__law_draw h3' (by omega) fun x vh4 x0 x1 hh4 hf4 => ?_
    walk_at "r"
    refine c__law_draw hh4 (by split <;> omega) fun y vh5 y0 y1 hh5 hf5 => ?_
    have e1 : cutL (bs.map D.int) none (some x) = (bs.take x.toNat).map D.int := by rw [cut_take x0, List.map_take]
    have e2 : cutL (bs.map D.int) (some (x + y)) none = (bs.drop (x + y).toNat).map D.int := by rw [cut_drop (by omega), List.map_drop]
    have l1 : (bs.take x.toNat).length = x.toNat := by rw [List.length_take]; omega
    have l2 : (bs.drop (x + y).toNat).length = bs.length - (x + y).toNat := List.length_drop
    walk_at "r"
    rw [e1]
    refine c__law_bytes hh5 (by decide) fun c vh6 c0 c1 hh6 hf6 => ?_
    walk_at "r"
    rw [e2]
    · rw [← List.map_append, ← List.map_append]
      refine ih _ _ ⟨hh6, fx_trans f3 (fx_trans hf4 (fx_trans hf5 hf6)), bs.take x.toNat ++ c ++ bs.drop (x + y).toNat, _, _, _, byt_app (byt_app (fun b h => b1 b (List.mem_of_mem_take h)) c0) (fun b h => b1 b (List.mem_of_mem_drop h)), ?_, rfl⟩
      rw [List.length_append, List.length_append]
      omega
    all_goals (simp only [e2, List.length_append, List.length_map]; omega)
  · simp
    omega
theorem okO1 {other : List Int} : okD 64 (.tup [tupI other, .int (-1)]) = true := by
  show (okD 63 (tupI other) && (okD 63 (.int (-1)) && true)) = true
  rw [okD_tupI]
  rfl
theorem eqO1 {other : List Int} : eqD (.tup [tupI other, .int (-1)]) (.tup [tupI other, .int (-1)]) = true := eqD_refl 64 _ okO1
theorem k_law_is_path : Sat Phi Gam ir__law_is_path tc__law_is_path.N ["one", "other"] s__law_is_path := by
  refine sat_specF (fun _ => rfl) ?_
  rintro ⟨a, b⟩ vh R ⟨⟨ha, hz1⟩, hb, hz2⟩ q
  dsimp only at ha hz1 hb hz2 q
  show wpB Phi Gam ir__law_is_path _ _ [.val (tupI a), .val (tupI b), .no, .no] vh
  unfold ir__law_is_path
  have hl1 : (List.map D.int a).length = a.length := List.length_map _
  have hl2 : (List.map D.int b).length = b.length := List.length_map _
  have hra : Rw a := ⟨ha, by omega⟩
  have hrb : Rw b := ⟨hb, by omega⟩
  walk_at "r"
  refine c_change hra hrb fun c c0 c1 c2 c3 => ?_
  have hl3 : (List.map D.int c).length = c.length := List.length_map _
  have hrc : Rw c := ⟨c0, by omega⟩
  refine b_cut (fun e h => h = vh ∧ e = [.val (tupI a), .val (tupI b), .val (tupI c), .val (.int ((b.length : Int) + 11))]) ?_ ?_
  · walk_at "r"
    rw [hl2]
    exact hold ⟨rfl, rfl⟩
  rintro _ vh2 ⟨hv, rfl⟩
  refine b_cut (fun e h => h = vh2 ∧ ∃ m : Int, (c.length : Int) ≤ m ∧ e = [.val (tupI a), .val (tupI b), .val (tupI c), .val (.int m)]) ?_ ?_
  · walk_at "r"
    rw [eqD_tupI]
    refine p_dec (fun h1 => ?_) (fun h1 => ?_)
    · walk_at "r"
      have := c3 h1
      exact hold ⟨rfl, 11, by omega, rfl⟩
    · walk_at "r"
      exact hold ⟨rfl, (b.length : Int) + 11, by omega, rfl⟩
  rintro _ vh3 ⟨hv3, m, hm, rfl⟩
  have hi : isCh a b (tupI c) = true := by
    rw [isCh_row c0]
    exact decide_eq_true c1
  walk_at "r"
  refine p_dec (fun h1 => by omega) (fun _ => ?_)
  walk_at "r"
  refine c_is_change hra hrb (th_row hrc.2) ?_
  rw [hi]
  walk_at "r"
  refine c__law_is rfl rfl ?_
  walk_at "r"
  refine c__law_become hra hrc ?_
  rw [c1]
  unfold dataB
  dsimp only
  walk_at "r"
  · rw [eqO1]
    walk_at "r"
    refine c_changedI hra hrc c1 ?_
    walk_at "r"
    refine c__law_is rfl (plD_tupI (by omega)) ?_
    subst hv3 hv
    exact q
  all_goals exact okO1
theorem isCh_not {a b : List Int} {d : D} (h : rowD d = false) : isCh a b d = false := by
  cases d with
  | tup xs =>
    have h : xs.all byteD = false := h
    show (xs.all byteD && _) = false
    rw [h]
    rfl
  | _ => rfl
theorem flat_map (k : Nat) (bs : List Int) : (List.replicate k (bs.map D.int)).flatten = ((List.replicate k bs).flatten).map D.int := by
  rw [List.map_flatten, List.map_replicate]
theorem byt_flat {k : Nat} {bs : List Int} (h : Byt bs) : Byt (List.replicate k bs).flatten := fun b hb => by
  obtain ⟨l, hl, hb⟩ := List.mem_flatten.mp hb
  obtain ⟨_, e⟩ := List.mem_replicate.mp hl
  rw [e] at hb
  exact h b hb
theorem k_law : Sat Phi Gam ir_law tc_law.N ["script"] s_law := by
  refine sat_spec (fun _ => rfl) ?_
  rintro ns vh R _ q
  show wpB Phi Gam ir_law _ _ [.val (.scr ns), .no, .no, .no, .no, .no, .no, .no, .no] vh
  unfold ir_law
  walk_at "r"
  refine c__law_hand fun ds hh => ?_
  walk_at "r"
  have h0 : Hd vh.length (vh ++ [.lst ds]) := ⟨_, by simp, hh⟩
  generalize vh ++ [.lst ds] = vh0 at h0
  generalize vh.length = n at h0
  refine c__law_draw h0 (by decide) fun way vh1 w0 w1 h1 _ => ?_
  walk_at "r"
  refine c__law_bytes h1 (by decide) fun row vh2 hb hl h2 _ => ?_
  walk_at "r"
  refine c__law_draw h2 (by decide) fun u vh3 u0 u1 h3 _ => ?_
  obtain ⟨d, hd, hm⟩ := atI_ok (xs := [D.int 1, .int 2, .int 8]) u0 u1
  obtain ⟨z, rfl, z0, z1⟩ : ∃ z : Int, d = .int z ∧ 1 ≤ z ∧ z ≤ 8 := by
    simp only [List.mem_cons, List.not_mem_nil, or_false] at hm
    rcases hm with rfl | rfl | rfl <;> exact ⟨_, rfl, by omega, by omega⟩
  have hlr : (List.map D.int row).length = row.length := List.length_map _
  walk_at "r"
  refine i_lst hd ?_
  walk_at "r"
  rw [flat_map]
  obtain ⟨one, hone⟩ : ∃ one, one = (List.replicate z.toNat row).flatten := ⟨_, rfl⟩
  have ob : Byt one := by rw [hone]; exact byt_flat hb
  have ol : one.length ≤ 240 := by
    rw [hone, List.length_flatten, List.map_replicate, List.sum_replicate_nat]
    have : z.toNat * row.length ≤ 8 * 30 := Nat.mul_le_mul (by omega) (by omega)
    omega
  rw [← hone]
  refine c__law_spliced h3 ob (by omega) fun o1 vh4 ob1 ol1 h4 _ => ?_
  walk_at "r"
  refine c__law_spliced h4 ob (by omega) fun o2 vh5 ob2 ol2 h5 _ => ?_
  walk_at "r"
  refine c__law_bytes h5 (by decide) fun o3 vh6 ob3 ol3 h6 _ => ?_
  obtain ⟨d, hd, hm⟩ := atI_ok (xs := [tupI o1, tupI o2, tupI o3, tupI one, .tup []]) w0 w1
  obtain ⟨other, rfl, pb, pl⟩ : ∃ other : List Int, d = tupI other ∧ Byt other ∧ other.length ≤ 258 := by
    simp only [List.mem_cons, List.not_mem_nil, or_false] at hm
    rcases hm with rfl | rfl | rfl | rfl | rfl
    · exact ⟨_, rfl, ob1, by omega⟩
    · exact ⟨_, rfl, ob2, by omega⟩
    · exact ⟨_, rfl, ob3, by omega⟩
    · exact ⟨_, rfl, ob, by omega⟩
    · exact ⟨[], rfl, fun _ h => (by cases h), by simp⟩
  have ro : Rw one := ⟨ob, by omega⟩
  have rp : Rw other := ⟨pb, by omega⟩
  walk_at "r"
  refine i_lst hd ?_
  walk_at "r"
  refine c__law_is_path ob (by omega) pb (by omega) ?_
  walk_at "r"
  refine c__law_is_path pb (by omega) ob (by omega) ?_
  walk_at "r"
  refine c__law_is_path ob (by omega) ob (by omega) ?_
  walk_at "r"
  refine c_change ro rp fun c c0 c1 c2 c3 => ?_
  walk_at "r"
  refine c_changedI ro ⟨c0, by omega⟩ c1 ?_
  walk_at "r"
  refine c_change rp ro fun c' c0' c1' c2' c3' => ?_
  walk_at "r"
  refine c_changedI rp ⟨c0', by omega⟩ c1' ?_
  walk_at "r"
  refine c__law_is rfl (plD_tupI (by omega)) ?_
  walk_at "r"
  refine c__law_drawn_change h6 ro fun some_ vh7 sb sl h7 _ => ?_
  have rs : Rw some_ := ⟨sb, by omega⟩
  have hr : ∀ r, (become one some_).1 = some r → Byt r ∧ r.length ≤ one.length + some_.length ∧ (become one some_).2 = 0 := fun r e => become_row ob sb (by rw [← e])
  refine b_cut (fun e h => h = vh7 ∧ e = [.val (.scr ns), .val (.ref n), .val (.int way), .val (tupI one), .val (tupI other), .val (tupI some_), .no, .no, .no]) ?_ ?_
  · walk_at "r"
    refine c__law_is_told ro rp rs ?_
    walk_at "r"
    exact hold ⟨rfl, rfl⟩
  rintro _ vh8 ⟨hv, rfl⟩
  refine b_cut (fun e h => h = vh8 ∧ ∃ d, (d = .non ∨ ∃ r, d = tupI r ∧ Rw r) ∧ e = [.val (.scr ns), .val (.ref n), .val (.int way), .val (tupI one), .val (tupI other), .val (tupI some_), .val d, .no, .no]) ?_ ?_
  · walk_at "r"
    refine c__law_become ro rs ?_
    generalize become one some_ = z at hr
    obtain ⟨o, j⟩ := z
    cases o with
    | none =>
      unfold dataB
      dsimp only
      walk_at "r"
      exact hold ⟨rfl, .non, .inl rfl, rfl⟩
    | some r =>
      obtain ⟨g1, g2, _⟩ := hr r rfl
      unfold dataB
      dsimp only
      walk_at "r"
      exact hold ⟨rfl, _, .inr ⟨r, rfl, g1, by omega⟩, rfl⟩
  rintro _ vh9 ⟨hv9, d, hd, rfl⟩
  refine b_cut (fun e h => h = vh9 ∧ e = [.val (.scr ns), .val (.ref n), .val (.int way), .val (tupI one), .val (tupI other), .val (tupI some_), .val d, .no, .no]) ?_ ?_
  · rcases hd with rfl | ⟨r, rfl, hrr⟩
    · walk_at "r"
      exact hold ⟨rfl, rfl⟩
    · walk_at "r"
      refine c__law_is_told ro hrr rs ?_
      walk_at "r"
      exact hold ⟨rfl, rfl⟩
  rintro _ vh10 ⟨hv10, rfl⟩
  subst hv10 hv9 hv
  walk_at "r"
  refine c__law_spoilt h7 sb (by omega) fun q1 vh11 qb1 ql1 h11 _ => ?_
  walk_at "r"
  refine c_change ro rp fun c4 c40 c41 c42 c43 => ?_
  walk_at "r"
  refine c__law_spoilt h11 c40 (by omega) fun q2 vh12 qb2 ql2 h12 _ => ?_
  walk_at "r"
  refine c__law_bytes h12 (by decide) fun q3 vh13 qb3 ql3 h13 _ => ?_
  walk_at "r"
  refine c__law_is_told ro rp ⟨qb1, by omega⟩ ?_
  walk_at "r"
  refine c__law_is_told ro rp ⟨qb2, by omega⟩ ?_
  walk_at "r"
  refine c__law_is_told ro rp ⟨qb3, by omega⟩ ?_
  walk_at "r"
  refine c__law_is_told (c := []) ro rp ⟨fun _ h => (by cases h), by simp⟩ ?_
  walk_at "r"
  refine c_change ro rp fun c5 c50 c51 c52 c53 => ?_
  walk_at "r"
  refine c__law_deep h13 fun deep vh14 k1 k2 h14 _ => ?_
  walk_at "r"
  refine c__law_draw h14 (by decide) fun w2 vh15 g0 g1 h15 _ => ?_
  obtain ⟨x, hx, hm2⟩ := atI_ok (xs := [D.non, .lst (c5.map D.int), .int 7, .tup [.int 256], .tup [.bl true], .str "", .tup [.non], deep]) g0 g1
  obtain ⟨t1, t2⟩ : Th x ∧ rowD x = false := by
    simp only [List.mem_cons, List.not_mem_nil, or_false] at hm2
    rcases hm2 with rfl | rfl | rfl | rfl | rfl | rfl | rfl | rfl
    · exact ⟨th_not ⟨_, rfl⟩ fun xs e => (by cases e), rfl⟩
    · exact ⟨th_not ⟨_, rfl⟩ fun xs e => (by cases e), rfl⟩
    · exact ⟨th_not ⟨_, rfl⟩ fun xs e => (by cases e), rfl⟩
    · exact ⟨th_one ⟨_, rfl⟩, by decide⟩
    · exact ⟨th_one ⟨_, rfl⟩, by decide⟩
    · exact ⟨th_not ⟨_, rfl⟩ fun xs e => (by cases e), rfl⟩
    · exact ⟨th_one ⟨_, rfl⟩, by decide⟩
    · exact ⟨k1, k2⟩
  walk_at "r"
  refine i_lst hx ?_
  walk_at "r"
  refine c_is_change ro rp t1 ?_
  rw [isCh_not t2]
  walk_at "r"
  refine c__law_is rfl rfl ?_
  exact q _ _ rfl
theorem law_run (ns : List Int) (_ : ns.length ≤ 63) (_ : ∀ z ∈ ns, Builtin.Int.intBits z ≤ 1048576) : s_law.run [.scr ns] [] fun o _ => o = .ok (.v (.bl true)) := ⟨ns, rfl, trivial, fun x vh' h => by rw [show x = _ from h]⟩
/-! ### what the top has written -/
def flW : Str → List Str := fun x => match tb.lookup x with
  | some p => p.1
  | none => []
def clK (K : PySem.W.Frag) : Str → Option Addr := fun x => if (tb.lookup x).isSome = true then (match PySem.W.nsIn K mainGlobals x with
  | some (some (.ref C)) => some C
  | _ => none) else none
def wd (K : PySem.W.Frag) : Wd := ⟨K, clK K, flW⟩
theorem all_mk {P : Program} {w : World} {K : PySem.W.Frag} {h : Heap} {mg : Str → Option Value} {fa : Addr} (X : K.In h) (G : h.Ns mainGlobals mg) (hfa : mg "law" = some (.ref fa))
    {f0 : Addr} {od0 an0 : Option Addr} {sl0 : Array (Option Value)} {oc0 kV0 dc0 pm0 cd0 ct0 : Value}
    {f1 : Addr} {od1 an1 : Option Addr} {sl1 : Array (Option Value)} {oc1 kV1 dc1 pm1 cd1 ct1 : Value}
    {f2 : Addr} {od2 an2 : Option Addr} {sl2 : Array (Option Value)} {oc2 kV2 dc2 pm2 cd2 ct2 : Value}
    {f3 : Addr} {od3 an3 : Option Addr} {sl3 : Array (Option Value)} {oc3 kV3 dc3 pm3 cd3 ct3 : Value}
    {f4 : Addr} {od4 an4 : Option Addr} {sl4 : Array (Option Value)} {oc4 kV4 dc4 pm4 cd4 ct4 : Value}
    {f5 : Addr} {od5 an5 : Option Addr} {sl5 : Array (Option Value)} {oc5 kV5 dc5 pm5 cd5 ct5 : Value}
    {f6 : Addr} {od6 an6 : Option Addr} {sl6 : Array (Option Value)} {oc6 kV6 dc6 pm6 cd6 ct6 : Value}
    {f7 : Addr} {od7 an7 : Option Addr} {sl7 : Array (Option Value)} {oc7 kV7 dc7 pm7 cd7 ct7 : Value}
    {f8 : Addr} {od8 an8 : Option Addr} {sl8 : Array (Option Value)} {oc8 kV8 dc8 pm8 cd8 ct8 : Value}
    {f9 : Addr} {od9 an9 : Option Addr} {sl9 : Array (Option Value)} {oc9 kV9 dc9 pm9 cd9 ct9 : Value}
    {f10 : Addr} {od10 an10 : Option Addr} {sl10 : Array (Option Value)} {oc10 kV10 dc10 pm10 cd10 ct10 : Value}
    {f11 : Addr} {od11 an11 : Option Addr} {sl11 : Array (Option Value)} {oc11 kV11 dc11 pm11 cd11 ct11 : Value}
    {f12 : Addr} {od12 an12 : Option Addr} {sl12 : Array (Option Value)} {oc12 kV12 dc12 pm12 cd12 ct12 : Value}
    {f13 : Addr} {od13 an13 : Option Addr} {sl13 : Array (Option Value)} {oc13 kV13 dc13 pm13 cd13 ct13 : Value}
    {f14 : Addr} {od14 an14 : Option Addr} {sl14 : Array (Option Value)} {oc14 kV14 dc14 pm14 cd14 ct14 : Value}
    {f15 : Addr} {od15 an15 : Option Addr} {sl15 : Array (Option Value)} {oc15 kV15 dc15 pm15 cd15 ct15 : Value}
    {f16 : Addr} {od16 an16 : Option Addr} {sl16 : Array (Option Value)} {oc16 kV16 dc16 pm16 cd16 ct16 : Value}
    {f17 : Addr} {od17 an17 : Option Addr} {sl17 : Array (Option Value)} {oc17 kV17 dc17 pm17 cd17 ct17 : Value}
    {f18 : Addr} {od18 an18 : Option Addr} {sl18 : Array (Option Value)} {oc18 kV18 dc18 pm18 cd18 ct18 : Value}
    {f19 : Addr} {od19 an19 : Option Addr} {sl19 : Array (Option Value)} {oc19 kV19 dc19 pm19 cd19 ct19 : Value}
    {f20 : Addr} {od20 an20 : Option Addr} {sl20 : Array (Option Value)} {oc20 kV20 dc20 pm20 cd20 ct20 : Value}
    {f21 : Addr} {od21 an21 : Option Addr} {sl21 : Array (Option Value)} {oc21 kV21 dc21 pm21 cd21 ct21 : Value}
    {f22 : Addr} {od22 an22 : Option Addr} {sl22 : Array (Option Value)} {oc22 kV22 dc22 pm22 cd22 ct22 : Value}
    {f23 : Addr} {od23 an23 : Option Addr} {sl23 : Array (Option Value)} {oc23 kV23 dc23 pm23 cd23 ct23 : Value}
    {f24 : Addr} {od24 an24 : Option Addr} {sl24 : Array (Option Value)} {oc24 kV24 dc24 pm24 cd24 ct24 : Value}
    {f25 : Addr} {od25 an25 : Option Addr} {sl25 : Array (Option Value)} {oc25 kV25 dc25 pm25 cd25 ct25 : Value}
    {f26 : Addr} {od26 an26 : Option Addr} {sl26 : Array (Option Value)} {oc26 kV26 dc26 pm26 cd26 ct26 : Value}
    {f27 : Addr} {od27 an27 : Option Addr} {sl27 : Array (Option Value)} {oc27 kV27 dc27 pm27 cd27 ct27 : Value}
    {f28 : Addr} {od28 an28 : Option Addr} {sl28 : Array (Option Value)} {oc28 kV28 dc28 pm28 cd28 ct28 : Value}
    {f29 : Addr} {od29 an29 : Option Addr} {sl29 : Array (Option Value)} {oc29 kV29 dc29 pm29 cd29 ct29 : Value}
    {f30 : Addr} {od30 an30 : Option Addr} {sl30 : Array (Option Value)} {oc30 kV30 dc30 pm30 cd30 ct30 : Value}
    {f31 : Addr} {od31 an31 : Option Addr} {sl31 : Array (Option Value)} {oc31 kV31 dc31 pm31 cd31 ct31 : Value}
    {C_NoRow : Addr}
    {C_WorldError : Addr}
    {C_BadChange : Addr}
    {nm_BadChange q_BadChange : Str} {N_BadChange : Addr} {bs_BadChange : List Value} {sn_BadChange : List Str} {sub_BadChange : List Value} {ab_BadChange : Bool} {col_BadChange : Option Bool} {dd_BadChange : Option Addr} {m0_BadChange m1_BadChange m2_BadChange m3_BadChange m5_BadChange : Option Value} {fI_BadChange : Addr} {qn_BadChange : Str} {oI_BadChange : Value} {dI_BadChange : Option Addr} {e1_BadChange e2_BadChange : Value} {aI_BadChange : Option Addr} {g1_BadChange g2_BadChange : Value} {sI_BadChange : Array (Option Value)} {p1_BadChange p2_BadChange q1_BadChange q2_BadChange q3_BadChange q4_BadChange : Pos}
    {t_MOST_BYTES : Tok}
    {t_BYTE : Tok}
    {t_FIGURE : Tok}
    {t_MOST_FIGURES : Tok}
    {t_WHOLE_BOUND : Tok}
    {t_KEPT : Tok}
    {t_LEFT_OUT : Tok}
    {t_PUT_IN : Tok}
    {t_LEAST_KEPT : Tok}
    (a0 : PySem.W.nsIn K mainGlobals "is_integer" = some (some (.ref f0))) (l0 : K.lookup f0 = some ⟨oc0, od0, .func (PySem.W.fnOf "is_integer" "is_integer" (defArgs st_is_integer) (defBody st_is_integer) (defScope st_is_integer) .none kV0 dc0 pm0 an0 cd0 ct0), sl0⟩) (c0 : PySem.W.codeIn K cd0 "is_integer" = true) (k0 : PySem.W.keepIn K (.ref f0) = true)
    (a1 : PySem.W.nsIn K mainGlobals "is_within" = some (some (.ref f1))) (l1 : K.lookup f1 = some ⟨oc1, od1, .func (PySem.W.fnOf "is_within" "is_within" (defArgs st_is_within) (defBody st_is_within) (defScope st_is_within) .none kV1 dc1 pm1 an1 cd1 ct1), sl1⟩) (c1 : PySem.W.codeIn K cd1 "is_within" = true) (k1 : PySem.W.keepIn K (.ref f1) = true)
    (a2 : PySem.W.nsIn K mainGlobals "is_below" = some (some (.ref f2))) (l2 : K.lookup f2 = some ⟨oc2, od2, .func (PySem.W.fnOf "is_below" "is_below" (defArgs st_is_below) (defBody st_is_below) (defScope st_is_below) .none kV2 dc2 pm2 an2 cd2 ct2), sl2⟩) (c2 : PySem.W.codeIn K cd2 "is_below" = true) (k2 : PySem.W.keepIn K (.ref f2) = true)
    (a3 : PySem.W.nsIn K mainGlobals "is_row" = some (some (.ref f3))) (l3 : K.lookup f3 = some ⟨oc3, od3, .func (PySem.W.fnOf "is_row" "is_row" (defArgs st_is_row) (defBody st_is_row) (defScope st_is_row) .none kV3 dc3 pm3 an3 cd3 ct3), sl3⟩) (c3 : PySem.W.codeIn K cd3 "is_row" = true) (k3 : PySem.W.keepIn K (.ref f3) = true)
    (a4 : PySem.W.nsIn K mainGlobals "check_row" = some (some (.ref f4))) (l4 : K.lookup f4 = some ⟨oc4, od4, .func (PySem.W.fnOf "check_row" "check_row" (defArgs st_check_row) (defBody st_check_row) (defScope st_check_row) .none kV4 dc4 pm4 an4 cd4 ct4), sl4⟩) (c4 : PySem.W.codeIn K cd4 "check_row" = true) (k4 : PySem.W.keepIn K (.ref f4) = true)
    (a5 : PySem.W.nsIn K mainGlobals "figures_of" = some (some (.ref f5))) (l5 : K.lookup f5 = some ⟨oc5, od5, .func (PySem.W.fnOf "figures_of" "figures_of" (defArgs st_figures_of) (defBody st_figures_of) (defScope st_figures_of) .none kV5 dc5 pm5 an5 cd5 ct5), sl5⟩) (c5 : PySem.W.codeIn K cd5 "figures_of" = true) (k5 : PySem.W.keepIn K (.ref f5) = true)
    (a6 : PySem.W.nsIn K mainGlobals "number_at" = some (some (.ref f6))) (l6 : K.lookup f6 = some ⟨oc6, od6, .func (PySem.W.fnOf "number_at" "number_at" (defArgs st_number_at) (defBody st_number_at) (defScope st_number_at) .none kV6 dc6 pm6 an6 cd6 ct6), sl6⟩) (c6 : PySem.W.codeIn K cd6 "number_at" = true) (k6 : PySem.W.keepIn K (.ref f6) = true)
    (a7 : PySem.W.nsIn K mainGlobals "part_at" = some (some (.ref f7))) (l7 : K.lookup f7 = some ⟨oc7, od7, .func (PySem.W.fnOf "part_at" "part_at" (defArgs st_part_at) (defBody st_part_at) (defScope st_part_at) .none kV7 dc7 pm7 an7 cd7 ct7), sl7⟩) (c7 : PySem.W.codeIn K cd7 "part_at" = true) (k7 : PySem.W.keepIn K (.ref f7) = true)
    (a8 : PySem.W.nsIn K mainGlobals "changed_or_wrong" = some (some (.ref f8))) (l8 : K.lookup f8 = some ⟨oc8, od8, .func (PySem.W.fnOf "changed_or_wrong" "changed_or_wrong" (defArgs st_changed_or_wrong) (defBody st_changed_or_wrong) (defScope st_changed_or_wrong) .none kV8 dc8 pm8 an8 cd8 ct8), sl8⟩) (c8 : PySem.W.codeIn K cd8 "changed_or_wrong" = true) (k8 : PySem.W.keepIn K (.ref f8) = true)
    (a9 : PySem.W.nsIn K mainGlobals "changed" = some (some (.ref f9))) (l9 : K.lookup f9 = some ⟨oc9, od9, .func (PySem.W.fnOf "changed" "changed" (defArgs st_changed) (defBody st_changed) (defScope st_changed) .none kV9 dc9 pm9 an9 cd9 ct9), sl9⟩) (c9 : PySem.W.codeIn K cd9 "changed" = true) (k9 : PySem.W.keepIn K (.ref f9) = true)
    (a10 : PySem.W.nsIn K mainGlobals "common_begin" = some (some (.ref f10))) (l10 : K.lookup f10 = some ⟨oc10, od10, .func (PySem.W.fnOf "common_begin" "common_begin" (defArgs st_common_begin) (defBody st_common_begin) (defScope st_common_begin) .none kV10 dc10 pm10 an10 cd10 ct10), sl10⟩) (c10 : PySem.W.codeIn K cd10 "common_begin" = true) (k10 : PySem.W.keepIn K (.ref f10) = true)
    (a11 : PySem.W.nsIn K mainGlobals "common_end" = some (some (.ref f11))) (l11 : K.lookup f11 = some ⟨oc11, od11, .func (PySem.W.fnOf "common_end" "common_end" (defArgs st_common_end) (defBody st_common_end) (defScope st_common_end) .none kV11 dc11 pm11 an11 cd11 ct11), sl11⟩) (c11 : PySem.W.codeIn K cd11 "common_end" = true) (k11 : PySem.W.keepIn K (.ref f11) = true)
    (a12 : PySem.W.nsIn K mainGlobals "part_row" = some (some (.ref f12))) (l12 : K.lookup f12 = some ⟨oc12, od12, .func (PySem.W.fnOf "part_row" "part_row" (defArgs st_part_row) (defBody st_part_row) (defScope st_part_row) .none kV12 dc12 pm12 an12 cd12 ct12), sl12⟩) (c12 : PySem.W.codeIn K cd12 "part_row" = true) (k12 : PySem.W.keepIn K (.ref f12) = true)
    (a13 : PySem.W.nsIn K mainGlobals "change_of" = some (some (.ref f13))) (l13 : K.lookup f13 = some ⟨oc13, od13, .func (PySem.W.fnOf "change_of" "change_of" (defArgs st_change_of) (defBody st_change_of) (defScope st_change_of) .none kV13 dc13 pm13 an13 cd13 ct13), sl13⟩) (c13 : PySem.W.codeIn K cd13 "change_of" = true) (k13 : PySem.W.keepIn K (.ref f13) = true)
    (a14 : PySem.W.nsIn K mainGlobals "change" = some (some (.ref f14))) (l14 : K.lookup f14 = some ⟨oc14, od14, .func (PySem.W.fnOf "change" "change" (defArgs st_change) (defBody st_change) (defScope st_change) .none kV14 dc14 pm14 an14 cd14 ct14), sl14⟩) (c14 : PySem.W.codeIn K cd14 "change" = true) (k14 : PySem.W.keepIn K (.ref f14) = true)
    (a15 : PySem.W.nsIn K mainGlobals "is_change" = some (some (.ref f15))) (l15 : K.lookup f15 = some ⟨oc15, od15, .func (PySem.W.fnOf "is_change" "is_change" (defArgs st_is_change) (defBody st_is_change) (defScope st_is_change) .none kV15 dc15 pm15 an15 cd15 ct15), sl15⟩) (c15 : PySem.W.codeIn K cd15 "is_change" = true) (k15 : PySem.W.keepIn K (.ref f15) = true)
    (a16 : PySem.W.nsIn K mainGlobals "_law_hand" = some (some (.ref f16))) (l16 : K.lookup f16 = some ⟨oc16, od16, .func (PySem.W.fnOf "_law_hand" "_law_hand" (defArgs st__law_hand) (defBody st__law_hand) (defScope st__law_hand) .none kV16 dc16 pm16 an16 cd16 ct16), sl16⟩) (c16 : PySem.W.codeIn K cd16 "_law_hand" = true) (k16 : PySem.W.keepIn K (.ref f16) = true)
    (a17 : PySem.W.nsIn K mainGlobals "_law_draw" = some (some (.ref f17))) (l17 : K.lookup f17 = some ⟨oc17, od17, .func (PySem.W.fnOf "_law_draw" "_law_draw" (defArgs st__law_draw) (defBody st__law_draw) (defScope st__law_draw) .none kV17 dc17 pm17 an17 cd17 ct17), sl17⟩) (c17 : PySem.W.codeIn K cd17 "_law_draw" = true) (k17 : PySem.W.keepIn K (.ref f17) = true)
    (a18 : PySem.W.nsIn K mainGlobals "_law_is" = some (some (.ref f18))) (l18 : K.lookup f18 = some ⟨oc18, od18, .func (PySem.W.fnOf "_law_is" "_law_is" (defArgs st__law_is) (defBody st__law_is) (defScope st__law_is) .none kV18 dc18 pm18 an18 cd18 ct18), sl18⟩) (c18 : PySem.W.codeIn K cd18 "_law_is" = true) (k18 : PySem.W.keepIn K (.ref f18) = true)
    (a19 : PySem.W.nsIn K mainGlobals "_law_deep" = some (some (.ref f19))) (l19 : K.lookup f19 = some ⟨oc19, od19, .func (PySem.W.fnOf "_law_deep" "_law_deep" (defArgs st__law_deep) (defBody st__law_deep) (defScope st__law_deep) .none kV19 dc19 pm19 an19 cd19 ct19), sl19⟩) (c19 : PySem.W.codeIn K cd19 "_law_deep" = true) (k19 : PySem.W.keepIn K (.ref f19) = true)
    (a20 : PySem.W.nsIn K mainGlobals "_law_whole" = some (some (.ref f20))) (l20 : K.lookup f20 = some ⟨oc20, od20, .func (PySem.W.fnOf "_law_whole" "_law_whole" (defArgs st__law_whole) (defBody st__law_whole) (defScope st__law_whole) .none kV20 dc20 pm20 an20 cd20 ct20), sl20⟩) (c20 : PySem.W.codeIn K cd20 "_law_whole" = true) (k20 : PySem.W.keepIn K (.ref f20) = true)
    (a21 : PySem.W.nsIn K mainGlobals "_law_read" = some (some (.ref f21))) (l21 : K.lookup f21 = some ⟨oc21, od21, .func (PySem.W.fnOf "_law_read" "_law_read" (defArgs st__law_read) (defBody st__law_read) (defScope st__law_read) .none kV21 dc21 pm21 an21 cd21 ct21), sl21⟩) (c21 : PySem.W.codeIn K cd21 "_law_read" = true) (k21 : PySem.W.keepIn K (.ref f21) = true)
    (a22 : PySem.W.nsIn K mainGlobals "_law_byte" = some (some (.ref f22))) (l22 : K.lookup f22 = some ⟨oc22, od22, .func (PySem.W.fnOf "_law_byte" "_law_byte" (defArgs st__law_byte) (defBody st__law_byte) (defScope st__law_byte) .none kV22 dc22 pm22 an22 cd22 ct22), sl22⟩) (c22 : PySem.W.codeIn K cd22 "_law_byte" = true) (k22 : PySem.W.keepIn K (.ref f22) = true)
    (a23 : PySem.W.nsIn K mainGlobals "_law_bytes" = some (some (.ref f23))) (l23 : K.lookup f23 = some ⟨oc23, od23, .func (PySem.W.fnOf "_law_bytes" "_law_bytes" (defArgs st__law_bytes) (defBody st__law_bytes) (defScope st__law_bytes) .none kV23 dc23 pm23 an23 cd23 ct23), sl23⟩) (c23 : PySem.W.codeIn K cd23 "_law_bytes" = true) (k23 : PySem.W.keepIn K (.ref f23) = true)
    (a24 : PySem.W.nsIn K mainGlobals "_law_spoilt" = some (some (.ref f24))) (l24 : K.lookup f24 = some ⟨oc24, od24, .func (PySem.W.fnOf "_law_spoilt" "_law_spoilt" (defArgs st__law_spoilt) (defBody st__law_spoilt) (defScope st__law_spoilt) .none kV24 dc24 pm24 an24 cd24 ct24), sl24⟩) (c24 : PySem.W.codeIn K cd24 "_law_spoilt" = true) (k24 : PySem.W.keepIn K (.ref f24) = true)
    (a25 : PySem.W.nsIn K mainGlobals "_law_become" = some (some (.ref f25))) (l25 : K.lookup f25 = some ⟨oc25, od25, .func (PySem.W.fnOf "_law_become" "_law_become" (defArgs st__law_become) (defBody st__law_become) (defScope st__law_become) .none kV25 dc25 pm25 an25 cd25 ct25), sl25⟩) (c25 : PySem.W.codeIn K cd25 "_law_become" = true) (k25 : PySem.W.keepIn K (.ref f25) = true)
    (a26 : PySem.W.nsIn K mainGlobals "_law_changed_told" = some (some (.ref f26))) (l26 : K.lookup f26 = some ⟨oc26, od26, .func (PySem.W.fnOf "_law_changed_told" "_law_changed_told" (defArgs st__law_changed_told) (defBody st__law_changed_told) (defScope st__law_changed_told) .none kV26 dc26 pm26 an26 cd26 ct26), sl26⟩) (c26 : PySem.W.codeIn K cd26 "_law_changed_told" = true) (k26 : PySem.W.keepIn K (.ref f26) = true)
    (a27 : PySem.W.nsIn K mainGlobals "_law_is_told" = some (some (.ref f27))) (l27 : K.lookup f27 = some ⟨oc27, od27, .func (PySem.W.fnOf "_law_is_told" "_law_is_told" (defArgs st__law_is_told) (defBody st__law_is_told) (defScope st__law_is_told) .none kV27 dc27 pm27 an27 cd27 ct27), sl27⟩) (c27 : PySem.W.codeIn K cd27 "_law_is_told" = true) (k27 : PySem.W.keepIn K (.ref f27) = true)
    (a28 : PySem.W.nsIn K mainGlobals "_law_drawn_change" = some (some (.ref f28))) (l28 : K.lookup f28 = some ⟨oc28, od28, .func (PySem.W.fnOf "_law_drawn_change" "_law_drawn_change" (defArgs st__law_drawn_change) (defBody st__law_drawn_change) (defScope st__law_drawn_change) .none kV28 dc28 pm28 an28 cd28 ct28), sl28⟩) (c28 : PySem.W.codeIn K cd28 "_law_drawn_change" = true) (k28 : PySem.W.keepIn K (.ref f28) = true)
    (a29 : PySem.W.nsIn K mainGlobals "_law_spliced" = some (some (.ref f29))) (l29 : K.lookup f29 = some ⟨oc29, od29, .func (PySem.W.fnOf "_law_spliced" "_law_spliced" (defArgs st__law_spliced) (defBody st__law_spliced) (defScope st__law_spliced) .none kV29 dc29 pm29 an29 cd29 ct29), sl29⟩) (c29 : PySem.W.codeIn K cd29 "_law_spliced" = true) (k29 : PySem.W.keepIn K (.ref f29) = true)
    (a30 : PySem.W.nsIn K mainGlobals "_law_is_path" = some (some (.ref f30))) (l30 : K.lookup f30 = some ⟨oc30, od30, .func (PySem.W.fnOf "_law_is_path" "_law_is_path" (defArgs st__law_is_path) (defBody st__law_is_path) (defScope st__law_is_path) .none kV30 dc30 pm30 an30 cd30 ct30), sl30⟩) (c30 : PySem.W.codeIn K cd30 "_law_is_path" = true) (k30 : PySem.W.keepIn K (.ref f30) = true)
    (a31 : PySem.W.nsIn K mainGlobals "law" = some (some (.ref f31))) (l31 : K.lookup f31 = some ⟨oc31, od31, .func (PySem.W.fnOf "law" "law" (defArgs st_law) (defBody st_law) (defScope st_law) .none kV31 dc31 pm31 an31 cd31 ct31), sl31⟩) (c31 : PySem.W.codeIn K cd31 "law" = true) (k31 : PySem.W.keepIn K (.ref f31) = true)
    (z_len : PySem.W.nsIn K mainGlobals "len" = some none)
    (z_int : PySem.W.nsIn K mainGlobals "int" = some none)
    (z_bool : PySem.W.nsIn K mainGlobals "bool" = some none)
    (z_str : PySem.W.nsIn K mainGlobals "str" = some none)
    (z_tuple : PySem.W.nsIn K mainGlobals "tuple" = some none)
    (z_list : PySem.W.nsIn K mainGlobals "list" = some none)
    (z_abs : PySem.W.nsIn K mainGlobals "abs" = some none)
    (z_min : PySem.W.nsIn K mainGlobals "min" = some none)
    (z_max : PySem.W.nsIn K mainGlobals "max" = some none)
    (z_sum : PySem.W.nsIn K mainGlobals "sum" = some none)
    (z_all : PySem.W.nsIn K mainGlobals "all" = some none)
    (z_any : PySem.W.nsIn K mainGlobals "any" = some none)
    (z_range : PySem.W.nsIn K mainGlobals "range" = some none)
    (z_zip : PySem.W.nsIn K mainGlobals "zip" = some none)
    (z_enumerate : PySem.W.nsIn K mainGlobals "enumerate" = some none)
    (z_reversed : PySem.W.nsIn K mainGlobals "reversed" = some none)
    (z_isinstance : PySem.W.nsIn K mainGlobals "isinstance" = some none)
    (z_dict : PySem.W.nsIn K mainGlobals "dict" = some none)
    (z_sorted : PySem.W.nsIn K mainGlobals "sorted" = some none)
    (z_set : PySem.W.nsIn K mainGlobals "set" = some none)
    (z_repr : PySem.W.nsIn K mainGlobals "repr" = some none)
    (xg_NoRow : PySem.W.nsIn K mainGlobals "NoRow" = some (some (.ref C_NoRow))) (xe_NoRow : PySem.W.subIn K (.ref C_NoRow) (.type "BaseException") = some true) (xt_NoRow : PySem.W.typeIn K (.ref C_NoRow) = some (.type "type"))
    (xg_WorldError : PySem.W.nsIn K mainGlobals "WorldError" = some (some (.ref C_WorldError))) (xe_WorldError : PySem.W.subIn K (.ref C_WorldError) (.type "BaseException") = some true) (xt_WorldError : PySem.W.typeIn K (.ref C_WorldError) = some (.type "type"))
    (xg_BadChange : PySem.W.nsIn K mainGlobals "BadChange" = some (some (.ref C_BadChange))) (xe_BadChange : PySem.W.subIn K (.ref C_BadChange) (.type "BaseException") = some true) (xt_BadChange : PySem.W.typeIn K (.ref C_BadChange) = some (.type "type"))
    (xi_BadChange : PySem.W.isClsIn K C_BadChange = true)
    (xs_NoRow_BadChange : PySem.W.subIn K (.ref C_NoRow) (.ref C_BadChange) = some false)
    (xs_BadChange_BadChange : PySem.W.subIn K (.ref C_BadChange) (.ref C_BadChange) = some true)
    (xi_WorldError : PySem.W.isClsIn K C_WorldError = true)
    (xs_NoRow_WorldError : PySem.W.subIn K (.ref C_NoRow) (.ref C_WorldError) = some true)
    (xs_BadChange_WorldError : PySem.W.subIn K (.ref C_BadChange) (.ref C_WorldError) = some true)
    (xk_NoRow : PySem.W.keepIn K (.ref C_NoRow) = true) (xA_NoRow : PySem.W.findIn K (.ref C_NoRow) "__getattribute__" = some (some (.builtin "BaseException.__getattribute__"))) (xB_NoRow : PySem.W.findIn K (.ref C_NoRow) "__getattr__" = some none) (xD_NoRow : PySem.W.hasDictIn K C_NoRow = true)
    (xq_NoRow : PySem.W.excIn K C_NoRow [.type "ValueError", .type "Exception", .type "BaseException", .type "object"] "ValueError.__new__" = true)
    (xk_BadChange : PySem.W.keepIn K (.ref C_BadChange) = true) (xA_BadChange : PySem.W.findIn K (.ref C_BadChange) "__getattribute__" = some (some (.builtin "BaseException.__getattribute__"))) (xB_BadChange : PySem.W.findIn K (.ref C_BadChange) "__getattr__" = some none) (xD_BadChange : PySem.W.hasDictIn K C_BadChange = true)
    (xL_BadChange : K.lookup C_BadChange = some (excClassObj nm_BadChange q_BadChange C_BadChange N_BadChange bs_BadChange [.ref C_WorldError, .type "ValueError", .type "Exception", .type "BaseException", .type "object"] true sn_BadChange sub_BadChange ab_BadChange col_BadChange dd_BadChange m0_BadChange m1_BadChange m2_BadChange m3_BadChange m5_BadChange "ValueError.__new__"))
    (xS_BadChange : PySem.W.findIn K (.ref C_BadChange) "__setattr__" = some (some (.builtin "object.__setattr__"))) (xN_BadChange : PySem.W.findIn K (.ref C_BadChange) "place" = some none) (xI_BadChange : PySem.W.findIn K (.ref C_BadChange) "__init__" = some (some (.ref fI_BadChange))) (xT_BadChange : PySem.W.typeIn K (.ref fI_BadChange) = some (.type "function"))
    (xF_BadChange : K.lookup fI_BadChange = some ⟨oI_BadChange, dI_BadChange, .func (PySem.W.fnOf "__init__" qn_BadChange (iA "place" p1_BadChange p2_BadChange) (iB "place" q1_BadChange q2_BadChange q3_BadChange q4_BadChange) (iS "place") .none .none e1_BadChange e2_BadChange aI_BadChange g1_BadChange g2_BadChange), sI_BadChange⟩) (xc_BadChange : PySem.W.codeIn K g1_BadChange qn_BadChange = true)
    (m_MOST_BYTES : PySem.W.nsIn K mainGlobals "MOST_BYTES" = some (some (.int 300000 t_MOST_BYTES)))
    (m_BYTE : PySem.W.nsIn K mainGlobals "BYTE" = some (some (.int 256 t_BYTE)))
    (m_FIGURE : PySem.W.nsIn K mainGlobals "FIGURE" = some (some (.int 128 t_FIGURE)))
    (m_MOST_FIGURES : PySem.W.nsIn K mainGlobals "MOST_FIGURES" = some (some (.int 10 t_MOST_FIGURES)))
    (m_WHOLE_BOUND : PySem.W.nsIn K mainGlobals "WHOLE_BOUND" = some (some (.int 18446744073709551616 t_WHOLE_BOUND)))
    (m_KEPT : PySem.W.nsIn K mainGlobals "KEPT" = some (some (.int 0 t_KEPT)))
    (m_LEFT_OUT : PySem.W.nsIn K mainGlobals "LEFT_OUT" = some (some (.int 1 t_LEFT_OUT)))
    (m_PUT_IN : PySem.W.nsIn K mainGlobals "PUT_IN" = some (some (.int 2 t_PUT_IN)))
    (m_LEAST_KEPT : PySem.W.nsIn K mainGlobals "LEAST_KEPT" = some (some (.int 8 t_LEAST_KEPT))) :
    ∃ fd : FuncData, (∀ (s : Shared) (v : Value), BindsTo s fd ⟨[v], []⟩ [("script", v)]) ∧ ∀ base : Heap, K.In base → base.Ns mainGlobals mg → FnOk P w K mg base (L2.CX P w) 9 fa fd ["script"] (spV (wd K) s_law) := by
  have e := hfa.symm.trans (PySem.W.mg_of X G a31)
  cases e
  have gd : Gnd K mg (wd K) Gam tb hs := by
    refine ⟨rfl, fun x d hx => ?_, fun x ns anc hx => ?_, fun x hx => ?_, fun x C hC ns anc ht => ?_, fun c C hC => ?_, fun x d hx => ?_, fun x hx => ?_⟩
    · unfold Gam at hx
      split at hx
      · rename_i hc
        subst hc
        decide +kernel
      split at hx
      · rename_i hc
        subst hc
        decide +kernel
      split at hx
      · rename_i hc
        subst hc
        decide +kernel
      split at hx
      · rename_i hc
        subst hc
        decide +kernel
      split at hx
      · rename_i hc
        subst hc
        decide +kernel
      split at hx
      · rename_i hc
        subst hc
        decide +kernel
      split at hx
      · rename_i hc
        subst hc
        decide +kernel
      split at hx
      · rename_i hc
        subst hc
        decide +kernel
      split at hx
      · rename_i hc
        subst hc
        decide +kernel
      cases hx
    · unfold tb at hx
      rw [List.lookup_cons] at hx
      split at hx
      · rename_i hc
        have hc := eq_of_beq hc
        subst hc
        refine ⟨C_NoRow, by show clK K ("NoRow" : Str) = some C_NoRow; unfold clK; rw [if_pos (by decide +kernel), xg_NoRow], ?_⟩
        exact .inl ⟨by show flW ("NoRow" : Str) = []; decide +kernel, by decide +kernel, PySem.W.mg_of X G xg_NoRow, xq_NoRow, xk_NoRow, xe_NoRow, xt_NoRow⟩
      rw [List.lookup_cons] at hx
      split at hx
      · rename_i hc
        have hc := eq_of_beq hc
        subst hc
        refine ⟨C_BadChange, by show clK K ("BadChange" : Str) = some C_BadChange; unfold clK; rw [if_pos (by decide +kernel), xg_BadChange], ?_⟩
        exact .inr ⟨"place", fI_BadChange, by show flW ("BadChange" : Str) = [("place" : Str)]; decide +kernel, { hs := by decide +kernel, hd := by decide +kernel, hx := by decide +kernel, gC := PySem.W.mg_of X G xg_BadChange, cls := ⟨_, _, _, _, _, _, _, _, _, _, _, _, _, _, _, xL_BadChange, rfl⟩, sa := xS_BadChange, ga := xA_BadChange, gg := xB_BadChange, noN := xN_BadChange, iC := xI_BadChange, tC := xT_BadChange, kC := xk_BadChange, exC := xe_BadChange, tyC := xt_BadChange, hdC := xD_BadChange, fn := ⟨_, _, _, _, _, _, _, _, _, _, _, _, _, _, _, xF_BadChange, xc_BadChange, fun _ _ _ => .of_eq rfl⟩ }⟩
      cases hx
    · simp only [hs, List.mem_cons, List.not_mem_nil, or_false] at hx
      rcases hx with rfl | rfl
      · refine ⟨by decide +kernel, .ref C_BadChange, PySem.W.mg_of X G xg_BadChange, fun c C hC ns anc ht => ?_⟩
        have hC : clK K c = some C := hC
        unfold clK at hC
        split at hC
        · rename_i ht0
          obtain ⟨p, hp⟩ := Option.isSome_iff_exists.mp ht0
          unfold tb at hp
          rw [List.lookup_cons] at hp
          split at hp
          · rename_i hc
            have hc := eq_of_beq hc
            subst hc
            rw [xg_NoRow] at hC
            cases hC
            have e : tb.lookup ("NoRow" : Str) = some (([] : List Str), (["NoRow", "WorldError", "ValueError", "Exception", "BaseException", "object"] : List Str)) := by decide +kernel
            rw [e] at ht
            cases ht
            exact ⟨by show _ = flW ("NoRow" : Str); decide +kernel, (exm_by xe_BadChange xi_BadChange xt_BadChange xs_NoRow_BadChange).trans (by decide +kernel)⟩
          rw [List.lookup_cons] at hp
          split at hp
          · rename_i hc
            have hc := eq_of_beq hc
            subst hc
            rw [xg_BadChange] at hC
            cases hC
            have e : tb.lookup ("BadChange" : Str) = some ((["place"] : List Str), (["BadChange", "WorldError", "ValueError", "Exception", "BaseException", "object"] : List Str)) := by decide +kernel
            rw [e] at ht
            cases ht
            exact ⟨by show _ = flW ("BadChange" : Str); decide +kernel, (exm_by xe_BadChange xi_BadChange xt_BadChange xs_BadChange_BadChange).trans (by decide +kernel)⟩
          cases hp
        · cases hC
      · refine ⟨by decide +kernel, .ref C_WorldError, PySem.W.mg_of X G xg_WorldError, fun c C hC ns anc ht => ?_⟩
        have hC : clK K c = some C := hC
        unfold clK at hC
        split at hC
        · rename_i ht0
          obtain ⟨p, hp⟩ := Option.isSome_iff_exists.mp ht0
          unfold tb at hp
          rw [List.lookup_cons] at hp
          split at hp
          · rename_i hc
            have hc := eq_of_beq hc
            subst hc
            rw [xg_NoRow] at hC
            cases hC
            have e : tb.lookup ("NoRow" : Str) = some (([] : List Str), (["NoRow", "WorldError", "ValueError", "Exception", "BaseException", "object"] : List Str)) := by decide +kernel
            rw [e] at ht
            cases ht
            exact ⟨by show _ = flW ("NoRow" : Str); decide +kernel, (exm_by xe_WorldError xi_WorldError xt_WorldError xs_NoRow_WorldError).trans (by decide +kernel)⟩
          rw [List.lookup_cons] at hp
          split at hp
          · rename_i hc
            have hc := eq_of_beq hc
            subst hc
            rw [xg_BadChange] at hC
            cases hC
            have e : tb.lookup ("BadChange" : Str) = some ((["place"] : List Str), (["BadChange", "WorldError", "ValueError", "Exception", "BaseException", "object"] : List Str)) := by decide +kernel
            rw [e] at ht
            cases ht
            exact ⟨by show _ = flW ("BadChange" : Str); decide +kernel, (exm_by xe_WorldError xi_WorldError xt_WorldError xs_BadChange_WorldError).trans (by decide +kernel)⟩
          cases hp
        · cases hC
    · show ns = flW x
      unfold flW
      rw [ht]
    · skip
      have hC : clK K c = some C := hC
      unfold clK at hC
      split at hC
      · rename_i ht0
        obtain ⟨p, hp⟩ := Option.isSome_iff_exists.mp ht0
        unfold tb at hp
        rw [List.lookup_cons] at hp
        split at hp
        · rename_i hc
          have hc := eq_of_beq hc
          subst hc
          rw [xg_NoRow] at hC
          cases hC
          refine ⟨⟨xA_NoRow, xB_NoRow, xe_NoRow, xD_NoRow⟩, fun f hf => ?_⟩
          have e : (wd K).fl ("NoRow" : Str) = ([] : List Str) := by show flW ("NoRow" : Str) = ([] : List Str); decide +kernel
          rw [e] at hf
          cases hf
        rw [List.lookup_cons] at hp
        split at hp
        · rename_i hc
          have hc := eq_of_beq hc
          subst hc
          rw [xg_BadChange] at hC
          cases hC
          refine ⟨⟨xA_BadChange, xB_BadChange, xe_BadChange, xD_BadChange⟩, fun f hf => ?_⟩
          have e : (wd K).fl ("BadChange" : Str) = (["place"] : List Str) := by show flW ("BadChange" : Str) = (["place"] : List Str); decide +kernel
          rw [e] at hf
          simp only [List.mem_cons, List.not_mem_nil, or_false] at hf
          subst hf
          exact xN_BadChange
        cases hp
      · cases hC
    · unfold Gam at hx
      split at hx
      · rename_i hc
        subst hc
        cases hx
        exact ⟨_, .int 300000, PySem.W.mg_of X G m_MOST_BYTES, ⟨t_MOST_BYTES, rfl⟩, fun _ _ _ => rfl, by decide +kernel⟩
      split at hx
      · rename_i hc
        subst hc
        cases hx
        exact ⟨_, .int 256, PySem.W.mg_of X G m_BYTE, ⟨t_BYTE, rfl⟩, fun _ _ _ => rfl, by decide +kernel⟩
      split at hx
      · rename_i hc
        subst hc
        cases hx
        exact ⟨_, .int 128, PySem.W.mg_of X G m_FIGURE, ⟨t_FIGURE, rfl⟩, fun _ _ _ => rfl, by decide +kernel⟩
      split at hx
      · rename_i hc
        subst hc
        cases hx
        exact ⟨_, .int 10, PySem.W.mg_of X G m_MOST_FIGURES, ⟨t_MOST_FIGURES, rfl⟩, fun _ _ _ => rfl, by decide +kernel⟩
      split at hx
      · rename_i hc
        subst hc
        cases hx
        exact ⟨_, .int 18446744073709551616, PySem.W.mg_of X G m_WHOLE_BOUND, ⟨t_WHOLE_BOUND, rfl⟩, fun _ _ _ => rfl, by decide +kernel⟩
      split at hx
      · rename_i hc
        subst hc
        cases hx
        exact ⟨_, .int 0, PySem.W.mg_of X G m_KEPT, ⟨t_KEPT, rfl⟩, fun _ _ _ => rfl, by decide +kernel⟩
      split at hx
      · rename_i hc
        subst hc
        cases hx
        exact ⟨_, .int 1, PySem.W.mg_of X G m_LEFT_OUT, ⟨t_LEFT_OUT, rfl⟩, fun _ _ _ => rfl, by decide +kernel⟩
      split at hx
      · rename_i hc
        subst hc
        cases hx
        exact ⟨_, .int 2, PySem.W.mg_of X G m_PUT_IN, ⟨t_PUT_IN, rfl⟩, fun _ _ _ => rfl, by decide +kernel⟩
      split at hx
      · rename_i hc
        subst hc
        cases hx
        exact ⟨_, .int 8, PySem.W.mg_of X G m_LEAST_KEPT, ⟨t_LEAST_KEPT, rfl⟩, fun _ _ _ => rfl, by decide +kernel⟩
      cases hx
    · simp only [bltNames, List.mem_cons, List.not_mem_nil, or_false] at hx
      rcases hx with rfl | rfl | rfl | rfl | rfl | rfl | rfl | rfl | rfl | rfl | rfl | rfl | rfl | rfl | rfl | rfl | rfl | rfl | rfl | rfl | rfl
      · exact PySem.W.mg_none_of X G z_len
      · exact PySem.W.mg_none_of X G z_int
      · exact PySem.W.mg_none_of X G z_bool
      · exact PySem.W.mg_none_of X G z_str
      · exact PySem.W.mg_none_of X G z_tuple
      · exact PySem.W.mg_none_of X G z_list
      · exact PySem.W.mg_none_of X G z_abs
      · exact PySem.W.mg_none_of X G z_min
      · exact PySem.W.mg_none_of X G z_max
      · exact PySem.W.mg_none_of X G z_sum
      · exact PySem.W.mg_none_of X G z_all
      · exact PySem.W.mg_none_of X G z_any
      · exact PySem.W.mg_none_of X G z_range
      · exact PySem.W.mg_none_of X G z_zip
      · exact PySem.W.mg_none_of X G z_enumerate
      · exact PySem.W.mg_none_of X G z_reversed
      · exact PySem.W.mg_none_of X G z_isinstance
      · exact PySem.W.mg_none_of X G z_dict
      · exact PySem.W.mg_none_of X G z_sorted
      · exact PySem.W.mg_none_of X G z_set
      · exact PySem.W.mg_none_of X G z_repr
  refine ⟨PySem.W.fnOf "law" "law" (defArgs st_law) (defBody st_law) (defScope st_law) .none kV31 dc31 pm31 an31 cd31 ct31, fun s v => .of_eq rfl, fun base _ _ => ?_⟩
  have F0 := fun_mk (st := st_is_integer) l0 c0 k0
  have h0 : ∀ g, g ∈ tc_is_integer.fs → Df P w K mg base (wd K) 0 g (Phi g) := by
    intro g hg
    cases hg
  have D0 : Df P w K mg base (wd K) 1 "is_integer" (Phi "is_integer") := df_ok (Φ := Phi) (Γ := Gam) (c := tc_is_integer) (m := 60) (n := 100) F0 (PySem.W.mg_of X G a0) (F0.binds (ps := ["thing"]) fun _ _ _ _ _ _ us hl => match us, hl with | [_], _ => rfl) (by decide +kernel) sc_is_integer tr_is_integer h0 gd (by decide +kernel) k_is_integer
  have F5 := fun_mk (st := st_figures_of) l5 c5 k5
  have h5 : ∀ g, g ∈ tc_figures_of.fs → Df P w K mg base (wd K) 0 g (Phi g) := by
    intro g hg
    cases hg
  have D5 : Df P w K mg base (wd K) 1 "figures_of" (Phi "figures_of") := df_ok (Φ := Phi) (Γ := Gam) (c := tc_figures_of) (m := 60) (n := 100) F5 (PySem.W.mg_of X G a5) (F5.binds (ps := ["number"]) fun _ _ _ _ _ _ us hl => match us, hl with | [_], _ => rfl) (by decide +kernel) sc_figures_of tr_figures_of h5 gd (by decide +kernel) k_figures_of
  have F6 := fun_mk (st := st_number_at) l6 c6 k6
  have h6 : ∀ g, g ∈ tc_number_at.fs → Df P w K mg base (wd K) 0 g (Phi g) := by
    intro g hg
    cases hg
  have D6 : Df P w K mg base (wd K) 1 "number_at" (Phi "number_at") := df_ok (Φ := Phi) (Γ := Gam) (c := tc_number_at) (m := 60) (n := 100) F6 (PySem.W.mg_of X G a6) (F6.binds (ps := ["row", "at"]) fun _ _ _ _ _ _ us hl => match us, hl with | [_, _], _ => rfl) (by decide +kernel) sc_number_at tr_number_at h6 gd (by decide +kernel) k_number_at
  have F10 := fun_mk (st := st_common_begin) l10 c10 k10
  have h10 : ∀ g, g ∈ tc_common_begin.fs → Df P w K mg base (wd K) 0 g (Phi g) := by
    intro g hg
    cases hg
  have D10 : Df P w K mg base (wd K) 1 "common_begin" (Phi "common_begin") := df_ok (Φ := Phi) (Γ := Gam) (c := tc_common_begin) (m := 60) (n := 100) F10 (PySem.W.mg_of X G a10) (F10.binds (ps := ["one", "other"]) fun _ _ _ _ _ _ us hl => match us, hl with | [_, _], _ => rfl) (by decide +kernel) sc_common_begin tr_common_begin h10 gd (by decide +kernel) k_common_begin
  have F11 := fun_mk (st := st_common_end) l11 c11 k11
  have h11 : ∀ g, g ∈ tc_common_end.fs → Df P w K mg base (wd K) 0 g (Phi g) := by
    intro g hg
    cases hg
  have D11 : Df P w K mg base (wd K) 1 "common_end" (Phi "common_end") := df_ok (Φ := Phi) (Γ := Gam) (c := tc_common_end) (m := 60) (n := 100) F11 (PySem.W.mg_of X G a11) (F11.binds (ps := ["one", "other", "most"]) fun _ _ _ _ _ _ us hl => match us, hl with | [_, _, _], _ => rfl) (by decide +kernel) sc_common_end tr_common_end h11 gd (by decide +kernel) k_common_end
  have F16 := fun_mk (st := st__law_hand) l16 c16 k16
  have h16 : ∀ g, g ∈ tc__law_hand.fs → Df P w K mg base (wd K) 0 g (Phi g) := by
    intro g hg
    cases hg
  have D16 : Df P w K mg base (wd K) 1 "_law_hand" (Phi "_law_hand") := df_ok (Φ := Phi) (Γ := Gam) (c := tc__law_hand) (m := 60) (n := 100) F16 (PySem.W.mg_of X G a16) (F16.binds (ps := ["script"]) fun _ _ _ _ _ _ us hl => match us, hl with | [_], _ => rfl) (by decide +kernel) sc__law_hand tr__law_hand h16 gd (by decide +kernel) k_law_hand
  have F17 := fun_mk (st := st__law_draw) l17 c17 k17
  have h17 : ∀ g, g ∈ tc__law_draw.fs → Df P w K mg base (wd K) 0 g (Phi g) := by
    intro g hg
    cases hg
  have D17 : Df P w K mg base (wd K) 1 "_law_draw" (Phi "_law_draw") := df_ok (Φ := Phi) (Γ := Gam) (c := tc__law_draw) (m := 60) (n := 100) F17 (PySem.W.mg_of X G a17) (F17.binds (ps := ["hand", "many"]) fun _ _ _ _ _ _ us hl => match us, hl with | [_, _], _ => rfl) (by decide +kernel) sc__law_draw tr__law_draw h17 gd (by decide +kernel) k_law_draw
  have F20 := fun_mk (st := st__law_whole) l20 c20 k20
  have h20 : ∀ g, g ∈ tc__law_whole.fs → Df P w K mg base (wd K) 0 g (Phi g) := by
    intro g hg
    cases hg
  have D20 : Df P w K mg base (wd K) 1 "_law_whole" (Phi "_law_whole") := df_ok (Φ := Phi) (Γ := Gam) (c := tc__law_whole) (m := 60) (n := 100) F20 (PySem.W.mg_of X G a20) (F20.binds (ps := ["number"]) fun _ _ _ _ _ _ us hl => match us, hl with | [_], _ => rfl) (by decide +kernel) sc__law_whole tr__law_whole h20 gd (by decide +kernel) k_law_whole
  have F21 := fun_mk (st := st__law_read) l21 c21 k21
  have h21 : ∀ g, g ∈ tc__law_read.fs → Df P w K mg base (wd K) 0 g (Phi g) := by
    intro g hg
    cases hg
  have D21 : Df P w K mg base (wd K) 1 "_law_read" (Phi "_law_read") := df_ok (Φ := Phi) (Γ := Gam) (c := tc__law_read) (m := 60) (n := 100) F21 (PySem.W.mg_of X G a21) (F21.binds (ps := ["row", "at"]) fun _ _ _ _ _ _ us hl => match us, hl with | [_, _], _ => rfl) (by decide +kernel) sc__law_read tr__law_read h21 gd (by decide +kernel) k_law_read
  have F1 := fun_mk (st := st_is_within) l1 c1 k1
  have h1 : ∀ g, g ∈ tc_is_within.fs → Df P w K mg base (wd K) 1 g (Phi g) := by
    intro g hg
    simp only [tc_is_within, List.mem_cons, List.not_mem_nil, or_false] at hg
    subst hg
    exact D0.mono (by decide)
  have D1 : Df P w K mg base (wd K) 2 "is_within" (Phi "is_within") := df_ok (Φ := Phi) (Γ := Gam) (c := tc_is_within) (m := 60) (n := 100) F1 (PySem.W.mg_of X G a1) (F1.binds (ps := ["thing", "least", "most"]) fun _ _ _ _ _ _ us hl => match us, hl with | [_, _, _], _ => rfl) (by decide +kernel) sc_is_within tr_is_within h1 gd (by decide +kernel) k_is_within
  have F7 := fun_mk (st := st_part_at) l7 c7 k7
  have h7 : ∀ g, g ∈ tc_part_at.fs → Df P w K mg base (wd K) 1 g (Phi g) := by
    intro g hg
    simp only [tc_part_at, List.mem_cons, List.not_mem_nil, or_false] at hg
    subst hg
    exact D6.mono (by decide)
  have D7 : Df P w K mg base (wd K) 2 "part_at" (Phi "part_at") := df_ok (Φ := Phi) (Γ := Gam) (c := tc_part_at) (m := 60) (n := 100) F7 (PySem.W.mg_of X G a7) (F7.binds (ps := ["change", "at"]) fun _ _ _ _ _ _ us hl => match us, hl with | [_, _], _ => rfl) (by decide +kernel) sc_part_at tr_part_at h7 gd (by decide +kernel) k_part_at
  have F12 := fun_mk (st := st_part_row) l12 c12 k12
  have h12 : ∀ g, g ∈ tc_part_row.fs → Df P w K mg base (wd K) 1 g (Phi g) := by
    intro g hg
    simp only [tc_part_row, List.mem_cons, List.not_mem_nil, or_false] at hg
    subst hg
    exact D5.mono (by decide)
  have D12 : Df P w K mg base (wd K) 2 "part_row" (Phi "part_row") := df_ok (Φ := Phi) (Γ := Gam) (c := tc_part_row) (m := 60) (n := 100) F12 (PySem.W.mg_of X G a12) (F12.binds (ps := ["kind", "many"]) fun _ _ _ _ _ _ us hl => match us, hl with | [_, _], _ => rfl) (by decide +kernel) sc_part_row tr_part_row h12 gd (by decide +kernel) k_part_row
  have F19 := fun_mk (st := st__law_deep) l19 c19 k19
  have h19 : ∀ g, g ∈ tc__law_deep.fs → Df P w K mg base (wd K) 1 g (Phi g) := by
    intro g hg
    simp only [tc__law_deep, List.mem_cons, List.not_mem_nil, or_false] at hg
    subst hg
    exact D17.mono (by decide)
  have D19 : Df P w K mg base (wd K) 2 "_law_deep" (Phi "_law_deep") := df_ok (Φ := Phi) (Γ := Gam) (c := tc__law_deep) (m := 60) (n := 100) F19 (PySem.W.mg_of X G a19) (F19.binds (ps := ["hand"]) fun _ _ _ _ _ _ us hl => match us, hl with | [_], _ => rfl) (by decide +kernel) sc__law_deep tr__law_deep h19 gd (by decide +kernel) k_law_deep
  have F22 := fun_mk (st := st__law_byte) l22 c22 k22
  have h22 : ∀ g, g ∈ tc__law_byte.fs → Df P w K mg base (wd K) 1 g (Phi g) := by
    intro g hg
    simp only [tc__law_byte, List.mem_cons, List.not_mem_nil, or_false] at hg
    subst hg
    exact D17.mono (by decide)
  have D22 : Df P w K mg base (wd K) 2 "_law_byte" (Phi "_law_byte") := df_ok (Φ := Phi) (Γ := Gam) (c := tc__law_byte) (m := 60) (n := 100) F22 (PySem.W.mg_of X G a22) (F22.binds (ps := ["hand"]) fun _ _ _ _ _ _ us hl => match us, hl with | [_], _ => rfl) (by decide +kernel) sc__law_byte tr__law_byte h22 gd (by decide +kernel) k_law_byte
  have F25 := fun_mk (st := st__law_become) l25 c25 k25
  have h25 : ∀ g, g ∈ tc__law_become.fs → Df P w K mg base (wd K) 1 g (Phi g) := by
    intro g hg
    simp only [tc__law_become, List.mem_cons, List.not_mem_nil, or_false] at hg
    subst hg
    exact D21.mono (by decide)
  have D25 : Df P w K mg base (wd K) 2 "_law_become" (Phi "_law_become") := df_ok (Φ := Phi) (Γ := Gam) (c := tc__law_become) (m := 60) (n := 100) F25 (PySem.W.mg_of X G a25) (F25.binds (ps := ["one", "some"]) fun _ _ _ _ _ _ us hl => match us, hl with | [_, _], _ => rfl) (by decide +kernel) sc__law_become tr__law_become h25 gd (by decide +kernel) k_law_become
  have F2 := fun_mk (st := st_is_below) l2 c2 k2
  have h2 : ∀ g, g ∈ tc_is_below.fs → Df P w K mg base (wd K) 2 g (Phi g) := by
    intro g hg
    simp only [tc_is_below, List.mem_cons, List.not_mem_nil, or_false] at hg
    subst hg
    exact D1.mono (by decide)
  have D2 : Df P w K mg base (wd K) 3 "is_below" (Phi "is_below") := df_ok (Φ := Phi) (Γ := Gam) (c := tc_is_below) (m := 60) (n := 100) F2 (PySem.W.mg_of X G a2) (F2.binds (ps := ["thing", "many"]) fun _ _ _ _ _ _ us hl => match us, hl with | [_, _], _ => rfl) (by decide +kernel) sc_is_below tr_is_below h2 gd (by decide +kernel) k_is_below
  have F8 := fun_mk (st := st_changed_or_wrong) l8 c8 k8
  have h8 : ∀ g, g ∈ tc_changed_or_wrong.fs → Df P w K mg base (wd K) 2 g (Phi g) := by
    intro g hg
    simp only [tc_changed_or_wrong, List.mem_cons, List.not_mem_nil, or_false] at hg
    subst hg
    exact D7.mono (by decide)
  have D8 : Df P w K mg base (wd K) 3 "changed_or_wrong" (Phi "changed_or_wrong") := df_ok (Φ := Phi) (Γ := Gam) (c := tc_changed_or_wrong) (m := 60) (n := 100) F8 (PySem.W.mg_of X G a8) (F8.binds (ps := ["one", "change"]) fun _ _ _ _ _ _ us hl => match us, hl with | [_, _], _ => rfl) (by decide +kernel) sc_changed_or_wrong tr_changed_or_wrong h8 gd (by decide +kernel) k_changed_or_wrong
  have F13 := fun_mk (st := st_change_of) l13 c13 k13
  have h13 : ∀ g, g ∈ tc_change_of.fs → Df P w K mg base (wd K) 2 g (Phi g) := by
    intro g hg
    simp only [tc_change_of, List.mem_cons, List.not_mem_nil, or_false] at hg
    rcases hg with rfl | rfl | rfl
    · exact D10.mono (by decide)
    · exact D11.mono (by decide)
    · exact D12.mono (by decide)
  have D13 : Df P w K mg base (wd K) 3 "change_of" (Phi "change_of") := df_ok (Φ := Phi) (Γ := Gam) (c := tc_change_of) (m := 60) (n := 100) F13 (PySem.W.mg_of X G a13) (F13.binds (ps := ["one", "other"]) fun _ _ _ _ _ _ us hl => match us, hl with | [_, _], _ => rfl) (by decide +kernel) sc_change_of tr_change_of h13 gd (by decide +kernel) k_change_of
  have F23 := fun_mk (st := st__law_bytes) l23 c23 k23
  have h23 : ∀ g, g ∈ tc__law_bytes.fs → Df P w K mg base (wd K) 2 g (Phi g) := by
    intro g hg
    simp only [tc__law_bytes, List.mem_cons, List.not_mem_nil, or_false] at hg
    rcases hg with rfl | rfl
    · exact D17.mono (by decide)
    · exact D22.mono (by decide)
  have D23 : Df P w K mg base (wd K) 3 "_law_bytes" (Phi "_law_bytes") := df_ok (Φ := Phi) (Γ := Gam) (c := tc__law_bytes) (m := 60) (n := 100) F23 (PySem.W.mg_of X G a23) (F23.binds (ps := ["hand", "most"]) fun _ _ _ _ _ _ us hl => match us, hl with | [_, _], _ => rfl) (by decide +kernel) sc__law_bytes tr__law_bytes h23 gd (by decide +kernel) k_law_bytes
  have F28 := fun_mk (st := st__law_drawn_change) l28 c28 k28
  have h28 : ∀ g, g ∈ tc__law_drawn_change.fs → Df P w K mg base (wd K) 2 g (Phi g) := by
    intro g hg
    simp only [tc__law_drawn_change, List.mem_cons, List.not_mem_nil, or_false] at hg
    rcases hg with rfl | rfl | rfl
    · exact D17.mono (by decide)
    · exact D20.mono (by decide)
    · exact D22.mono (by decide)
  have D28 : Df P w K mg base (wd K) 3 "_law_drawn_change" (Phi "_law_drawn_change") := df_ok (Φ := Phi) (Γ := Gam) (c := tc__law_drawn_change) (m := 60) (n := 100) F28 (PySem.W.mg_of X G a28) (F28.binds (ps := ["hand", "one"]) fun _ _ _ _ _ _ us hl => match us, hl with | [_, _], _ => rfl) (by decide +kernel) sc__law_drawn_change tr__law_drawn_change h28 gd (by decide +kernel) k_law_drawn_change
  have F3 := fun_mk (st := st_is_row) l3 c3 k3
  have h3 : ∀ g, g ∈ tc_is_row.fs → Df P w K mg base (wd K) 3 g (Phi g) := by
    intro g hg
    simp only [tc_is_row, List.mem_cons, List.not_mem_nil, or_false] at hg
    subst hg
    exact D2.mono (by decide)
  have D3 : Df P w K mg base (wd K) 4 "is_row" (Phi "is_row") := df_ok (Φ := Phi) (Γ := Gam) (c := tc_is_row) (m := 60) (n := 100) F3 (PySem.W.mg_of X G a3) (F3.binds (ps := ["thing"]) fun _ _ _ _ _ _ us hl => match us, hl with | [_], _ => rfl) (by decide +kernel) sc_is_row tr_is_row h3 gd (by decide +kernel) k_is_row
  have F24 := fun_mk (st := st__law_spoilt) l24 c24 k24
  have h24 : ∀ g, g ∈ tc__law_spoilt.fs → Df P w K mg base (wd K) 3 g (Phi g) := by
    intro g hg
    simp only [tc__law_spoilt, List.mem_cons, List.not_mem_nil, or_false] at hg
    rcases hg with rfl | rfl | rfl
    · exact D17.mono (by decide)
    · exact D22.mono (by decide)
    · exact D23.mono (by decide)
  have D24 : Df P w K mg base (wd K) 4 "_law_spoilt" (Phi "_law_spoilt") := df_ok (Φ := Phi) (Γ := Gam) (c := tc__law_spoilt) (m := 60) (n := 100) F24 (PySem.W.mg_of X G a24) (F24.binds (ps := ["hand", "row"]) fun _ _ _ _ _ _ us hl => match us, hl with | [_, _], _ => rfl) (by decide +kernel) sc__law_spoilt tr__law_spoilt h24 gd (by decide +kernel) k_law_spoilt
  have F29 := fun_mk (st := st__law_spliced) l29 c29 k29
  have h29 : ∀ g, g ∈ tc__law_spliced.fs → Df P w K mg base (wd K) 3 g (Phi g) := by
    intro g hg
    simp only [tc__law_spliced, List.mem_cons, List.not_mem_nil, or_false] at hg
    rcases hg with rfl | rfl
    · exact D17.mono (by decide)
    · exact D23.mono (by decide)
  have D29 : Df P w K mg base (wd K) 4 "_law_spliced" (Phi "_law_spliced") := df_ok (Φ := Phi) (Γ := Gam) (c := tc__law_spliced) (m := 60) (n := 100) F29 (PySem.W.mg_of X G a29) (F29.binds (ps := ["hand", "row"]) fun _ _ _ _ _ _ us hl => match us, hl with | [_, _], _ => rfl) (by decide +kernel) sc__law_spliced tr__law_spliced h29 gd (by decide +kernel) k_law_spliced
  have F4 := fun_mk (st := st_check_row) l4 c4 k4
  have h4 : ∀ g, g ∈ tc_check_row.fs → Df P w K mg base (wd K) 4 g (Phi g) := by
    intro g hg
    simp only [tc_check_row, List.mem_cons, List.not_mem_nil, or_false] at hg
    subst hg
    exact D3.mono (by decide)
  have D4 : Df P w K mg base (wd K) 5 "check_row" (Phi "check_row") := df_ok (Φ := Phi) (Γ := Gam) (c := tc_check_row) (m := 60) (n := 100) F4 (PySem.W.mg_of X G a4) (F4.binds (ps := ["thing"]) fun _ _ _ _ _ _ us hl => match us, hl with | [_], _ => rfl) (by decide +kernel) sc_check_row tr_check_row h4 gd (by decide +kernel) k_check_row
  have F9 := fun_mk (st := st_changed) l9 c9 k9
  have h9 : ∀ g, g ∈ tc_changed.fs → Df P w K mg base (wd K) 5 g (Phi g) := by
    intro g hg
    simp only [tc_changed, List.mem_cons, List.not_mem_nil, or_false] at hg
    rcases hg with rfl | rfl
    · exact D4.mono (by decide)
    · exact D8.mono (by decide)
  have D9 : Df P w K mg base (wd K) 6 "changed" (Phi "changed") := df_ok (Φ := Phi) (Γ := Gam) (c := tc_changed) (m := 60) (n := 100) F9 (PySem.W.mg_of X G a9) (F9.binds (ps := ["one", "change"]) fun _ _ _ _ _ _ us hl => match us, hl with | [_, _], _ => rfl) (by decide +kernel) sc_changed tr_changed h9 gd (by decide +kernel) k_changed
  have F14 := fun_mk (st := st_change) l14 c14 k14
  have h14 : ∀ g, g ∈ tc_change.fs → Df P w K mg base (wd K) 5 g (Phi g) := by
    intro g hg
    simp only [tc_change, List.mem_cons, List.not_mem_nil, or_false] at hg
    rcases hg with rfl | rfl
    · exact D4.mono (by decide)
    · exact D13.mono (by decide)
  have D14 : Df P w K mg base (wd K) 6 "change" (Phi "change") := df_ok (Φ := Phi) (Γ := Gam) (c := tc_change) (m := 60) (n := 100) F14 (PySem.W.mg_of X G a14) (F14.binds (ps := ["one", "other"]) fun _ _ _ _ _ _ us hl => match us, hl with | [_, _], _ => rfl) (by decide +kernel) sc_change tr_change h14 gd (by decide +kernel) k_change
  have F15 := fun_mk (st := st_is_change) l15 c15 k15
  have h15 : ∀ g, g ∈ tc_is_change.fs → Df P w K mg base (wd K) 5 g (Phi g) := by
    intro g hg
    simp only [tc_is_change, List.mem_cons, List.not_mem_nil, or_false] at hg
    rcases hg with rfl | rfl | rfl
    · exact D4.mono (by decide)
    · exact D3.mono (by decide)
    · exact D8.mono (by decide)
  have D15 : Df P w K mg base (wd K) 6 "is_change" (Phi "is_change") := df_ok (Φ := Phi) (Γ := Gam) (c := tc_is_change) (m := 60) (n := 100) F15 (PySem.W.mg_of X G a15) (F15.binds (ps := ["one", "other", "thing"]) fun _ _ _ _ _ _ us hl => match us, hl with | [_, _, _], _ => rfl) (by decide +kernel) sc_is_change tr_is_change h15 gd (by decide +kernel) k_is_change
  have F18 := fun_mk (st := st__law_is) l18 c18 k18
  have R18 : ∀ n, Df P w K mg base (wd K) (1 + n) "_law_is" (PhiL n "_law_is") := by
    refine df_rec ?_ fun n Z => ?_
    · exact df_none F18 (PySem.W.mg_of X G a18) (F18.binds (ps := ["told", "due"]) fun _ _ _ _ _ _ us hl => match us, hl with | [_, _], _ => rfl) (by decide +kernel) k_law_is_none
    · refine df_ok (Φ := PhiL n) (Γ := Gam) (c := tc__law_is) (m := 60) (n := 100) F18 (PySem.W.mg_of X G a18) (F18.binds (ps := ["told", "due"]) fun _ _ _ _ _ _ us hl => match us, hl with | [_, _], _ => rfl) (by decide +kernel) sc__law_is tr__law_is (fun g hg => ?_) gd (by decide +kernel) (k_law_is n)
      simp only [tc__law_is, List.mem_cons, List.not_mem_nil, or_false] at hg
      subst hg
      exact Z
  have D18 : Df P w K mg base (wd K) 6 "_law_is" (Phi "_law_is") := R18 5
  have F26 := fun_mk (st := st__law_changed_told) l26 c26 k26
  have h26 : ∀ g, g ∈ tc__law_changed_told.fs → Df P w K mg base (wd K) 6 g (Phi g) := by
    intro g hg
    simp only [tc__law_changed_told, List.mem_cons, List.not_mem_nil, or_false] at hg
    subst hg
    exact D9.mono (by decide)
  have D26 : Df P w K mg base (wd K) 7 "_law_changed_told" (Phi "_law_changed_told") := df_ok (Φ := Phi) (Γ := Gam) (c := tc__law_changed_told) (m := 60) (n := 100) F26 (PySem.W.mg_of X G a26) (F26.binds (ps := ["one", "some"]) fun _ _ _ _ _ _ us hl => match us, hl with | [_, _], _ => rfl) (by decide +kernel) sc__law_changed_told tr__law_changed_told h26 gd (by decide +kernel) k_law_changed_told
  have F30 := fun_mk (st := st__law_is_path) l30 c30 k30
  have h30 : ∀ g, g ∈ tc__law_is_path.fs → Df P w K mg base (wd K) 6 g (Phi g) := by
    intro g hg
    simp only [tc__law_is_path, List.mem_cons, List.not_mem_nil, or_false] at hg
    rcases hg with rfl | rfl | rfl | rfl | rfl
    · exact D14.mono (by decide)
    · exact D18.mono (by decide)
    · exact D15.mono (by decide)
    · exact D25.mono (by decide)
    · exact D9.mono (by decide)
  have D30 : Df P w K mg base (wd K) 7 "_law_is_path" (Phi "_law_is_path") := df_ok (Φ := Phi) (Γ := Gam) (c := tc__law_is_path) (m := 60) (n := 100) F30 (PySem.W.mg_of X G a30) (F30.binds (ps := ["one", "other"]) fun _ _ _ _ _ _ us hl => match us, hl with | [_, _], _ => rfl) (by decide +kernel) sc__law_is_path tr__law_is_path h30 gd (by decide +kernel) k_law_is_path
  have F27 := fun_mk (st := st__law_is_told) l27 c27 k27
  have h27 : ∀ g, g ∈ tc__law_is_told.fs → Df P w K mg base (wd K) 7 g (Phi g) := by
    intro g hg
    simp only [tc__law_is_told, List.mem_cons, List.not_mem_nil, or_false] at hg
    rcases hg with rfl | rfl | rfl | rfl
    · exact D25.mono (by decide)
    · exact D26.mono (by decide)
    · exact D18.mono (by decide)
    · exact D15.mono (by decide)
  have D27 : Df P w K mg base (wd K) 8 "_law_is_told" (Phi "_law_is_told") := df_ok (Φ := Phi) (Γ := Gam) (c := tc__law_is_told) (m := 60) (n := 100) F27 (PySem.W.mg_of X G a27) (F27.binds (ps := ["one", "other", "some"]) fun _ _ _ _ _ _ us hl => match us, hl with | [_, _, _], _ => rfl) (by decide +kernel) sc__law_is_told tr__law_is_told h27 gd (by decide +kernel) k_law_is_told
  have F31 := fun_mk (st := st_law) l31 c31 k31
  have h31 : ∀ g, g ∈ tc_law.fs → Df P w K mg base (wd K) 8 g (Phi g) := by
    intro g hg
    simp only [tc_law, List.mem_cons, List.not_mem_nil, or_false] at hg
    rcases hg with rfl | rfl | rfl | rfl | rfl | rfl | rfl | rfl | rfl | rfl | rfl | rfl | rfl | rfl
    · exact D16.mono (by decide)
    · exact D17.mono (by decide)
    · exact D23.mono (by decide)
    · exact D29.mono (by decide)
    · exact D30.mono (by decide)
    · exact D18.mono (by decide)
    · exact D9.mono (by decide)
    · exact D14.mono (by decide)
    · exact D28.mono (by decide)
    · exact D27.mono (by decide)
    · exact D25.mono (by decide)
    · exact D24.mono (by decide)
    · exact D19.mono (by decide)
    · exact D15.mono (by decide)
  exact fn_ok (Φ := Phi) (Γ := Gam) (c := tc_law) (m := 60) (n := 100) F31 sc_law tr_law h31 gd (by decide +kernel) k_law
theorem walk {l : PySem.W.OpenLaw} {q : Program} {loose : List Str} {XP : (Str → Option Value) → Heap → Prop} {YP : World → Heap → Prop} {d : DefRec} {K : Params → PySem.W.Frag} (hn : l.most = some 63) (hdf : d.params.defaults = [])
    (hY : ∀ (w : World) (h : Heap), YP w h → (K w.params).In h)
    (F : ∀ (w : World) (mg : Str → Option Value) (fa : Addr) (h : Heap), (K w.params).In h → h.Ns mainGlobals mg → mg d.name = some (.ref fa) →
      ∃ fd : FuncData, (∀ (s : Shared) (u : Value), BindsTo s fd ⟨[u], []⟩ [("script", u)]) ∧ ∀ base : Heap, (K w.params).In base → base.Ns mainGlobals mg → FnOk l.prog w (K w.params) mg base (L2.CX l.prog w) 9 fa fd ["script"] (spV (wd (K w.params)) s_law)) :
    PySem.W.WalkO q loose XP YP l.row.toRowW d [] (fun f vs => PySem.call f vs) :=
  L2.walk_ofB (n := 63) (k := 9) (x := "script") (CX := fun w => L2.CX l.prog w) (sp := fun w => spV (wd (K w.params)) s_law) hn (by decide) hdf ⟨rfl, by decide, by decide⟩ hY F (fun w H a ns hl hb ho hs => law_end ho hs (law_run ns hl hb))
    fun w H s e s' ⟨_, _, _, _, _, _, _, _, _, _, _, _, z⟩ => z
end L_k25
open PySem PySem.W PyProof.Rows in
set_option maxRecDepth 100000 in
set_option maxHeartbeats 0 in
theorem PySem.Challenge.cw_swornworlds_k25_whole_changes_of_rows_holds : PySem.Challenge.rw_swornworlds_k25_whole_changes_of_rows.Holds := by
  w_on; o_law; k_head; (case hw => w_witness2)
  k_fill
  refine L_k25.walk (l := PySem.Challenge.rw_swornworlds_k25_whole_changes_of_rows) rfl rfl (fun w h Y => PySem.W.kIn_of Y) ?F
  case F =>
    intro w mg fa h KX G hmg
    refine' L_k25.all_mk KX G hmg ?a0 ?l0 ?c0 ?k0 ?a1 ?l1 ?c1 ?k1 ?a2 ?l2 ?c2 ?k2 ?a3 ?l3 ?c3 ?k3 ?a4 ?l4 ?c4 ?k4 ?a5 ?l5 ?c5 ?k5 ?a6 ?l6 ?c6 ?k6 ?a7 ?l7 ?c7 ?k7 ?a8 ?l8 ?c8 ?k8 ?a9 ?l9 ?c9 ?k9 ?a10 ?l10 ?c10 ?k10 ?a11 ?l11 ?c11 ?k11 ?a12 ?l12 ?c12 ?k12 ?a13 ?l13 ?c13 ?k13 ?a14 ?l14 ?c14 ?k14 ?a15 ?l15 ?c15 ?k15 ?a16 ?l16 ?c16 ?k16 ?a17 ?l17 ?c17 ?k17 ?a18 ?l18 ?c18 ?k18 ?a19 ?l19 ?c19 ?k19 ?a20 ?l20 ?c20 ?k20 ?a21 ?l21 ?c21 ?k21 ?a22 ?l22 ?c22 ?k22 ?a23 ?l23 ?c23 ?k23 ?a24 ?l24 ?c24 ?k24 ?a25 ?l25 ?c25 ?k25 ?a26 ?l26 ?c26 ?k26 ?a27 ?l27 ?c27 ?k27 ?a28 ?l28 ?c28 ?k28 ?a29 ?l29 ?c29 ?k29 ?a30 ?l30 ?c30 ?k30 ?a31 ?l31 ?c31 ?k31 ?z_len ?z_int ?z_bool ?z_str ?z_tuple ?z_list ?z_abs ?z_min ?z_max ?z_sum ?z_all ?z_any ?z_range ?z_zip ?z_enumerate ?z_reversed ?z_isinstance ?z_dict ?z_sorted ?z_set ?z_repr ?xg_NoRow ?xe_NoRow ?xt_NoRow ?xg_WorldError ?xe_WorldError ?xt_WorldError ?xg_BadChange ?xe_BadChange ?xt_BadChange ?xi_BadChange ?xs_NoRow_BadChange ?xs_BadChange_BadChange ?xi_WorldError ?xs_NoRow_WorldError ?xs_BadChange_WorldError ?xk_NoRow ?xA_NoRow ?xB_NoRow ?xD_NoRow ?xq_NoRow ?xk_BadChange ?xA_BadChange ?xB_BadChange ?xD_BadChange ?xL_BadChange ?xS_BadChange ?xN_BadChange ?xI_BadChange ?xT_BadChange ?xF_BadChange ?xc_BadChange ?m_MOST_BYTES ?m_BYTE ?m_FIGURE ?m_MOST_FIGURES ?m_WHOLE_BOUND ?m_KEPT ?m_LEFT_OUT ?m_PUT_IN ?m_LEAST_KEPT
    (case a0 => k_is)
    (case l0 => k_is)
    (case c0 => k_is)
    (case k0 => k_is)
    (case a1 => k_is)
    (case l1 => k_is)
    (case c1 => k_is)
    (case k1 => k_is)
    (case a2 => k_is)
    (case l2 => k_is)
    (case c2 => k_is)
    (case k2 => k_is)
    (case a3 => k_is)
    (case l3 => k_is)
    (case c3 => k_is)
    (case k3 => k_is)
    (case a4 => k_is)
    (case l4 => k_is)
    (case c4 => k_is)
    (case k4 => k_is)
    (case a5 => k_is)
    (case l5 => k_is)
    (case c5 => k_is)
    (case k5 => k_is)
    (case a6 => k_is)
    (case l6 => k_is)
    (case c6 => k_is)
    (case k6 => k_is)
    (case a7 => k_is)
    (case l7 => k_is)
    (case c7 => k_is)
    (case k7 => k_is)
    (case a8 => k_is)
    (case l8 => k_is)
    (case c8 => k_is)
    (case k8 => k_is)
    (case a9 => k_is)
    (case l9 => k_is)
    (case c9 => k_is)
    (case k9 => k_is)
    (case a10 => k_is)
    (case l10 => k_is)
    (case c10 => k_is)
    (case k10 => k_is)
    (case a11 => k_is)
    (case l11 => k_is)
    (case c11 => k_is)
    (case k11 => k_is)
    (case a12 => k_is)
    (case l12 => k_is)
    (case c12 => k_is)
    (case k12 => k_is)
    (case a13 => k_is)
    (case l13 => k_is)
    (case c13 => k_is)
    (case k13 => k_is)
    (case a14 => k_is)
    (case l14 => k_is)
    (case c14 => k_is)
    (case k14 => k_is)
    (case a15 => k_is)
    (case l15 => k_is)
    (case c15 => k_is)
    (case k15 => k_is)
    (case a16 => k_is)
    (case l16 => k_is)
    (case c16 => k_is)
    (case k16 => k_is)
    (case a17 => k_is)
    (case l17 => k_is)
    (case c17 => k_is)
    (case k17 => k_is)
    (case a18 => k_is)
    (case l18 => k_is)
    (case c18 => k_is)
    (case k18 => k_is)
    (case a19 => k_is)
    (case l19 => k_is)
    (case c19 => k_is)
    (case k19 => k_is)
    (case a20 => k_is)
    (case l20 => k_is)
    (case c20 => k_is)
    (case k20 => k_is)
    (case a21 => k_is)
    (case l21 => k_is)
    (case c21 => k_is)
    (case k21 => k_is)
    (case a22 => k_is)
    (case l22 => k_is)
    (case c22 => k_is)
    (case k22 => k_is)
    (case a23 => k_is)
    (case l23 => k_is)
    (case c23 => k_is)
    (case k23 => k_is)
    (case a24 => k_is)
    (case l24 => k_is)
    (case c24 => k_is)
    (case k24 => k_is)
    (case a25 => k_is)
    (case l25 => k_is)
    (case c25 => k_is)
    (case k25 => k_is)
    (case a26 => k_is)
    (case l26 => k_is)
    (case c26 => k_is)
    (case k26 => k_is)
    (case a27 => k_is)
    (case l27 => k_is)
    (case c27 => k_is)
    (case k27 => k_is)
    (case a28 => k_is)
    (case l28 => k_is)
    (case c28 => k_is)
    (case k28 => k_is)
    (case a29 => k_is)
    (case l29 => k_is)
    (case c29 => k_is)
    (case k29 => k_is)
    (case a30 => k_is)
    (case l30 => k_is)
    (case c30 => k_is)
    (case k30 => k_is)
    (case a31 => k_is)
    (case l31 => k_is)
    (case c31 => k_is)
    (case k31 => k_is)
    (case z_len => k_is)
    (case z_int => k_is)
    (case z_bool => k_is)
    (case z_str => k_is)
    (case z_tuple => k_is)
    (case z_list => k_is)
    (case z_abs => k_is)
    (case z_min => k_is)
    (case z_max => k_is)
    (case z_sum => k_is)
    (case z_all => k_is)
    (case z_any => k_is)
    (case z_range => k_is)
    (case z_zip => k_is)
    (case z_enumerate => k_is)
    (case z_reversed => k_is)
    (case z_isinstance => k_is)
    (case z_dict => k_is)
    (case z_sorted => k_is)
    (case z_set => k_is)
    (case z_repr => k_is)
    (case xg_NoRow => k_is)
    (case xe_NoRow => k_is)
    (case xt_NoRow => k_is)
    (case xg_WorldError => k_is)
    (case xe_WorldError => k_is)
    (case xt_WorldError => k_is)
    (case xg_BadChange => k_is)
    (case xe_BadChange => k_is)
    (case xt_BadChange => k_is)
    (case xi_BadChange => k_is)
    (case xs_NoRow_BadChange => first | rfl | k_is)
    (case xs_BadChange_BadChange => first | rfl | k_is)
    (case xi_WorldError => k_is)
    (case xs_NoRow_WorldError => first | rfl | k_is)
    (case xs_BadChange_WorldError => first | rfl | k_is)
    (case xk_NoRow => k_is)
    (case xA_NoRow => k_is)
    (case xB_NoRow => k_is)
    (case xD_NoRow => k_is)
    (case xq_NoRow => k_exc)
    (case xk_BadChange => k_is)
    (case xA_BadChange => k_is)
    (case xB_BadChange => k_is)
    (case xD_BadChange => k_is)
    (case xL_BadChange => k_is)
    (case xS_BadChange => k_is)
    (case xN_BadChange => k_is)
    (case xI_BadChange => k_is)
    (case xT_BadChange => k_is)
    (case xF_BadChange => k_is)
    (case xc_BadChange => k_is)
    (case m_MOST_BYTES => k_is)
    (case m_BYTE => k_is)
    (case m_FIGURE => k_is)
    (case m_MOST_FIGURES => k_is)
    (case m_WHOLE_BOUND => k_is)
    (case m_KEPT => k_is)
    (case m_LEFT_OUT => k_is)
    (case m_PUT_IN => k_is)
    (case m_LEAST_KEPT => k_is)
