import PyProof.Rows.All
import Wide.All
import OpenK.AllK
import Wide.FinOn
import HandS.ForMost
import HandS.ForExc
import HandS.EndBits
import HandS.TupAny
import HandS.Wide
import HandS.Flow
import HandS.Style
import HandS.CallSlots
import HandS.SortInts
import HandS.Zip
import HandS.ExcField
import HandS.TryMany
import HandS.Small
import HandS.ExcInit
import KE.OsGo
import HandS.TupMul
import HandS.IsInst
import PySem.Challenge.RW_swornworlds_k27_whole_books_by_an_own_ac
set_option Elab.async false
set_option linter.all false
set_option maxRecDepth 100000
set_option maxHeartbeats 4000000
set_option autoImplicit false
set_option autoImplicit false
namespace R
open PySem PySem.Spec PyProof.Rows L2

/-! ## R0: data, slots, the virtual heap, and how they stand for the layer's values -/

/-- data: what a value of the program is, without addresses; ref n: the n-th shared object -/
inductive D where
  | non | bl (b : Bool) | int (i : Int) | str (x : Str) | ty (n : String)
  | tup (xs : List D) | lst (xs : List D) | dct (ks : List Key) (xs : List D) | obj (c : Str) (ns : List Str) (xs : List D)
  | ref (n : Nat) | scr (ns : List Int) | adr (a : Addr)

/-- an expression's value: data, or a list that nobody else holds -/
inductive DV where
  | v (d : D) | fr (ds : List D)
@[reducible] def DV.d : DV → D
  | .v d => d
  | .fr ds => .lst ds

/-- a name's slot: nothing, data, or a list that this slot alone holds -/
inductive Slot where
  | no | val (d : D) | own (ds : List D)

/-- a shared object -/
inductive VO where
  | lst (xs : List D) | dct (ks : List Key) (xs : List D) | ins (c : Str) (ns : List Str) (xs : List D)

/-- what of the program the relation wants: the written part, the classes' addresses -/
structure Wd where
  K : PySem.W.Frag
  cl : Str → Option Addr
  fl : Str → List Str
  ci : Str → Option Addr

def KL (K : PySem.W.Frag) (a : Addr) (xs : List V) : Prop :=
  ∃ (o : Obj) (its : Array Value) (n : Nat), K.lookup a = some o ∧ o.cls = .type "list" ∧ o.dict = none ∧ o.data = .seq its n ∧ its.size ≤ sizeLine ∧ Vals xs its.toList
def SqV (K : PySem.W.Frag) (Z : Addr → Prop) (H : Hp) (a : Addr) (xs : List V) : Prop := (¬ Z a ∧ Rd H a (.lst xs)) ∨ KL K a xs
theorem SqV.sq {K : PySem.W.Frag} {Z : Addr → Prop} {H : Hp} {a : Addr} {xs : List V} (h : SqV K Z H a xs) : SqL K H a xs := by
  rcases h with ⟨_, h⟩ | h
  · exact .inl h
  · exact .inr h

mutual
def RD (G : Wd) (Z : Addr → Prop) (ρ : List Addr) (H : Hp) : D → V → Prop
  | .non, v => v = .non
  | .bl b, v => v = .bl b
  | .int i, v => v = .int i
  | .str x, v => v = .str x
  | .ty n, v => v = .ty n
  | .tup xs, v => ∃ a vs, v = .ref a ∧ SqT G.K H a vs ∧ RDs G Z ρ H xs vs
  | .lst xs, v => ∃ a vs, v = .ref a ∧ ¬ Z a ∧ H a = some (.lst vs) ∧ RDs G Z ρ H xs vs
  | .dct ks xs, v => ∃ a ws vs, v = .ref a ∧ ¬ Z a ∧ H a = some (.dK ws) ∧ ws.map (·.1) = ks ∧ ws.map (·.2) = vs ∧ RDs G Z ρ H xs vs
  | .obj c ns xs, v => ∃ a C dx ws vs, v = .ref a ∧ ¬ Z a ∧ G.ci c = some C ∧ H a = some (.ins C dx ws) ∧ ws.map (·.1) = ns ∧ ws.map (·.2) = vs ∧ RDs G Z ρ H xs vs
  | .ref n, v => ∃ a, ρ[n]? = some a ∧ v = .ref a
  | .scr ns, v => ∃ a, v = .ref a ∧ SqV G.K Z H a (ns.map V.int)
  | .adr a, v => v = .ref a
def RDs (G : Wd) (Z : Addr → Prop) (ρ : List Addr) (H : Hp) : List D → List V → Prop
  | [], vs => vs = []
  | d :: ds, vs => ∃ v r, vs = v :: r ∧ RD G Z ρ H d v ∧ RDs G Z ρ H ds r
end

/-- how the ground may move under data -/
structure Mv (Z : Addr → Prop) (ρ : List Addr) (H : Hp) (Z' : Addr → Prop) (ρ' : List Addr) (H' : Hp) : Prop where
  pre : ∀ (n : Nat) (a : Addr), ρ[n]? = some a → ρ'[n]? = some a
  keep : ∀ a u, ¬ Z a → H a = some u → ¬ Z' a ∧ H' a = some u
  tup : ∀ a xs, Rd H a (.tup xs) → Rd H' a (.tup xs)

theorem Mv.sqv {K : PySem.W.Frag} {Z Z' : Addr → Prop} {ρ ρ' : List Addr} {H H' : Hp} (m : Mv Z ρ H Z' ρ' H') {a : Addr} {xs : List V} (h : SqV K Z H a xs) : SqV K Z' H' a xs := by
  rcases h with ⟨nz, h | ⟨o, h⟩⟩ | h
  · obtain ⟨n1, h1⟩ := m.keep a _ nz h
    exact .inl ⟨n1, .inl h1⟩
  · obtain ⟨n1, h1⟩ := m.keep a _ nz h
    exact .inl ⟨n1, .inr ⟨o, h1⟩⟩
  · exact .inr h
theorem Mv.sqt {K : PySem.W.Frag} {Z Z' : Addr → Prop} {ρ ρ' : List Addr} {H H' : Hp} (m : Mv Z ρ H Z' ρ' H') {a : Addr} {xs : List V} (h : SqT K H a xs) : SqT K H' a xs := by
  rcases h with h | h
  · exact .inl (m.tup a xs h)
  · exact .inr h

mutual
theorem RD.move {G : Wd} {Z Z' : Addr → Prop} {ρ ρ' : List Addr} {H H' : Hp} (m : Mv Z ρ H Z' ρ' H') : ∀ (d : D) (v : V), RD G Z ρ H d v → RD G Z' ρ' H' d v
  | .non, v, h => h
  | .bl b, v, h => h
  | .int i, v, h => h
  | .str x, v, h => h
  | .ty n, v, h => h
  | .adr _, v, h => h
  | .tup xs, v, h => by
    obtain ⟨a, vs, e, h1, h2⟩ := h
    exact ⟨a, vs, e, m.sqt h1, RDs.move m xs vs h2⟩
  | .lst xs, v, h => by
    obtain ⟨a, vs, e, nz, h1, h2⟩ := h
    obtain ⟨n1, h3⟩ := m.keep a _ nz h1
    exact ⟨a, vs, e, n1, h3, RDs.move m xs vs h2⟩
  | .scr ns, v, h => by
    obtain ⟨a, e, h1⟩ := h
    exact ⟨a, e, m.sqv h1⟩
  | .dct ks xs, v, h => by
    obtain ⟨a, ws, vs, e, nz, h1, e1, e2, h2⟩ := h
    obtain ⟨n1, h3⟩ := m.keep a _ nz h1
    exact ⟨a, ws, vs, e, n1, h3, e1, e2, RDs.move m xs vs h2⟩
  | .obj c ns xs, v, h => by
    obtain ⟨a, C, dx, ws, vs, e, nz, hc, h1, e1, e2, h2⟩ := h
    obtain ⟨n1, h3⟩ := m.keep a _ nz h1
    exact ⟨a, C, dx, ws, vs, e, n1, hc, h3, e1, e2, RDs.move m xs vs h2⟩
  | .ref n, v, h => by
    obtain ⟨a, h1, e⟩ := h
    exact ⟨a, m.pre n a h1, e⟩
theorem RDs.move {G : Wd} {Z Z' : Addr → Prop} {ρ ρ' : List Addr} {H H' : Hp} (m : Mv Z ρ H Z' ρ' H') : ∀ (ds : List D) (vs : List V), RDs G Z ρ H ds vs → RDs G Z' ρ' H' ds vs
  | [], vs, h => h
  | d :: ds, vs, h => by
    obtain ⟨v, r, e, h1, h2⟩ := h
    exact ⟨v, r, e, RD.move m d v h1, RDs.move m ds r h2⟩
end

section
variable {G : Wd} {Z : Addr → Prop} {ρ : List Addr} {H : Hp}
theorem RDs.length : ∀ {ds : List D} {vs : List V}, RDs G Z ρ H ds vs → ds.length = vs.length
  | [], vs, h => by cases (show vs = [] from h); rfl
  | d :: ds, vs, h => by
    obtain ⟨v, r, rfl, _, h2⟩ := h
    rw [List.length_cons, List.length_cons, RDs.length h2]
theorem RDs.get : ∀ {ds : List D} {vs : List V} {i : Nat} {d : D}, RDs G Z ρ H ds vs → ds[i]? = some d → ∃ v, vs[i]? = some v ∧ RD G Z ρ H d v
  | [], _, _, _, _, e => by simp at e
  | d :: ds, vs, 0, x, h, e => by
    obtain ⟨v, r, rfl, h1, _⟩ := h
    simp at e
    subst e
    exact ⟨v, rfl, h1⟩
  | d :: ds, vs, i + 1, x, h, e => by
    obtain ⟨v, r, rfl, _, h2⟩ := h
    obtain ⟨w, h3, h4⟩ := RDs.get (i := i) h2 (by simpa using e)
    exact ⟨w, by simpa using h3, h4⟩
theorem RDs.getV : ∀ {ds : List D} {vs : List V} {i : Nat} {v : V}, RDs G Z ρ H ds vs → vs[i]? = some v → ∃ d, ds[i]? = some d ∧ RD G Z ρ H d v
  | [], vs, i, v, h, e => by cases (show vs = [] from h); simp at e
  | d :: ds, vs, 0, x, h, e => by
    obtain ⟨v, r, rfl, h1, _⟩ := h
    simp at e
    subst e
    exact ⟨d, rfl, h1⟩
  | d :: ds, vs, i + 1, x, h, e => by
    obtain ⟨v, r, rfl, _, h2⟩ := h
    obtain ⟨w, h3, h4⟩ := RDs.getV (i := i) h2 (by simpa using e)
    exact ⟨w, by simpa using h3, h4⟩
theorem RDs.append : ∀ {ds es : List D} {vs ws : List V}, RDs G Z ρ H ds vs → RDs G Z ρ H es ws → RDs G Z ρ H (ds ++ es) (vs ++ ws)
  | [], es, vs, ws, h, h' => by cases (show vs = [] from h); exact h'
  | d :: ds, es, vs, ws, h, h' => by
    obtain ⟨v, r, rfl, h1, h2⟩ := h
    exact ⟨v, r ++ ws, rfl, h1, RDs.append h2 h'⟩
theorem RDs.take : ∀ {ds : List D} {vs : List V} (n : Nat), RDs G Z ρ H ds vs → RDs G Z ρ H (ds.take n) (vs.take n)
  | _, _, 0, _ => rfl
  | [], vs, n + 1, h => by cases (show vs = [] from h); rfl
  | d :: ds, vs, n + 1, h => by
    obtain ⟨v, r, rfl, h1, h2⟩ := h
    exact ⟨v, r.take n, rfl, h1, RDs.take n h2⟩
theorem RDs.drop : ∀ {ds : List D} {vs : List V} (n : Nat), RDs G Z ρ H ds vs → RDs G Z ρ H (ds.drop n) (vs.drop n)
  | _, _, 0, h => h
  | [], vs, n + 1, h => by cases (show vs = [] from h); rfl
  | d :: ds, vs, n + 1, h => by
    obtain ⟨v, r, rfl, h1, h2⟩ := h
    exact RDs.drop n h2
theorem RDs.set : ∀ {ds : List D} {vs : List V} {d : D} {v : V} (n : Nat), RDs G Z ρ H ds vs → RD G Z ρ H d v → RDs G Z ρ H (ds.set n d) (vs.set n v)
  | [], vs, d, v, n, h, _ => by cases (show vs = [] from h); rfl
  | d' :: ds, vs, d, v, 0, h, q => by
    obtain ⟨v', r, rfl, h1, h2⟩ := h
    exact ⟨v, r, rfl, q, h2⟩
  | d' :: ds, vs, d, v, n + 1, h, q => by
    obtain ⟨v', r, rfl, h1, h2⟩ := h
    exact ⟨v', r.set n v, rfl, h1, RDs.set n h2 q⟩
theorem RDs.reverse : ∀ {ds : List D} {vs : List V}, RDs G Z ρ H ds vs → RDs G Z ρ H ds.reverse vs.reverse
  | [], vs, h => by cases (show vs = [] from h); rfl
  | d :: ds, vs, h => by
    obtain ⟨v, r, rfl, h1, h2⟩ := h
    rw [List.reverse_cons, List.reverse_cons]
    exact RDs.append (RDs.reverse h2) ⟨v, [], rfl, h1, rfl⟩
theorem RDs.erase : ∀ {ds : List D} {vs : List V} (n : Nat), RDs G Z ρ H ds vs → RDs G Z ρ H (ds.eraseIdx n) (vs.eraseIdx n)
  | [], vs, n, h => by cases (show vs = [] from h); rfl
  | d :: ds, vs, 0, h => by
    obtain ⟨v, r, rfl, h1, h2⟩ := h
    exact h2
  | d :: ds, vs, n + 1, h => by
    obtain ⟨v, r, rfl, h1, h2⟩ := h
    exact ⟨v, r.eraseIdx n, rfl, h1, RDs.erase n h2⟩
theorem RDs.one {d : D} {v : V} (h : RD G Z ρ H d v) : RDs G Z ρ H [d] [v] := ⟨v, [], rfl, h, rfl⟩
theorem RDs.ints : ∀ ns : List Int, RDs G Z ρ H (ns.map D.int) (ns.map V.int)
  | [] => rfl
  | n :: ns => ⟨.int n, ns.map V.int, rfl, rfl, RDs.ints ns⟩
theorem RDs.ints_of : ∀ {ns : List Int} {vs : List V}, RDs G Z ρ H (ns.map D.int) vs → vs = ns.map V.int
  | [], vs, h => h
  | n :: ns, vs, h => by
    obtain ⟨v, r, rfl, h1, h2⟩ := h
    rw [RDs.ints_of h2, show v = .int n from h1]
    rfl
theorem RDs.bls_of : ∀ {ns : List Bool} {vs : List V}, RDs G Z ρ H (ns.map D.bl) vs → vs = ns.map V.bl
  | [], vs, h => h
  | n :: ns, vs, h => by
    obtain ⟨v, r, rfl, h1, h2⟩ := h
    rw [RDs.bls_of h2, show v = .bl n from h1]
    rfl
end

/-- the slot holds it alone -/
def Own (env : List Slot) (σ : L2.St) (a : Addr) (i : Nat) : Prop := ∃ ds, env[i]? = some (.own ds) ∧ σ[i]? = some (some (.ref a))
/-- what may be written here -/
def MZ (T ρ : List Addr) (env : List Slot) (σ : L2.St) (a : Addr) : Prop := a ∈ T ∨ a ∈ ρ ∨ ∃ i, Own env σ a i
/-- what stays: F the callers' own lists; mu what may be written since H0 -/
structure Base where
  F : Addr → Prop
  mu : Addr → Prop
  H0 : Hp
  r0 : List Addr
def ZZ (F : Addr → Prop) (T ρ : List Addr) (env : List Slot) (σ : L2.St) (a : Addr) : Prop := F a ∨ MZ T ρ env σ a
/-- an object of a kind that is written -/
def Mt : HO → Prop
  | .lst _ => True
  | .dK _ => True
  | .ins _ _ _ => True
  | _ => False
def RO (G : Wd) (Z : Addr → Prop) (ρ : List Addr) (H : Hp) (a : Addr) : VO → Prop
  | .lst xs => ∃ vs, H a = some (.lst vs) ∧ RDs G Z ρ H xs vs
  | .dct ks xs => ∃ ws vs, H a = some (.dK ws) ∧ ws.map (·.1) = ks ∧ ws.map (·.2) = vs ∧ RDs G Z ρ H xs vs
  | .ins c ns xs => ∃ C dx ws vs, G.ci c = some C ∧ H a = some (.ins C dx ws) ∧ ws.map (·.1) = ns ∧ ws.map (·.2) = vs ∧ RDs G Z ρ H xs vs
def RSl (G : Wd) (Z : Addr → Prop) (ρ : List Addr) (H : Hp) (o : Option (Option V)) : Slot → Prop
  | .no => True
  | .val d => ∃ v, o = some (some v) ∧ RD G Z ρ H d v
  | .own ds => ∃ a vs, o = some (some (.ref a)) ∧ H a = some (.lst vs) ∧ RDs G Z ρ H ds vs

structure Rel (G : Wd) (B : Base) (T ρ : List Addr) (env : List Slot) (vh : List VO) (σ : L2.St) (H : Hp) : Prop where
  vl : vh.length = ρ.length
  rn : ρ.Nodup
  tn : T.Nodup
  tr : ∀ a, a ∈ T → a ∉ ρ
  ot : ∀ i a, Own env σ a i → a ∉ T ∧ a ∉ ρ
  oi : ∀ i j a, Own env σ a i → Own env σ a j → i = j
  fm : ∀ a, B.F a → ¬ MZ T ρ env σ a
  tk : ∀ a, ZZ B.F T ρ env σ a → ∃ u, H a = some u ∧ Mt u
  ob : ∀ (n : Nat) (o : VO) (a : Addr), vh[n]? = some o → ρ[n]? = some a → RO G (ZZ B.F T ρ env σ) ρ H a o
  sl : σ.length = env.length
  st : ∀ (i : Nat) (s : Slot), env[i]? = some s → RSl G (ZZ B.F T ρ env σ) ρ H σ[i]? s
  kp : ∀ a u, B.H0 a = some u → ¬ B.mu a → H a = some u
  tp : ∀ a xs, Rd B.H0 a (.tup xs) → Rd H a (.tup xs)
  zn : ∀ a, MZ T ρ env σ a → B.mu a ∨ B.H0 a = none
  pr : ∀ (n : Nat) (a : Addr), B.r0[n]? = some a → ρ[n]? = some a

theorem RO.move {G : Wd} {Z Z' : Addr → Prop} {ρ ρ' : List Addr} {H H' : Hp} (m : Mv Z ρ H Z' ρ' H') {a : Addr} {o : VO} (h : RO G Z ρ H a o) (e : H' a = H a) : RO G Z' ρ' H' a o := by
  cases o with
  | lst xs => obtain ⟨vs, h1, h2⟩ := h; exact ⟨vs, e.trans h1, RDs.move m _ _ h2⟩
  | dct ks xs => obtain ⟨ws, vs, h1, e1, e2, h2⟩ := h; exact ⟨ws, vs, e.trans h1, e1, e2, RDs.move m _ _ h2⟩
  | ins c ns xs => obtain ⟨C, dx, ws, vs, hc, h1, e1, e2, h2⟩ := h; exact ⟨C, dx, ws, vs, hc, e.trans h1, e1, e2, RDs.move m _ _ h2⟩
theorem RO.mt {G : Wd} {Z : Addr → Prop} {ρ : List Addr} {H : Hp} {a : Addr} {o : VO} (h : RO G Z ρ H a o) : ∃ u, H a = some u ∧ Mt u := by
  cases o with
  | lst xs => obtain ⟨vs, h1, h2⟩ := h; exact ⟨_, h1, trivial⟩
  | dct ks xs => obtain ⟨ws, vs, h1, e1, e2, h2⟩ := h; exact ⟨_, h1, trivial⟩
  | ins c ns xs => obtain ⟨C, dx, ws, vs, hc, h1, e1, e2, h2⟩ := h; exact ⟨_, h1, trivial⟩
theorem RSl.move {G : Wd} {Z Z' : Addr → Prop} {ρ ρ' : List Addr} {H H' : Hp} (m : Mv Z ρ H Z' ρ' H') {o : Option (Option V)} {s : Slot} (h : RSl G Z ρ H o s) (e : ∀ a ds, s = .own ds → o = some (some (.ref a)) → H' a = H a) : RSl G Z' ρ' H' o s := by
  cases s with
  | no => trivial
  | val d => obtain ⟨v, h1, h2⟩ := h; exact ⟨v, h1, RD.move m _ _ h2⟩
  | own ds => obtain ⟨a, vs, h1, h2, h3⟩ := h; exact ⟨a, vs, h1, (e a ds rfl h1).trans h2, RDs.move m _ _ h3⟩

theorem mt_tup {H : Hp} {a : Addr} {u : HO} {xs : List V} (h : H a = some u) (m : Mt u) : ¬ Rd H a (.tup xs) := by
  rintro (q | ⟨o, q⟩)
  · rw [h] at q; cases q; exact m
  · rw [h] at q; cases q; exact m
end R

set_option autoImplicit false
namespace R
open PySem PySem.Spec PyProof.Rows L2
/-! ## R1: how the relation goes on -/
section
variable {G : Wd} {B : Base} {T ρ : List Addr} {env : List Slot} {vh : List VO} {σ : L2.St} {H : Hp}

theorem Mv.same {Z : Addr → Prop} {H' : Hp} (s : Same H H') : Mv Z ρ H Z ρ H' :=
  ⟨fun _ _ h => h, fun a u nz h => ⟨nz, s a u h⟩, fun a xs h => by
    rcases h with h | ⟨o, h⟩
    · exact .inl (s _ _ h)
    · exact .inr ⟨o, s _ _ h⟩⟩
theorem Mv.less {Z Z' : Addr → Prop} (h : ∀ a, Z' a → Z a) : Mv Z ρ H Z' ρ H :=
  ⟨fun _ _ h => h, fun a u nz e => ⟨fun z => nz (h a z), e⟩, fun a xs e => e⟩
theorem Mv.fresh {Z Z' : Addr → Prop} {H' : Hp} (s : Same H H') (h : ∀ a, Z' a → Z a ∨ H a = none) : Mv Z ρ H Z' ρ H' :=
  ⟨fun _ _ h => h, fun a u nz e => ⟨fun z => (h a z).elim nz fun q => (by rw [e] at q; cases q), s a u e⟩, (Mv.same (Z := Z) (ρ := ρ) s).tup⟩
theorem Mv.upd {Z : Addr → Prop} {x : Addr} {o u : HO} (hx : Z x) (e : H x = some o) (mo : Mt o) : Mv Z ρ H Z ρ (upd H x u) :=
  ⟨fun _ _ h => h, fun a w nz h => ⟨nz, (upd_ne (fun z => nz (by rw [z]; exact hx))).trans h⟩, fun a xs h => by
    have ne : a ≠ x := fun z => by subst z; exact mt_tup e mo h
    rcases h with h | ⟨o, h⟩
    · exact .inl (by rw [upd_ne ne]; exact h)
    · exact .inr ⟨o, by rw [upd_ne ne]; exact h⟩⟩
theorem same_new {p : Addr} {o : HO} (h : H p = none) : Same H (upd H p o) := fun b x e => by
  rw [upd_ne (ne_of_none e h)]
  exact e

theorem Rel.grow {H' : Hp} (R : Rel G B T ρ env vh σ H) (s : Same H H') : Rel G B T ρ env vh σ H' := by
  have m : Mv (ZZ B.F T ρ env σ) ρ H (ZZ B.F T ρ env σ) ρ H' := Mv.same s
  refine ⟨R.vl, R.rn, R.tn, R.tr, R.ot, R.oi, R.fm, fun a z => ?_, fun n o a h1 h2 => ?_, R.sl, fun i x h => ?_, fun a u h1 h2 => s _ _ (R.kp a u h1 h2), fun a xs h => m.tup a xs (R.tp a xs h), R.zn, R.pr⟩
  · obtain ⟨u, h, q⟩ := R.tk a z
    exact ⟨u, s _ _ h, q⟩
  · have q := R.ob n o a h1 h2
    obtain ⟨u, h, _⟩ := q.mt
    exact q.move m ((s _ _ h).trans h.symm)
  · refine (R.st i x h).move m fun a ds e e2 => ?_
    subst e
    obtain ⟨u, h', _⟩ := R.tk a (.inr (.inr (.inr ⟨i, ds, h, e2⟩)))
    exact (s _ _ h').trans h'.symm
theorem Rel.grown {d : D} {v : V} {H' : Hp} (s : Same H H') (h : RD G (ZZ B.F T ρ env σ) ρ H d v) : RD G (ZZ B.F T ρ env σ) ρ H' d v := RD.move (Mv.same s) _ _ h

/-- a new list (or other object) of ours -/
theorem Rel.tmp {p : Addr} {o : HO} (R : Rel G B T ρ env vh σ H) (hp : H p = none) (mo : Mt o) : Rel G B (p :: T) ρ env vh σ (upd H p o) := by
  have s := same_new (o := o) hp
  have np : ∀ a, ZZ B.F T ρ env σ a → a ≠ p := fun a z e => by
    obtain ⟨u, h, _⟩ := R.tk a z
    rw [e, hp] at h; cases h
  have m : Mv (ZZ B.F T ρ env σ) ρ H (ZZ B.F (p :: T) ρ env σ) ρ (upd H p o) := Mv.fresh s fun a z => by
    rcases z with z | z | z
    · exact .inl (.inl z)
    · rcases List.mem_cons.mp z with e | z
      · exact .inr (by rw [e]; exact hp)
      · exact .inl (.inr (.inl z))
    · exact .inl (.inr (.inr z))
  refine ⟨R.vl, R.rn, List.nodup_cons.mpr ⟨fun z => np p (.inr (.inl z)) rfl, R.tn⟩, fun a z => ?_, fun i a z => ⟨fun q => ?_, (R.ot i a z).2⟩, R.oi, fun a z q => ?_, fun a z => ?_, fun n o a h1 h2 => ?_, R.sl, fun i x h => ?_, fun a u h1 h2 => s _ _ (R.kp a u h1 h2), fun a xs h => m.tup a xs (R.tp a xs h), fun a z => ?_, R.pr⟩
  · rcases List.mem_cons.mp z with e | z
    · intro q; exact np a (.inr (.inr (.inl q))) e
    · exact R.tr a z
  · rcases List.mem_cons.mp q with e | q
    · exact np a (.inr (.inr (.inr ⟨i, z⟩))) e
    · exact (R.ot i a z).1 q
  · rcases q with q | q
    · rcases List.mem_cons.mp q with e | q
      · exact np a (.inl z) e
      · exact R.fm a z (.inl q)
    · exact R.fm a z (.inr q)
  · rcases z with z | z | z
    · obtain ⟨u, h, q⟩ := R.tk a (.inl z)
      exact ⟨u, s _ _ h, q⟩
    · rcases List.mem_cons.mp z with e | z
      · exact ⟨o, by rw [e]; exact upd_same, mo⟩
      · obtain ⟨u, h, q⟩ := R.tk a (.inr (.inl z))
        exact ⟨u, s _ _ h, q⟩
    · obtain ⟨u, h, q⟩ := R.tk a (.inr (.inr z))
      exact ⟨u, s _ _ h, q⟩
  · have q := R.ob n o a h1 h2
    obtain ⟨u, h, _⟩ := q.mt
    exact q.move m ((s _ _ h).trans h.symm)
  · refine (R.st i x h).move m fun a ds e e2 => ?_
    subst e
    obtain ⟨u, h', _⟩ := R.tk a (.inr (.inr (.inr ⟨i, ds, h, e2⟩)))
    exact (s _ _ h').trans h'.symm
  · rcases z with z | z
    · rcases List.mem_cons.mp z with e | z
      · by_cases mu : B.mu a
        · exact .inl mu
        · refine .inr ?_
          cases q : B.H0 a with
          | none => rfl
          | some u =>
            have := R.kp a u q mu
            rw [e, hp] at this; cases this
      · exact R.zn a (.inl z)
    · exact R.zn a (.inr z)

theorem Own.of_set {i j : Nat} {s : Slot} {v : Option V} {a : Addr} (h : Own (env.set i s) (σ.set i v) a j) : (j = i ∧ ∃ ds, s = .own ds ∧ v = some (.ref a)) ∨ (j ≠ i ∧ Own env σ a j) := by
  obtain ⟨ds, h1, h2⟩ := h
  by_cases e : j = i
  · subst e
    refine .inl ⟨rfl, ds, ?_, ?_⟩
    · by_cases hl : j < env.length
      · rw [List.getElem?_set_self hl] at h1; exact Option.some.inj h1
      · rw [List.getElem?_eq_none (by simpa using hl)] at h1; cases h1
    · by_cases hl : j < σ.length
      · rw [List.getElem?_set_self hl] at h2; exact Option.some.inj h2
      · rw [List.getElem?_eq_none (by simpa using hl)] at h2; cases h2
  · rw [List.getElem?_set_ne (Ne.symm e)] at h1 h2
    exact .inr ⟨e, ds, h1, h2⟩
theorem Own.of_setE {i j : Nat} {s : Slot} {a : Addr} (h : Own (env.set i s) σ a j) : (j = i ∧ ∃ ds, s = .own ds ∧ σ[i]? = some (some (.ref a))) ∨ (j ≠ i ∧ Own env σ a j) := by
  obtain ⟨ds, h1, h2⟩ := h
  by_cases e : j = i
  · subst e
    refine .inl ⟨rfl, ds, ?_, h2⟩
    by_cases hl : j < env.length
    · rw [List.getElem?_set_self hl] at h1; exact Option.some.inj h1
    · rw [List.getElem?_eq_none (by simpa using hl)] at h1; cases h1
  · rw [List.getElem?_set_ne (Ne.symm e)] at h1
    exact .inr ⟨e, ds, h1, h2⟩
theorem set_getE {α : Type} {l : List α} {i j : Nat} {s x : α} (h : (l.set i s)[j]? = some x) : (j = i ∧ x = s) ∨ (j ≠ i ∧ l[j]? = some x) := by
  by_cases e : j = i
  · subst e
    by_cases hl : j < l.length
    · rw [List.getElem?_set_self hl] at h; exact .inl ⟨rfl, (Option.some.inj h).symm⟩
    · rw [List.getElem?_eq_none (by simpa using hl)] at h; cases h
  · rw [List.getElem?_set_ne (Ne.symm e)] at h
    exact .inr ⟨e, h⟩

/-- fewer things that may be written: T, slots made less -/
theorem Rel.weak {T' : List Addr} {env' : List Slot} {σ' : L2.St} (R : Rel G B T ρ env vh σ H) (hT : ∀ a, a ∈ T' → a ∈ T) (nT : T'.Nodup) (hO : ∀ i a, Own env' σ' a i → Own env σ a i)
    (hl : σ'.length = env'.length) (hs : ∀ (i : Nat) (s : Slot), env'[i]? = some s → RSl G (ZZ B.F T' ρ env' σ') ρ H σ'[i]? s) : Rel G B T' ρ env' vh σ' H := by
  have less : ∀ a, MZ T' ρ env' σ' a → MZ T ρ env σ a := fun a z => by
    rcases z with z | z | ⟨i, z⟩
    · exact .inl (hT a z)
    · exact .inr (.inl z)
    · exact .inr (.inr ⟨i, hO i a z⟩)
  have lessZ : ∀ a, ZZ B.F T' ρ env' σ' a → ZZ B.F T ρ env σ a := fun a z => z.elim .inl fun z => .inr (less a z)
  have m : Mv (ZZ B.F T ρ env σ) ρ H (ZZ B.F T' ρ env' σ') ρ H := Mv.less lessZ
  exact ⟨R.vl, R.rn, nT, fun a z => R.tr a (hT a z), fun i a z => ⟨fun q => (R.ot i a (hO i a z)).1 (hT a q), (R.ot i a (hO i a z)).2⟩, fun i j a p q => R.oi i j a (hO i a p) (hO j a q),
    fun a f z => R.fm a f (less a z), fun a z => R.tk a (lessZ a z), fun n o a h1 h2 => (R.ob n o a h1 h2).move m rfl, hl, hs, R.kp, R.tp, fun a z => R.zn a (less a z), R.pr⟩

theorem Rel.dropT {a : Addr} (R : Rel G B (a :: T) ρ env vh σ H) : Rel G B T ρ env vh σ H :=
  R.weak (fun b h => List.mem_cons_of_mem _ h) (List.nodup_cons.mp R.tn).2 (fun _ _ h => h) R.sl fun i s h => (R.st i s h).move (Mv.less fun b z => by
    rcases z with z | z | z
    · exact .inl z
    · exact .inr (.inl (List.mem_cons_of_mem _ z))
    · exact .inr (.inr z)) fun _ _ _ _ => rfl
theorem Rel.dropT_d {a : Addr} {d : D} {v : V} (h : RD G (ZZ B.F (a :: T) ρ env σ) ρ H d v) : RD G (ZZ B.F T ρ env σ) ρ H d v := RD.move (Mv.less fun b z => by
    rcases z with z | z | z
    · exact .inl z
    · exact .inr (.inl (List.mem_cons_of_mem _ z))
    · exact .inr (.inr z)) _ _ h
theorem Rel.dropT_ds {a : Addr} {ds : List D} {vs : List V} (h : RDs G (ZZ B.F (a :: T) ρ env σ) ρ H ds vs) : RDs G (ZZ B.F T ρ env σ) ρ H ds vs := RDs.move (Mv.less fun b z => by
    rcases z with z | z | z
    · exact .inl z
    · exact .inr (.inl (List.mem_cons_of_mem _ z))
    · exact .inr (.inr z)) _ _ h
/-- a list of ours is let go: it is data then -/
theorem Rel.let_go {a : Addr} {ds : List D} {vs : List V} (R : Rel G B (a :: T) ρ env vh σ H) (e : H a = some (.lst vs)) (h : RDs G (ZZ B.F (a :: T) ρ env σ) ρ H ds vs) : RD G (ZZ B.F T ρ env σ) ρ H (.lst ds) (.ref a) := by
  refine ⟨a, vs, rfl, ?_, e, Rel.dropT_ds h⟩
  rintro (z | z | z | ⟨i, z⟩)
  · exact R.fm a z (.inl List.mem_cons_self)
  · exact (List.nodup_cons.mp R.tn).1 z
  · exact R.tr a List.mem_cons_self z
  · exact (R.ot i a z).1 List.mem_cons_self

/-- a name is stored -/
theorem Rel.setVal {i : Nat} {d : D} {v : V} (R : Rel G B T ρ env vh σ H) (h : RD G (ZZ B.F T ρ env σ) ρ H d v) : Rel G B T ρ (env.set i (.val d)) vh (σ.set i (some v)) H := by
  have hO : ∀ j a, Own (env.set i (.val d)) (σ.set i (some v)) a j → Own env σ a j := fun j a z => by
    rcases Own.of_set z with ⟨_, ds, e, _⟩ | ⟨_, q⟩
    · cases e
    · exact q
  have m : Mv (ZZ B.F T ρ env σ) ρ H (ZZ B.F T ρ (env.set i (.val d)) (σ.set i (some v))) ρ H := Mv.less fun a z => by
    rcases z with z | z | z | ⟨j, z⟩
    · exact .inl z
    · exact .inr (.inl z)
    · exact .inr (.inr (.inl z))
    · exact .inr (.inr (.inr ⟨j, hO j a z⟩))
  refine R.weak (fun _ h => h) R.tn hO (by simpa using R.sl) fun j s hj => ?_
  rcases set_getE hj with ⟨e, e2⟩ | ⟨ne, q⟩
  · subst e e2
    have hl : j < σ.length := by
      have := (List.getElem?_eq_some_iff.mp hj).1
      rw [List.length_set] at this
      rw [R.sl]; exact this
    exact ⟨v, by rw [List.getElem?_set_self hl], RD.move m _ _ h⟩
  · rw [List.getElem?_set_ne (Ne.symm ne)]
    exact (R.st j s q).move m fun _ _ _ _ => rfl
theorem Rel.setOwn {i : Nat} {a : Addr} {ds : List D} {vs : List V} (R : Rel G B (a :: T) ρ env vh σ H) (e : H a = some (.lst vs)) (h : RDs G (ZZ B.F (a :: T) ρ env σ) ρ H ds vs) :
    Rel G B T ρ (env.set i (.own ds)) vh (σ.set i (some (.ref a))) H := by
  have hO : ∀ j b, Own (env.set i (.own ds)) (σ.set i (some (.ref a))) b j → (j = i ∧ b = a) ∨ (j ≠ i ∧ Own env σ b j) := fun j b z => by
    rcases Own.of_set z with ⟨e, _, _, e2⟩ | q
    · cases e2; exact .inl ⟨e, rfl⟩
    · exact .inr q
  have less : ∀ b, MZ T ρ (env.set i (.own ds)) (σ.set i (some (.ref a))) b → MZ (a :: T) ρ env σ b := fun b z => by
    rcases z with z | z | ⟨j, z⟩
    · exact .inl (List.mem_cons_of_mem _ z)
    · exact .inr (.inl z)
    · rcases hO j b z with ⟨_, e⟩ | ⟨_, q⟩
      · exact .inl (by rw [e]; exact List.mem_cons_self)
      · exact .inr (.inr ⟨j, q⟩)
  have lessZ : ∀ b, ZZ B.F T ρ (env.set i (.own ds)) (σ.set i (some (.ref a))) b → ZZ B.F (a :: T) ρ env σ b := fun b z => z.elim .inl fun z => .inr (less b z)
  have m : Mv (ZZ B.F (a :: T) ρ env σ) ρ H (ZZ B.F T ρ (env.set i (.own ds)) (σ.set i (some (.ref a)))) ρ H := Mv.less lessZ
  have aT := (List.nodup_cons.mp R.tn).1
  refine ⟨R.vl, R.rn, (List.nodup_cons.mp R.tn).2, fun b z => R.tr b (List.mem_cons_of_mem _ z), fun j b z => ?_, fun j k b z q => ?_, fun b f z => R.fm b f (less b z), fun b z => R.tk b (lessZ b z),
    fun n o b h1 h2 => (R.ob n o b h1 h2).move m rfl, by simpa using R.sl, fun j s hj => ?_, R.kp, R.tp, fun b z => R.zn b (less b z), R.pr⟩
  · rcases hO j b z with ⟨_, e⟩ | ⟨_, q⟩
    · rw [e]; exact ⟨aT, R.tr a List.mem_cons_self⟩
    · exact ⟨fun z => (R.ot j b q).1 (List.mem_cons_of_mem _ z), (R.ot j b q).2⟩
  · rcases hO j b z with ⟨e1, e2⟩ | ⟨n1, q1⟩
    · rcases hO k b q with ⟨e3, e4⟩ | ⟨n2, q2⟩
      · rw [e1, e3]
      · rw [e2] at q2
        exact absurd List.mem_cons_self (R.ot k a q2).1
    · rcases hO k b q with ⟨e3, e4⟩ | ⟨n2, q2⟩
      · rw [e4] at q1
        exact absurd List.mem_cons_self (R.ot j a q1).1
      · exact R.oi j k b q1 q2
  · rcases set_getE hj with ⟨e1, e2⟩ | ⟨ne, q⟩
    · subst e1 e2
      have hl : j < σ.length := by
        have := (List.getElem?_eq_some_iff.mp hj).1
        rw [List.length_set] at this
        rw [R.sl]; exact this
      exact ⟨a, vs, by rw [List.getElem?_set_self hl], e, RDs.move m _ _ h⟩
    · rw [List.getElem?_set_ne (Ne.symm ne)]
      exact (R.st j s q).move m fun _ _ _ _ => rfl
/-- a slot lets its list go -/
theorem Rel.freeze {i : Nat} {ds : List D} (R : Rel G B T ρ env vh σ H) (hi : env[i]? = some (.own ds)) : Rel G B T ρ (env.set i (.val (.lst ds))) vh σ H := by
  obtain ⟨a, vs, ha, e, h⟩ := R.st i _ hi
  have hO : ∀ j b, Own (env.set i (.val (.lst ds))) σ b j → j ≠ i ∧ Own env σ b j := fun j b z => by
    rcases Own.of_setE z with ⟨_, _, e, _⟩ | q
    · cases e
    · exact q
  have m : Mv (ZZ B.F T ρ env σ) ρ H (ZZ B.F T ρ (env.set i (.val (.lst ds))) σ) ρ H := Mv.less fun b z => by
    rcases z with z | z | z | ⟨j, z⟩
    · exact .inl z
    · exact .inr (.inl z)
    · exact .inr (.inr (.inl z))
    · exact .inr (.inr (.inr ⟨j, (hO j b z).2⟩))
  have own : Own env σ a i := ⟨ds, hi, ha⟩
  refine R.weak (fun _ h => h) R.tn (fun j b z => (hO j b z).2) (by rw [List.length_set]; exact R.sl) fun j s hj => ?_
  rcases set_getE hj with ⟨e1, e2⟩ | ⟨ne, q⟩
  · subst e1 e2
    refine ⟨.ref a, ha, a, vs, rfl, ?_, e, RDs.move m _ _ h⟩
    rintro (z | z | z | ⟨k, z⟩)
    · exact R.fm a z (.inr (.inr ⟨j, own⟩))
    · exact (R.ot j a own).1 z
    · exact (R.ot j a own).2 z
    · obtain ⟨n, q⟩ := hO k a z
      exact n (R.oi k j a q own)
  · exact (R.st j s q).move m fun _ _ _ _ => rfl

/-- an object of ours is written; what else stands, stands -/
theorem Rel.write {x : Addr} {o u : HO} {env' : List Slot} {vh' : List VO} (R : Rel G B T ρ env vh σ H) (hx : MZ T ρ env σ x) (e : H x = some o) (mo : Mt o) (mu : Mt u) (hl : vh'.length = vh.length) (hle : env'.length = env.length)
    (hO : ∀ i a, Own env' σ a i ↔ Own env σ a i)
    (hob : ∀ (n : Nat) (o : VO) (a : Addr), vh'[n]? = some o → ρ[n]? = some a → (a ≠ x → vh[n]? = some o) ∧ (a = x → RO G (ZZ B.F T ρ env σ) ρ (upd H x u) x o))
    (hst : ∀ (i : Nat) (s : Slot), env'[i]? = some s → (env[i]? = some s ∧ ∀ ds, s = .own ds → σ[i]? ≠ some (some (.ref x))) ∨ RSl G (ZZ B.F T ρ env σ) ρ (upd H x u) σ[i]? s) : Rel G B T ρ env' vh' σ (upd H x u) := by
  have hM : ∀ a, MZ T ρ env' σ a ↔ MZ T ρ env σ a := fun a =>
    ⟨fun z => z.imp id (Or.imp id fun ⟨i, z⟩ => ⟨i, (hO i a).mp z⟩), fun z => z.imp id (Or.imp id fun ⟨i, z⟩ => ⟨i, (hO i a).mpr z⟩)⟩
  have hZ : ∀ a, ZZ B.F T ρ env' σ a ↔ ZZ B.F T ρ env σ a := fun a => ⟨fun z => z.imp id (hM a).mp, fun z => z.imp id (hM a).mpr⟩
  have eZ : ZZ B.F T ρ env' σ = ZZ B.F T ρ env σ := funext fun a => propext (hZ a)
  have m : Mv (ZZ B.F T ρ env σ) ρ H (ZZ B.F T ρ env σ) ρ (upd H x u) := Mv.upd (.inr hx) e mo
  refine ⟨hl.trans R.vl, R.rn, R.tn, R.tr, fun i a z => R.ot i a ((hO i a).mp z), fun i j a z q => R.oi i j a ((hO i a).mp z) ((hO j a).mp q), fun a f z => R.fm a f ((hM a).mp z), fun a z => ?_, fun n o a h1 h2 => ?_, R.sl.trans hle.symm, fun i s h => ?_, fun a w h1 h2 => ?_, fun a xs h => m.tup a xs (R.tp a xs h), fun a z => R.zn a ((hM a).mp z), R.pr⟩
  · by_cases ea : a = x
    · exact ⟨u, by rw [ea]; exact upd_same, mu⟩
    · obtain ⟨w, h, q⟩ := R.tk a ((hZ a).mp z)
      exact ⟨w, by rw [upd_ne ea]; exact h, q⟩
  · rw [eZ]
    obtain ⟨q1, q2⟩ := hob n o a h1 h2
    by_cases ea : a = x
    · rw [ea]; exact q2 ea
    · exact (R.ob n o a (q1 ea) h2).move m (upd_ne ea)
  · rw [eZ]
    rcases hst i s h with ⟨q, nx⟩ | q
    · refine (R.st i s q).move m fun a ds es e2 => upd_ne fun z => nx ds es ?_
      rw [e2, z]
    · exact q
  · have n : a ≠ x := fun z => by
      rcases R.zn x hx with q | q
      · rw [z] at h2; exact h2 q
      · rw [z, q] at h1; cases h1
    rw [upd_ne n]
    exact R.kp a w h1 h2
/-- an own list is written -/
theorem Rel.ownUpd {i : Nat} {ds ds' : List D} {a : Addr} {vs vs' : List V} (R : Rel G B T ρ env vh σ H) (hi : env[i]? = some (.own ds)) (ha : σ[i]? = some (some (.ref a))) (e : H a = some (.lst vs)) (h : RDs G (ZZ B.F T ρ env σ) ρ H ds' vs') :
    Rel G B T ρ (env.set i (.own ds')) vh σ (upd H a (.lst vs')) := by
  have own : Own env σ a i := ⟨ds, hi, ha⟩
  have li : i < env.length := (List.getElem?_eq_some_iff.mp hi).1
  have m : Mv (ZZ B.F T ρ env σ) ρ H (ZZ B.F T ρ env σ) ρ (upd H a (.lst vs')) := Mv.upd (.inr (.inr (.inr ⟨i, own⟩))) e trivial
  refine R.write (.inr (.inr ⟨i, own⟩)) e trivial trivial rfl (by simp) (fun j b => ⟨fun z => ?_, fun z => ?_⟩) (fun n o b h1 h2 => ⟨fun _ => h1, fun eb => ?_⟩) fun j s hj => ?_
  · rcases Own.of_setE z with ⟨e1, _, _, e3⟩ | ⟨_, q⟩
    · rw [e1]; exact ⟨ds, hi, e3⟩
    · exact q
  · obtain ⟨es, h1, h2⟩ := z
    by_cases ej : j = i
    · rw [ej] at h2 ⊢
      exact ⟨ds', by rw [List.getElem?_set_self li], h2⟩
    · exact ⟨es, by rw [List.getElem?_set_ne (Ne.symm ej)]; exact h1, h2⟩
  · rw [eb] at h2
    exact absurd (List.mem_of_getElem? h2) (R.ot i a own).2
  · rcases set_getE hj with ⟨e1, e2⟩ | ⟨ne, q⟩
    · subst e1 e2
      exact .inr ⟨a, vs', ha, upd_same, RDs.move m _ _ h⟩
    · exact .inl ⟨q, fun es e1 e2 => ne (R.oi j i a ⟨es, by rw [q, e1], e2⟩ own)⟩
/-- a shared object is written -/
theorem Rel.shUpd {n : Nat} {a : Addr} {o o' : VO} {u : HO} (R : Rel G B T ρ env vh σ H) (hn : vh[n]? = some o) (ha : ρ[n]? = some a) (mu : Mt u) (h : RO G (ZZ B.F T ρ env σ) ρ (upd H a u) a o') :
    Rel G B T ρ env (vh.set n o') σ (upd H a u) := by
  obtain ⟨w, e, mo⟩ := (R.ob n o a hn ha).mt
  have hx : MZ T ρ env σ a := .inr (.inl (List.mem_of_getElem? ha))
  refine R.write hx e mo mu (by simp) rfl (fun _ _ => Iff.rfl) (fun k p b h1 h2 => ⟨fun nb => ?_, fun eb => ?_⟩) fun j s hj => .inl ⟨hj, fun ds e1 e2 => ?_⟩
  · rcases set_getE h1 with ⟨e1, _⟩ | ⟨_, q⟩
    · rw [e1, ha] at h2
      exact absurd (Option.some.inj h2).symm nb
    · exact q
  · have ek : k = n := by
      rw [eb] at h2
      obtain ⟨l1, e1⟩ := List.getElem?_eq_some_iff.mp h2
      obtain ⟨l2, e2⟩ := List.getElem?_eq_some_iff.mp ha
      exact (List.getElem_inj R.rn).mp (e1.trans e2.symm)
    rcases set_getE h1 with ⟨_, e2⟩ | ⟨ne, _⟩
    · rw [e2]; exact h
    · exact absurd ek ne
  · exact (R.ot j a ⟨ds, by rw [hj, e1], e2⟩).2 (List.mem_of_getElem? ha)
/-- what is ours becomes shared -/
theorem Rel.share {a : Addr} {o : VO} (R : Rel G B (a :: T) ρ env vh σ H) (h : RO G (ZZ B.F (a :: T) ρ env σ) ρ H a o) : Rel G B T (ρ ++ [a]) env (vh ++ [o]) σ H := by
  have ar : a ∉ ρ := R.tr a List.mem_cons_self
  have aT := (List.nodup_cons.mp R.tn).1
  have hM : ∀ b, MZ T (ρ ++ [a]) env σ b ↔ MZ (a :: T) ρ env σ b := fun b => by
    unfold MZ
    rw [List.mem_append, List.mem_singleton, List.mem_cons]
    constructor
    · rintro (z | (z | z) | z)
      · exact .inl (.inr z)
      · exact .inr (.inl z)
      · exact .inl (.inl z)
      · exact .inr (.inr z)
    · rintro ((z | z) | z | z)
      · exact .inr (.inl (.inr z))
      · exact .inl z
      · exact .inr (.inl (.inl z))
      · exact .inr (.inr z)
  have eZ : ZZ B.F T (ρ ++ [a]) env σ = ZZ B.F (a :: T) ρ env σ := funext fun b => propext ⟨fun z => z.imp id (hM b).mp, fun z => z.imp id (hM b).mpr⟩
  have pre : ∀ (n : Nat) (b : Addr), ρ[n]? = some b → (ρ ++ [a])[n]? = some b := fun n b e => by
    rw [List.getElem?_append_left (List.getElem?_eq_some_iff.mp e).1]; exact e
  have m : Mv (ZZ B.F (a :: T) ρ env σ) ρ H (ZZ B.F (a :: T) ρ env σ) (ρ ++ [a]) H := ⟨pre, fun b u nz e => ⟨nz, e⟩, fun _ _ e => e⟩
  refine ⟨by rw [List.length_append, List.length_append, R.vl]; rfl, ?_, (List.nodup_cons.mp R.tn).2, fun b z q => ?_, fun i b z => ⟨fun q => (R.ot i b z).1 (List.mem_cons_of_mem _ q), fun q => ?_⟩, R.oi, fun b f z => R.fm b f ((hM b).mp z), fun b z => R.tk b (by rw [← eZ]; exact z),
    fun n p b h1 h2 => ?_, R.sl, fun i s hi => ?_, R.kp, R.tp, fun b z => R.zn b ((hM b).mp z), fun n b e => pre n b (R.pr n b e)⟩
  · refine List.nodup_append.mpr ⟨R.rn, List.nodup_cons.mpr ⟨fun z => (by cases z), List.nodup_nil⟩, fun x hx y hy e => ?_⟩
    rw [List.mem_singleton.mp hy] at e
    rw [e] at hx
    exact ar hx
  · rcases List.mem_append.mp q with q | q
    · exact R.tr b (List.mem_cons_of_mem _ z) q
    · rw [List.mem_singleton.mp q] at z; exact aT z
  · rcases List.mem_append.mp q with q | q
    · exact (R.ot i b z).2 q
    · rw [List.mem_singleton.mp q] at z
      exact (R.ot i a z).1 List.mem_cons_self
  · rw [eZ]
    by_cases hl : n < ρ.length
    · rw [List.getElem?_append_left hl] at h2
      rw [List.getElem?_append_left (by rw [R.vl]; exact hl)] at h1
      exact (R.ob n p b h1 h2).move m rfl
    · rw [List.getElem?_append_right (by omega)] at h2
      rw [List.getElem?_append_right (by rw [R.vl]; omega), R.vl] at h1
      have z : n - ρ.length = 0 := by
        have := (List.getElem?_eq_some_iff.mp h2).1
        rw [List.length_singleton] at this
        omega
      rw [z] at h1 h2
      have e1 : o = p := Option.some.inj h1
      have e2 : a = b := Option.some.inj h2
      rw [← e1, ← e2]
      exact h.move m rfl
  · rw [eZ]
    exact (R.st i s hi).move m fun _ _ _ _ => rfl

/-- the frame is left -/
theorem Rel.ret (R : Rel G B T ρ env vh σ H) : Rel G B T ρ [] vh [] H :=
  R.weak (fun _ h => h) R.tn (fun i a z => by obtain ⟨_, h, _⟩ := z; simp at h) rfl fun i s h => by simp at h
theorem Rel.ret_d {d : D} {v : V} (h : RD G (ZZ B.F T ρ env σ) ρ H d v) : RD G (ZZ B.F T ρ [] []) ρ H d v := RD.move (Mv.less fun b z => by
    rcases z with z | z | z | ⟨i, _, h, _⟩
    · exact .inl z
    · exact .inr (.inl z)
    · exact .inr (.inr (.inl z))
    · simp at h) _ _ h
theorem Rel.ret_ds {ds : List D} {vs : List V} (h : RDs G (ZZ B.F T ρ env σ) ρ H ds vs) : RDs G (ZZ B.F T ρ [] []) ρ H ds vs := RDs.move (Mv.less fun b z => by
    rcases z with z | z | z | ⟨i, _, h, _⟩
    · exact .inl z
    · exact .inr (.inl z)
    · exact .inr (.inr (.inl z))
    · simp at h) _ _ h
/-- a slot gives its list out of hand: it is a list of ours then -/
theorem Rel.take {i : Nat} {ds : List D} (R : Rel G B T ρ env vh σ H) (hi : env[i]? = some (.own ds)) :
    ∃ a vs, σ[i]? = some (some (.ref a)) ∧ H a = some (.lst vs) ∧ Rel G B (a :: T) ρ (env.set i .no) vh σ H ∧ RDs G (ZZ B.F (a :: T) ρ (env.set i .no) σ) ρ H ds vs := by
  obtain ⟨a, vs, ha, e, h⟩ := R.st i _ hi
  have own : Own env σ a i := ⟨ds, hi, ha⟩
  have hO : ∀ j b, Own (env.set i .no) σ b j → j ≠ i ∧ Own env σ b j := fun j b z => by
    rcases Own.of_setE z with ⟨_, _, e, _⟩ | q
    · cases e
    · exact q
  have hM : ∀ b, MZ (a :: T) ρ (env.set i .no) σ b → MZ T ρ env σ b := fun b z => by
    rcases z with z | z | ⟨j, z⟩
    · rcases List.mem_cons.mp z with q | q
      · exact .inr (.inr ⟨i, by rw [q]; exact own⟩)
      · exact .inl q
    · exact .inr (.inl z)
    · exact .inr (.inr ⟨j, (hO j b z).2⟩)
  have hZ : ∀ b, ZZ B.F (a :: T) ρ (env.set i .no) σ b → ZZ B.F T ρ env σ b := fun b z => z.elim .inl fun z => .inr (hM b z)
  have m : Mv (ZZ B.F T ρ env σ) ρ H (ZZ B.F (a :: T) ρ (env.set i .no) σ) ρ H := Mv.less hZ
  refine ⟨a, vs, ha, e, ⟨R.vl, R.rn, List.nodup_cons.mpr ⟨(R.ot i a own).1, R.tn⟩, fun b z => ?_, fun j b z => ⟨fun q => ?_, (R.ot j b (hO j b z).2).2⟩, fun j k b z q => R.oi j k b (hO j b z).2 (hO k b q).2, fun b f z => R.fm b f (hM b z), fun b z => R.tk b (hZ b z),
    fun n o b h1 h2 => (R.ob n o b h1 h2).move m rfl, by rw [List.length_set]; exact R.sl, fun j s hj => ?_, R.kp, R.tp, fun b z => R.zn b (hM b z), R.pr⟩, RDs.move m _ _ h⟩
  · rcases List.mem_cons.mp z with q | q
    · rw [q]; exact (R.ot i a own).2
    · exact R.tr b q
  · obtain ⟨nj, z⟩ := hO j b z
    rcases List.mem_cons.mp q with q | q
    · rw [q] at z; exact nj (R.oi j i a z own)
    · exact (R.ot j b z).1 q
  · rcases set_getE hj with ⟨e1, e2⟩ | ⟨ne, q⟩
    · rw [e2]; trivial
    · exact (R.st j s q).move m fun _ _ _ _ => rfl

/-- what is from here on -/
def Base.now (B : Base) (T ρ : List Addr) (env : List Slot) (σ : L2.St) (H : Hp) : Base := ⟨B.F, MZ T ρ env σ, H, ρ⟩
theorem Rel.rebase (R : Rel G B T ρ env vh σ H) : Rel G (B.now T ρ env σ H) T ρ env vh σ H :=
  ⟨R.vl, R.rn, R.tn, R.tr, R.ot, R.oi, R.fm, R.tk, R.ob, R.sl, R.st, fun _ _ h _ => h, fun _ _ h => h, fun _ z => .inl z, fun _ _ h => h⟩
theorem Rel.unbase {T' ρ' : List Addr} {env' : List Slot} {vh' : List VO} {σ' : L2.St} {H' : Hp} (R : Rel G B T ρ env vh σ H) (S : Rel G (B.now T ρ env σ H) T' ρ' env' vh' σ' H') : Rel G B T' ρ' env' vh' σ' H' :=
  ⟨S.vl, S.rn, S.tn, S.tr, S.ot, S.oi, S.fm, S.tk, S.ob, S.sl, S.st, fun a u h nm => S.kp a u (R.kp a u h nm) fun z => (R.zn a z).elim nm fun q => (by rw [h] at q; cases q), fun a xs h => S.tp a xs (R.tp a xs h), fun a z => (by
    rcases S.zn a z with q | q
    · exact R.zn a q
    · refine (Classical.em (B.mu a)).elim .inl fun nm => .inr ?_
      cases e : B.H0 a with
      | none => rfl
      | some u =>
        have := R.kp a u e nm
        rw [show (B.now T ρ env σ H).H0 a = H a from rfl] at q
        rw [q] at this
        cases this), fun n a h => S.pr n a (R.pr n a h)⟩
theorem Rel.moved {T' ρ' : List Addr} {env' : List Slot} {vh' : List VO} {σ' : L2.St} {H' : Hp} (R : Rel G B T ρ env vh σ H) (S : Rel G (B.now T ρ env σ H) T' ρ' env' vh' σ' H') : Mv (ZZ B.F T ρ env σ) ρ H (ZZ B.F T' ρ' env' σ') ρ' H' :=
  ⟨S.pr, fun a u nz h => ⟨fun z => (by
    rcases z with z | z
    · exact nz (.inl z)
    · rcases S.zn a z with q | q
      · exact nz (.inr q)
      · rw [show (B.now T ρ env σ H).H0 a = H a from rfl] at q
        rw [h] at q
        cases q), S.kp a u h fun z => nz (.inr z)⟩, S.tp⟩

/-- at a call: the callee's ground -/
def Base.callee (B : Base) (T ρ : List Addr) (env : List Slot) (σ : L2.St) (H : Hp) : Base := ⟨fun a => B.F a ∨ a ∈ T ∨ ∃ i, Own env σ a i, fun a => a ∈ ρ, H, ρ⟩
theorem calleeZ : ZZ (B.callee T ρ env σ H).F [] ρ [] [] = ZZ B.F T ρ env σ := funext fun a => propext ⟨fun z => (by
    rcases z with (z | z | z) | z | z | ⟨i, _, h, _⟩
    · exact .inl z
    · exact .inr (.inl z)
    · exact .inr (.inr (.inr z))
    · cases z
    · exact .inr (.inr (.inl z))
    · simp at h), fun z => by
    rcases z with z | z | z | z
    · exact .inl (.inl z)
    · exact .inl (.inr (.inl z))
    · exact .inr (.inr (.inl z))
    · exact .inl (.inr (.inr z))⟩
theorem no_own {a : Addr} {i : Nat} : ¬ Own [] [] a i := fun ⟨_, h, _⟩ => by simp at h
theorem Rel.enter (R : Rel G B T ρ env vh σ H) : Rel G (B.callee T ρ env σ H) [] ρ [] vh [] H := by
  refine ⟨R.vl, R.rn, List.nodup_nil, fun a z => (by cases z), fun i a z => absurd z no_own, fun i j a z => absurd z no_own, fun a f z => ?_, fun a z => R.tk a (by rw [← calleeZ (B := B) (H := H)]; exact z), fun n o a h1 h2 => ?_, rfl, fun i s h => (by simp at h), fun _ _ h _ => h, fun _ _ h => h, fun a z => ?_, fun _ _ h => h⟩
  · have ar : a ∈ ρ := by
      rcases z with z | z | ⟨i, z⟩
      · cases z
      · exact z
      · exact absurd z no_own
    rcases f with f | f | ⟨i, f⟩
    · exact R.fm a f (.inr (.inl ar))
    · exact R.tr a f ar
    · exact (R.ot i a f).2 ar
  · rw [calleeZ]; exact R.ob n o a h1 h2
  · rcases z with z | z | ⟨i, z⟩
    · cases z
    · exact .inl z
    · exact absurd z no_own
/-- behind a call -/
theorem Rel.backMv {T' ρ' : List Addr} {vh' : List VO} {H' : Hp} (R : Rel G B T ρ env vh σ H) (S : Rel G (B.callee T ρ env σ H) T' ρ' [] vh' [] H') : Mv (ZZ B.F T ρ env σ) ρ H (ZZ B.F (T' ++ T) ρ' env σ) ρ' H' := by
  have kp : ∀ a u, H a = some u → a ∉ ρ → H' a = some u := fun a u h n => S.kp a u h n
  refine ⟨S.pr, fun a u nz h => ⟨fun z => ?_, kp a u h fun z => nz (.inr (.inr (.inl z)))⟩, S.tp⟩
  have new : MZ T' ρ' [] [] a → False := fun z => by
    rcases S.zn a z with q | q
    · exact nz (.inr (.inr (.inl q)))
    · rw [show (B.callee T ρ env σ H).H0 a = H a from rfl] at q
      rw [h] at q; cases q
  rcases z with z | z | z | z
  · exact nz (.inl z)
  · rcases List.mem_append.mp z with z | z
    · exact new (.inl z)
    · exact nz (.inr (.inl z))
  · exact new (.inr (.inl z))
  · exact nz (.inr (.inr (.inr z)))
theorem Rel.backZ {T' ρ' : List Addr} {H' : Hp} : ZZ (B.callee T ρ env σ H).F T' ρ' [] [] = ZZ B.F (T' ++ T) ρ' env σ := funext fun a => propext ⟨fun z => (by
    rcases z with (z | z | z) | z | z | ⟨i, z⟩
    · exact .inl z
    · exact .inr (.inl (List.mem_append_right _ z))
    · exact .inr (.inr (.inr z))
    · exact .inr (.inl (List.mem_append_left _ z))
    · exact .inr (.inr (.inl z))
    · exact absurd z no_own), fun z => by
    rcases z with z | z | z | z
    · exact .inl (.inl z)
    · rcases List.mem_append.mp z with z | z
      · exact .inr (.inl z)
      · exact .inl (.inr (.inl z))
    · exact .inr (.inr (.inl z))
    · exact .inl (.inr (.inr z))⟩
theorem Rel.back {T' ρ' : List Addr} {vh' : List VO} {H' : Hp} (R : Rel G B T ρ env vh σ H) (S : Rel G (B.callee T ρ env σ H) T' ρ' [] vh' [] H') : Rel G B (T' ++ T) ρ' env vh' σ H' := by
  have m := R.backMv S
  have kp : ∀ a u, H a = some u → a ∉ ρ → H' a = some u := fun a u h n => S.kp a u h n
  have cut : ∀ a, MZ (T' ++ T) ρ' env σ a → MZ T' ρ' [] [] a ∨ a ∈ T ∨ ∃ i, Own env σ a i := fun a z => by
    rcases z with z | z | z
    · rcases List.mem_append.mp z with z | z
      · exact .inl (.inl z)
      · exact .inr (.inl z)
    · exact .inl (.inr (.inl z))
    · exact .inr (.inr z)
  refine ⟨S.vl, S.rn, ?_, fun a z q => ?_, fun i a z => ⟨fun q => ?_, fun q => ?_⟩, R.oi, fun a f z => ?_, fun a z => S.tk a (by rw [Rel.backZ (H' := H')]; exact z), fun n o a h1 h2 => ?_, R.sl, fun i s hi => ?_, fun a u h nm => ?_, fun a xs h => S.tp a xs (R.tp a xs h), fun a z => ?_, fun n a h => S.pr n a (R.pr n a h)⟩
  · refine List.nodup_append.mpr ⟨S.tn, R.tn, fun x hx y hy e => ?_⟩
    rw [← e] at hy
    exact S.fm x (.inr (.inl hy)) (.inl hx)
  · rcases List.mem_append.mp z with z | z
    · exact S.tr a z q
    · exact S.fm a (.inr (.inl z)) (.inr (.inl q))
  · rcases List.mem_append.mp q with q | q
    · exact S.fm a (.inr (.inr ⟨i, z⟩)) (.inl q)
    · exact (R.ot i a z).1 q
  · exact S.fm a (.inr (.inr ⟨i, z⟩)) (.inr (.inl q))
  · rcases cut a z with z | z | z
    · exact S.fm a (.inl f) z
    · exact R.fm a f (.inl z)
    · exact R.fm a f (.inr (.inr z))
  · rw [← Rel.backZ (B := B) (H := H) (H' := H')]
    exact S.ob n o a h1 h2
  · refine (R.st i s hi).move m fun a ds e1 e2 => ?_
    subst e1
    have own : Own env σ a i := ⟨ds, hi, e2⟩
    obtain ⟨u, h, _⟩ := R.tk a (.inr (.inr (.inr ⟨i, own⟩)))
    exact (kp a u h (R.ot i a own).2).trans h.symm
  · have h1 := R.kp a u h nm
    refine kp a u h1 fun z => ?_
    rcases R.zn a (.inr (.inl z)) with q | q
    · exact nm q
    · rw [h] at q; cases q
  · rcases cut a z with z | z | z
    · rcases S.zn a z with q | q
      · exact R.zn a (.inr (.inl q))
      · refine (Classical.em (B.mu a)).elim .inl fun nm => .inr ?_
        cases e : B.H0 a with
        | none => rfl
        | some u =>
          have := R.kp a u e nm
          rw [show (B.callee T ρ env σ H).H0 a = H a from rfl] at q
          rw [q] at this; cases this
    · exact R.zn a (.inl z)
    · exact R.zn a (.inr (.inr z))
end
end R

set_option autoImplicit true
namespace R
open PySem PySem.Spec PySem.W PySem.Calls PyProof.Rows PySem.HandSPX
/-! ### the text of __init__ -/
@[reducible] def iA (fd : Str) (p1 p2 : Pos) : Arguments := { posonlyargs := [], args := [{ arg := "self", annotation := none, pos := p1 }, { arg := fd, annotation := none, pos := p2 }], vararg := none, kwonlyargs := [], kw_defaults := [], kwarg := none, defaults := [] }
@[reducible] def iB (fd : Str) (q1 q2 q3 q4 : Pos) : List Stmt := [.Assign [.Attribute (.Name "self" q1) fd q2] (.Name fd q3) q4]
@[reducible] def iS (fd : Str) : Scope := { kind := .function, names := [(PySem.Str.ofString "self", .local), (fd, .local)], isGenerator := false, isCoroutine := false, more := [] }
/-- what the written part says of Low, at C, and of its __init__, at fI -/
structure Ex1 (K : Frag) (mg : Str → Option Value) (xn fd : Str) (C fI : Addr) : Prop where
  hs : (fd == ("self" : Str)) = false
  hd : (fd == ("__debug__" : Str)) = false
  hx : (xn == ("__debug__" : Str)) = false
  gC : mg xn = some (.ref C)
  cls : ∃ nm q N bs bm sn sub ab col dd k0 k1 k2 k3 k5, K.lookup C = some (excClassObj nm q C N bs bm true sn sub ab col dd k0 k1 k2 k3 k5 "ValueError.__new__") ∧ refsVE bm = true
  sa : findIn K (.ref C) "__setattr__" = some (some (.builtin "object.__setattr__"))
  ga : findIn K (.ref C) "__getattribute__" = some (some (.builtin "BaseException.__getattribute__"))
  gg : findIn K (.ref C) "__getattr__" = some none
  noN : findIn K (.ref C) fd = some none
  iC : findIn K (.ref C) "__init__" = some (some (.ref fI))
  tC : typeIn K (.ref fI) = some (.type "function")
  kC : keepIn K (.ref C) = true
  exC : subIn K (.ref C) (.type "BaseException") = some true
  tyC : typeIn K (.ref C) = some (.type "type")
  hdC : hasDictIn K C = true
  fn : ∃ (qn : Str) (oc : Value) (od : Option Addr) (doc pm : Value) (an : Option Addr) (cdv ct : Value) (osl : Array (Option Value)) (p1 p2 q1 q2 q3 q4 : Pos),
    K.lookup fI = some ⟨oc, od, .func (fnOf "__init__" qn (iA fd p1 p2) (iB fd q1 q2 q3 q4) (iS fd) .none .none doc pm an cdv ct), osl⟩ ∧ codeIn K cdv qn = true ∧ (∀ (s : Shared) (a b : Value), BindsTo s (fnOf "__init__" qn (iA fd p1 p2) (iB fd q1 q2 q3 q4) (iS fd) .none .none doc pm an cdv ct) ⟨[a, b], []⟩ [("self", a), (fd, b)])
theorem iS_self {fd qn : Str} {L a : Addr} {cd : Value} : (envOfC qn (iS fd) L a cd).kindOf "self" = some .local := rfl
theorem iS_fd {fd qn : Str} {L a : Addr} {cd : Value} (h : (fd == ("self" : Str)) = false) : (envOfC qn (iS fd) L a cd).kindOf fd = some .local := by
  show List.lookup fd [(("self" : Str), NameKind.local), (fd, NameKind.local)] = some .local
  rw [List.lookup_cons, h]
  simp
theorem iS_bind {fd qn : Str} {L a : Addr} {cd : Value} (h : (fd == ("self" : Str)) = false) (u v : Value) : bindL (envOfC qn (iS fd) L a cd).kindOf [("self", u), (fd, v)] (fun _ => none) = fun y => if y = fd then some v else if y = ("self" : Str) then some u else none := by
  show (if _ then _ else _) = _
  rw [if_pos (iS_fd h), if_pos iS_self]
theorem one_size (v : Value) : [v].length ≤ sizeLine := by
  rw [sizeLine_eq]
  exact (by decide : 1 ≤ 16777216)
theorem kept_but {K : Frag} {h h' : Heap} {x : Addr} (X : K.In h) (hx : K.lookup x = none) (k : ∀ b o, b ≠ x → h.get? b = some o → h'.get? b = some o) : K.In h' := fun a o e =>
  k a o (fun z => by rw [z, hx] at e; cases e) (X a o e)
theorem ldC {M : Model} {s : Shared} {name : Str} {scope : Scope} {L a : Addr} {cd : Value} {m : Str → Option Value} {x : Str} {pos : Pos} {v : Value} {Q : Value → Shared → Prop} {A : Around} {E : Value → Shared → Prop} (hn : s.heap.Ns L m) (hv : m x = some v) (h : Q v s)
    (hk : scope.kind = .function := by rfl) (hl : (envOfC name scope L a cd).kindOf x = some .local := by rfl) (hd : (x == ("__debug__" : Str)) = false := by decide) :
    wpAny M A (eval (.Name x pos) (envOfC name scope L a cd)) Q E s := wpAny_Name (wpAny_loadName_local hk hl hn hv h) hd
/-- what __init__ leaves of a fresh exception at x -/
structure InitEnd (fd : Str) (h h' : Heap) (x C dx t1 : Addr) (v : Value) : Prop where
  keep : ∀ b o, b ≠ x → h.get? b = some o → h'.get? b = some o
  obj : h'.get? x = some { cls := .ref C, dict := some dx, data := .fields #[.ref t1, .none, .none, .none, .bool false, .none] }
  dbig : h.objs.size ≤ dx
  dne : dx ≠ x
  ns : h'.Ns1 dx (fun y => if y = fd then some v else none)
/-- a made Low -/
structure OwnMade (fd : Str) (h h' : Heap) (e C d : Addr) (v : Value) : Prop where
  keep : ∀ b o, h.get? b = some o → h'.get? b = some o
  new : h.objs.size ≤ e
  obj : ∃ oe vs, h'.get? e = some oe ∧ oe.cls = .ref C ∧ oe.dict = some d ∧ oe.data = .fields vs ∧ vs[1]? = some .none
  dbig : h.objs.size ≤ d
  dne : d ≠ e
  ns : h'.Ns1 d (fun y => if y = fd then some v else none)
section
variable {prog : Program} {w : World} {A : Around} {E : Value → Shared → Prop} {R : Result → Shared → Prop} {s : Shared} {K : Frag} {mg : Str → Option Value} {xn fd : Str} {C fI : Addr}
theorem low_init (T : Ex1 K mg xn fd C fI) {x t0 : Addr} {v : Value} (X : K.In s.heap) (hlim : s.heap.NoLimit) (hx : s.heap.get? x = some (excO C t0)) (hnx : K.lookup x = none) (hroom : A.depth < recursionLimit)
    (hq : ∀ h' tk dx, InitEnd fd s.heap h' x C dx t0 v → R (.ok (.ret .none)) { s with heap := h', toks := tk }) :
    codeAny (model prog w) A (.call (.ref fI) ⟨[.ref x, v], []⟩) R s := by
  obtain ⟨qn, oc, od, doc, pm, an, cdv, ct, osl, p1, p2, q1, q2, q3, q4, ho, hcd, hbd⟩ := T.fn
  obtain ⟨nm, q, N, bs, bm, sn, sub, ab, col, dd, k0, k1, k2, k3, k5, hC, hbm⟩ := T.cls
  have hcl : clsIn K C = some { name := nm, bases := bs, mro := .ref C :: bm, ns := N, qualname := q, hasDict := true, slotNames := sn, subclasses := sub, abstract := ab, collection := col, hasDel := false } := by unfold clsIn; rw [hC] <;> rfl
  refine Att.call_fn (binds := [("self", .ref x), (fd, v)]) X hlim ho hcd hroom (hbd _ _ _) (by
    have e := iS_fd (qn := qn) (L := fI) (a := fI) (cd := cdv) T.hs
    have e : (iS fd).names.lookup fd = some .local := e
    rw [List.all_cons, List.all_cons, List.all_nil, e]
    rfl) (fun s₁ IC => ?_) rfl rfl rfl
  obtain ⟨h₁, tk₁, rfl⟩ := IC.toInCall.same
  have k : ∀ b o, s.heap.get? b = some o → h₁.get? b = some o := IC.toInCall.keep
  have hn := IC.toInCall.ns
  rw [iS_bind T.hs] at hn
  have hxL : s.heap.objs.size ≠ x := Nat.ne_of_gt (Heap.lt_size hx)
  have X₁ : K.In h₁ := X.keeps k
  have hx₁ := k _ _ hx
  -- self.by = by
  show wpAny _ _ (execs _ _) _ _ _
  refine wpAny_execs_cons (plainObj_wpAny_Assign_Attribute ?_)
  refine ldC (v := v) hn (if_pos rfl) (ldC (v := .ref x) hn (by
    have ne : ("self" : Str) ≠ fd := fun z => by
      have q := T.hs
      rw [← z] at q
      simp at q
    rw [if_neg ne, if_pos rfl]) ?_ rfl iS_self (by decide)) rfl (iS_fd T.hs) T.hd
  refine set_plain X₁ (ox := excO C t0) (od := none) ⟨hx₁, rfl, rfl, trivial⟩ T.sa ?_
  refine exc_osa X₁ hx₁ hcl (show refsVE (.ref C :: bm) = true from hbm) rfl T.noN (fun h₃ tk₃ dx k₃ dn dne hx₃ hn₃ => ?_)
  show wpAny _ _ (execs _ _) _ _ _
  have z : s.heap.objs.size < h₁.objs.size := hn.lt
  exact wpAny_execs_nil (hq h₃ tk₃ dx ⟨fun b o hb e => k₃ b o hb (k b o e), hx₃, Nat.le_of_lt (Nat.lt_of_lt_of_le z dn), dne, hn₃⟩)
theorem low_made (T : Ex1 K mg xn fd C fI) {v : Value} (X : K.In s.heap) (hlim : s.heap.NoLimit) (hroom : A.depth + 1 < recursionLimit)
    (hq : ∀ h' tk e d, OwnMade fd s.heap h' e C d v → R (.ok (.ret (.ref e))) { s with heap := h', toks := tk }) :
    codeAny (model prog w) A (.call (.ref C) ⟨[v], []⟩) R s := by
  obtain ⟨nm, q, N, bs, bm, sn, sub, ab, col, dd, k0, k1, k2, k3, k5, hC, hbm⟩ := T.cls
  obtain ⟨hp, g, dr, tk, os⟩ := s
  have k : ∀ b o, hp.get? b = some o → ((hp.push (kdv_tup [v])).push (excO C hp.objs.size)).get? b = some o := fun b o e => Heap.get?_push_of_some _ (Heap.get?_push_of_some _ e)
  have hget : ((hp.push (kdv_tup [v])).push (excO C hp.objs.size)).get? (hp.objs.size + 1) = some (excO C hp.objs.size) := by heap_get
  have hnx : K.lookup (hp.objs.size + 1) = none := by
    cases e : K.lookup (hp.objs.size + 1) with
    | none => rfl
    | some o =>
      have z : hp.get? (hp.objs.size + 1) = some o := X _ _ e
      exact absurd (Nat.lt_of_succ_lt (Heap.lt_size z)) (Nat.lt_irrefl _)
  refine call_own F.excBase_ValueError (fun X => refsVE_contains X bm hbm) (X _ _ hC) (looks_findIn X T.iC) (fun self => bind_fn X self T.tC) (one_size v) ?_
  refine low_init (s := ⟨(hp.push (kdv_tup [v])).push (excO C hp.objs.size), g, dr, tk, os⟩) T (X.keeps k) (hlim.keeps k) hget hnx ?_ fun h' tk' dx ⟨k', hx, dn, dne, hns⟩ => ?_
  · show A.depth + 1 < recursionLimit
    exact hroom
  · have old : ∀ b o, hp.get? b = some o → h'.get? b = some o := fun b o e => k' b o (Nat.ne_of_lt (Nat.lt_succ_of_lt (Heap.lt_size e))) (k b o e)
    have z : hp.objs.size + 1 + 1 ≤ dx := by
      first
        | (simpa only [Heap.size_push] using dn)
        | exact dn
        | (have q := dn; rw [Heap.size_push, Heap.size_push] at q; exact q)
    exact ⟨rfl, hq h' tk' (hp.objs.size + 1) dx ⟨old, Nat.le_succ _, ⟨_, _, hx, rfl, rfl, rfl, rfl⟩, Nat.le_trans (Nat.le_trans (Nat.le_succ _) (Nat.le_succ _)) z, dne, hns⟩⟩
end
end R
namespace R
open PySem PySem.Spec PyProof.Rows L2
theorem relO_low {fd : Str} {v : V} {v' : Value} (r : RelV v v') (f : Str) : RelO (List.lookup f [(fd, v)]) (if f = fd then some v' else none) := by
  by_cases hw : f = fd
  · subst hw
    rw [if_pos rfl]
    have q : List.lookup f [(f, v)] = some v := by simp [List.lookup]
    rw [q]
    exact r
  · rw [if_neg hw]
    have qw : (f == fd) = false := by simpa using hw
    have q2 : List.lookup f [(fd, v)] = none := by simp [List.lookup, qw]
    rw [q2]
    trivial
section
variable {X : Cx} {xn fd : Str} {C fI : Addr}
/-- Low(e) -/
def tMkLow (fd : Str) (C : Addr) (ta : TA) : L2.St → Hp → XK → Prop := fun σ H Q => ta σ H fun vs H1 => ∃ v, vs = [v] ∧ ∀ d, H1 d = none → Q (.ref C) (some d) (upd H1 d (.xd [(fd, v)]))
theorem pmk_low {a : Expr} {ta : TA} {p pos : Pos} (T : Ex1 X.K X.mg xn fd C fI) (hr : X.A.depth + 1 < recursionLimit) (ha : PA X [a] ta) (hg : Gl X xn)
    (he : starEach (a :: []) X.env = (false, eval a X.env) :: starEach [] X.env := by rfl) (hpl : (backTo pos (starEach [] X.env)).any (·.1) = false := by rfl) :
    PMk X (.Call (.Name xn p) [a] [] pos) (tMkLow fd C ta) := by
  intro pins s σ H Q I h
  refine wpAny_Call_Name_kw (ld_glob I hg T.gC ?_ T.hx)
  refine PySem.W.callWith_K (h₀ := X.base) I.ok.mod.kin T.kC (thn (ha.run pos pins s σ H _ I h) fun us s1 hh => ?_) he hpl
  obtain ⟨vs, H1, I1, r1, v, ev, q1⟩ := hh
  subst ev
  refine ⟨I1.kIn, ?_⟩
  cases r1 with
  | cons rv rn =>
    rename_i v' us'
    cases rn
    show wpAny _ _ (call (.ref C) [v']) _ _ _
    have hlim := I1.nolimit
    obtain ⟨hp, g, dr, tk, os⟩ := s1
    refine wpAny_call (low_made T I1.kIn hlim hr fun h' tk' e d M => ?_)
    show MkP X pins σ Q (.ref e) ⟨h', g, dr, tk', os⟩
    obtain ⟨oe, fv, hoe, hc, hd, hdat, h1⟩ := M.obj
    have hns := M.ns
    obtain ⟨G', g1, g2⟩ := restrict h' fun b => decide (b ≠ e)
    have gk : ∀ b, b ≠ e → G'.get? b = h'.get? b := fun b hb => g1 b (decide_eq_true hb)
    have ge : G'.get? e = none := g2 e (by simp)
    have old : ∀ b o, hp.get? b = some o → G'.get? b = some o := fun b o q => (gk b (Nat.ne_of_lt (Nat.lt_of_lt_of_le (Heap.lt_size q) M.new))).trans (M.keep b o q)
    have ob : ObjOk X.prog X.w (upd H1 d (.xd [(fd, v)])) G' d (.xd [(fd, v)]) :=
      ⟨_, hns.at (fun o q => (gk d M.dne).trans q), fun f => relO_low rv f⟩
    have J : Inv X pins σ (upd H1 d (.xd [(fd, v)])) ⟨G', g, dr, tk', os⟩ := I1.laid (t' := tk') old M.dbig ob
    refine ⟨e, oe, fv, ⟨G', g, dr, tk', os⟩, _, .ref C, some d, rfl, J, fun b o q => ?_, ge, hoe, ⟨hc, hd⟩, hdat, h1, ?_, rfl, I1.bare, raises_own T.exC T.tyC, q1 d (I1.hok.fresh M.dbig)⟩
    · by_cases hb : b = e
      · have q' : G'.get? b = some o := q
        rw [hb, ge] at q'; cases q'
      · exact (gk b hb).symm.trans q
    · rw [upd_ne (Ne.symm M.dne)]
      exact I1.hok.fresh M.new
/-- raise Low(e) -/
def tRaiseLow (fd : Str) (C : Addr) (W : WX) (ta : TA) : TS := fun _ σ H => tMkLow fd C ta σ H fun cls d H' => W cls d σ H'
theorem ps_raiseLow {a : Expr} {ta : TA} {W : WX} {p pos pos2 : Pos} (hc : X.calm = true) (T : Ex1 X.K X.mg xn fd C fI) (hr : X.A.depth + 1 < recursionLimit) (tk : Takes X W) (ha : PA X [a] ta) (hg : Gl X xn)
    (he : starEach (a :: []) X.env = (false, eval a X.env) :: starEach [] X.env := by rfl) (hpl : (backTo pos (starEach [] X.env)).any (·.1) = false := by rfl) :
    PS X (.Raise (some (.Call (.Name xn p) [a] [] pos)) none pos2) (tRaiseLow fd C W ta) := ps_raise hc tk (pmk_low T hr ha hg he hpl)
end
/-- an own exception class without own __init__ -/
structure Ex0 (K : PySem.W.Frag) (mg : Str → Option Value) (xn : Str) (C : Addr) : Prop where
  hx : (xn == ("__debug__" : Str)) = false
  gC : mg xn = some (.ref C)
  q : PySem.W.excIn K C [.type "ValueError", .type "Exception", .type "BaseException", .type "object"] "ValueError.__new__" = true
  kC : PySem.W.keepIn K (.ref C) = true
  exC : PySem.W.subIn K (.ref C) (.type "BaseException") = some true
  tyC : PySem.W.typeIn K (.ref C) = some (.type "type")
/-- X(), X an own exception class without own __init__ -/
theorem pmk_own0 {X : Cx} {C : Addr} {x : Str} {p pos : Pos} (T : Ex0 X.K X.mg x C) (hg : Gl X x) :
    PMk X (.Call (.Name x p) [] [] pos) (fun σ H Q => Q (.ref C) none H) := by
  intro pins s σ H Q I h
  refine wpAny_Call_Name_kw (ld_glob I hg T.gC ?_ T.hx)
  refine PySem.W.callWith_K0 I.kIn T.kC ?_
  obtain ⟨bm, N, nm, qn, bs, hdct, sn, sub, ab, col, dd, k0, k1, k2, k3, k5, mN, hC, hN, hni, F⟩ := exc_obj I.kIn T.q
  show wpAny _ _ (call (.ref C) []) _ _ _
  refine wpAny_call_exc_subT PySem.F.excBase_ValueError F hC hN hni (fun h' e hm => ?_) (Nat.zero_le _)
  exact mk_of I hm (raises_own T.exC T.tyC) h (I.hok.gone hm.new)
theorem Ex1.xf {K : PySem.W.Frag} {mg : Str → Option Value} {xn fd : Str} {C fI : Addr} (T : Ex1 K mg xn fd C fI) : XfC K C := ⟨T.ga, T.gg, T.exC, T.hdC⟩
end R

set_option autoImplicit false
namespace R
open PySem PySem.Spec PyProof.Rows L2
/-! ## RX1: try with several clauses, each with a name or without -/
def dGone (o : Option Nat) (D : Ends) : Ends := match o with
  | none => D
  | some i => { nx := fun σ' H' => D.nx (σ'.set i none) H', rt := D.rt, bk := fun σ' H' => D.bk (σ'.set i none) H', ct := fun σ' H' => D.ct (σ'.set i none) H' }
def stIn (o : Option Nat) (a : Addr) (σ : L2.St) : L2.St := match o with
  | none => σ
  | some i => σ.set i (some (.ref a))
/-- what the clauses wish of an exception of the body, one after the other -/
def wGen (K : PySem.W.Frag) (Wout : WX) (D : Ends) : List (Value × Option Nat × (Addr → Value → Option Addr → TS)) → WX
  | [] => Wout
  | (c, o, ts) :: r => fun cls d σ H => ∃ b, PySem.W.exmOne K cls c = some b ∧ (b = true → ∀ a, H a = none → ts a cls d (dGone o D) (stIn o a σ) H) ∧ (b = false → wGen K Wout D r cls d σ H)
inductive HdsG (X : Cx) : List ExceptHandler → List (Value × Option Nat × (Addr → Value → Option Addr → TS)) → Prop
  | nil : HdsG X [] []
  | plain {x : Str} {c : Value} {ts : Addr → Value → Option Addr → TS} {b₀ : Stmt} {suite : List Stmt} {np pos' : Pos} {hds : List ExceptHandler} {l : List (Value × Option Nat × (Addr → Value → Option Addr → TS))} (hc : Names X x c)
      (hsu : ∀ (a : Addr) (oe : Obj) (cls : Value) (d : Option Addr) (pn : List (Addr × Obj)), Zc cls d oe → (∃ vs, oe.data = .fields vs) → PSs (X.suite a ((a, oe) :: pn)) (b₀ :: suite) (ts a cls d)) (r : HdsG X hds l) :
      HdsG X (.ExceptHandler (some (.Name x np)) none (b₀ :: suite) pos' :: hds) ((c, none, ts) :: l)
  | named {x n : Str} {c : Value} {i : Nat} {ts : Addr → Value → Option Addr → TS} {b₀ : Stmt} {suite : List Stmt} {np pos' : Pos} {hds : List ExceptHandler} {l : List (Value × Option Nat × (Addr → Value → Option Addr → TS))} (hi : X.N[i]? = some n) (hln : X.env.kindOf n = some .local) (hc : Names X x c)
      (hsu : ∀ (a : Addr) (oe : Obj) (cls : Value) (d : Option Addr) (pn : List (Addr × Obj)), Zc cls d oe → (∃ vs, oe.data = .fields vs) → PSs (X.suite a ((a, oe) :: pn)) (b₀ :: suite) (ts a cls d)) (r : HdsG X hds l) :
      HdsG X (.ExceptHandler (some (.Name x np)) (some n) (b₀ :: suite) pos' :: hds) ((c, some i, ts) :: l)
section
variable {X : Cx} {body : List Stmt} {h₀ : ExceptHandler} {hds : List ExceptHandler} {l : List (Value × Option Nat × (Addr → Value → Option Addr → TS))} {pos : Pos} {tb : WX → TS} {Wout : WX}
theorem ps_try_gen (hs : X.stack = X.env :: X.outer) (hf : X.env.frame = some X.env.locals) (hN : X.N.Nodup) (tk : Takes X Wout)
    (hb : ∀ (W : WX) (pn : List (Addr × Obj)) (xe : Value → Shared → Prop), Takes (X.tr pn xe) W → PassesOwn (model X.prog X.w) X.A X.env xe → PSs (X.tr pn xe) body (tb W))
    (hh : HdsG X (h₀ :: hds) l) : PS X (.Try body (h₀ :: hds) [] [] pos) (fun D σ H => tb (wGen X.K Wout D l) D σ H) := by
  refine ⟨fun pins s σ H D I h => ?_⟩
  have ok := I.ok
  have hfr : X.A.frames = some (X.env :: X.outer) := by rw [ok.frames, hs]
  refine wpAny_Try_except ?_
  refine wpAny_mono ((hb (wGen X.K Wout D l) (X.pn ++ pins) (fun e s₁ => wpAny (model X.prog X.w) X.A (noteFrame e X.env) (fun _ s₂ => wpAny (model X.prog X.w) X.A (setFlight e none) (fun _ s₃ =>
    wpAny (model X.prog X.w) X.A (handleBy e X.env (h₀ :: hds)) (SP X pins D) X.xe s₃) X.xe s₂) X.xe s₁) (fun u s' xx => ?_) PassesOwn.looking).run [] s σ H D (I.toTry _) h) (fun f s1 hsp => ?_) (fun e s1 he => he)
  · -- the catch
    obtain ⟨a, B, sI, pins', σ', H', cls, d, rfl, J', nb, up, sky, na, os, ag, w⟩ := xx
    have J : L2.Inv X pins σ' H' sI := J'.ofTry ok
    have sky' : Sky B (X.env :: X.outer) a (Zc cls d) X.env.locals s'.heap := by rw [← hs]; exact sky
    show wpAny (model X.prog X.w) X.A (noteFrame (.ref a) X.env) _ _ _
    refine Sky.land Zc.steady hfr hf sky' fun h3 fl3 up3 => ?_
    have J3 : L2.Inv X pins σ' H' { s' with heap := h3 } := J.landed nb fl3.1 (up.trans up3) os ag
    obtain ⟨oe3, vs3, he3, hz3, hd3⟩ := fl3.there
    have notFr : ∀ {h : Heap} {o : Obj} {vs : Array Value}, h.FunFrames B (X.env :: X.outer) → h.get? a = some o → o.data = .fields vs → a ∉ frs (X.env :: X.outer) := fun {h o vs} ff e dd hm => by
      obtain ⟨_, o', e', hnf⟩ := ff.mem hm
      rw [e] at e'; cases e'
      exact hnf _ dd
    have nfr := notFr fl3.2.2.1 he3 hd3
    have nL : a ≠ X.env.locals := fun z => nfr (List.mem_filterMap.mpr ⟨X.env, List.mem_cons_self, by rw [hf, z]⟩)
    have nF : a ∉ X.fs := fun hm => by
      obtain ⟨e, he, q⟩ := List.mem_filterMap.mp hm
      exact nfr (List.mem_filterMap.mpr ⟨e, List.mem_cons_of_mem _ he, q⟩)
    have S3 := J3.suite he3 hd3 na nL nF
    have go : ∀ {hds' : List ExceptHandler} {l' : List (Value × Option Nat × (Addr → Value → Option Addr → TS))}, HdsG X hds' l' → wGen X.K Wout D l' cls d σ' H' →
        wpAny (model X.prog X.w) X.A (handleBy (.ref a) X.env hds') (SP X pins D) X.xe { s' with heap := h3 } := by
      intro hds' l' hk
      induction hk with
      | nil =>
        intro w
        refine wpAny_handleBy_nil ?_
        obtain ⟨k1, k2, k3, oe, vs, T, oT, ts', he, hz, hd, h1, hr⟩ := id fl3
        unfold PySem.passOn
        refine wpAny_bind (wpAny_field he hd h1 ?_)
        rw [if_neg (show ¬ ((Value.ref T == Value.none) = true) from by simp)]
        have fin : wpAny (model X.prog X.w) X.A (setFlight (.ref a) X.env.frame) (fun _ s4 => wpAny (model X.prog X.w) X.A (throw (.ref a) : Sem Flow) (SP X pins D) X.xe s4) X.xe { s' with heap := h3 } := by
          rw [hf]
          refine HandSPX.setFlight_upZ fl3 fun h4 hh4 up4 => wpAny_throw (tk _ _ ?_)
          exact ⟨a, B, sI, pins, σ', H', cls, d, rfl, J, nb, (up.trans up3).trans up4, .inr (.inr (by rw [hs]; exact hh4)), na, os, ag, w⟩
        first
          | exact wpAny_bind (wpAny_pure (wpAny_bind fin))
          | exact wpAny_bind fin
      | @plain x c ts b₀ suite np pos' hds2 l2 hc hsu r ih =>
        intro w
        obtain ⟨b, hb1, hyes, hno⟩ := w
        refine wpAny_handleBy_cons (codeAny_handlers_test ?_) (by intro q; cases q)
        have LT : PySem.W.Looks (model X.prog X.w) h3 (typeOf (.ref a)) cls := fun A Q E s k q => wpAny_typeOf_ref (k _ _ he3) (by rw [hz3.1]; exact q)
        have LM := PySem.W.exm_one (M := model X.prog X.w) (J3.kIn) LT hb1
        have test : ∀ {Q : Value → Shared → Prop} {E : Value → Shared → Prop}, Q c { s' with heap := h3 } → wpAny (model X.prog X.w) (X.A.mark (some (.ref a))) (eval (.Name x np) X.env) Q E { s' with heap := h3 } := fun {Q E} q => by
          obtain ⟨hg, hdbg, hm | ⟨hm, hv, hnn⟩⟩ := hc
          · exact ld_glob (X := X.suite a ((a, oe3) :: (X.pn ++ pins))) S3 hg hm q hdbg
          · exact ld_blt (X := X.suite a ((a, oe3) :: (X.pn ++ pins))) S3 hg hm hv q hnn hdbg
        refine test (LM.here ?_)
        cases b with
        | true =>
          refine codeAny_handlers_suite ?_
          refine HandSPX.lands_againZ fl3 fun h4 fl4 up4 => ?_
          have J4 : L2.Inv X pins σ' H' { s' with heap := h4 } := J.landed nb fl4.1 ((up.trans up3).trans up4) os ag
          obtain ⟨oe4, vs4, he4, hz4, hd4⟩ := fl4.there
          have S4 := J4.suite he4 hd4 na nL nF
          refine wpAny_mono ((hsu a oe4 cls d (X.pn ++ pins) hz4 ⟨_, hd4⟩).run [] _ _ H' _ S4 (hyes rfl a na)) (fun f s6 hsp => ?_) (fun _ _ z => False.elim z)
          cases f with
          | next =>
            obtain ⟨σ6, H6, S6, q6⟩ := hsp
            exact ⟨_, _, S6.unsuite ok, q6⟩
          | brk =>
            obtain ⟨σ6, H6, S6, q6⟩ := hsp
            exact ⟨_, _, S6.unsuite ok, q6⟩
          | cont =>
            obtain ⟨σ6, H6, S6, q6⟩ := hsp
            exact ⟨_, _, S6.unsuite ok, q6⟩
          | ret u =>
            obtain ⟨v6, σ6, H6, S6, r6, q6⟩ := hsp
            exact ⟨_, _, _, S6.unsuite ok, r6, q6⟩
        | false =>
          show wpAny _ X.A (handleBy (.ref a) X.env hds2) _ _ _
          exact ih (hno rfl)
      | @named x n c i ts b₀ suite np pos' hds2 l2 hi hln hc hsu r ih =>
        intro w
        obtain ⟨b, hb1, hyes, hno⟩ := w
        refine wpAny_handleBy_cons (codeAny_handlers_test ?_) (by intro q; cases q)
        have LT : PySem.W.Looks (model X.prog X.w) h3 (typeOf (.ref a)) cls := fun A Q E s k q => wpAny_typeOf_ref (k _ _ he3) (by rw [hz3.1]; exact q)
        have LM := PySem.W.exm_one (M := model X.prog X.w) (J3.kIn) LT hb1
        have test : ∀ {Q : Value → Shared → Prop} {E : Value → Shared → Prop}, Q c { s' with heap := h3 } → wpAny (model X.prog X.w) (X.A.mark (some (.ref a))) (eval (.Name x np) X.env) Q E { s' with heap := h3 } := fun {Q E} q => by
          obtain ⟨hg, hdbg, hm | ⟨hm, hv, hnn⟩⟩ := hc
          · exact ld_glob (X := X.suite a ((a, oe3) :: (X.pn ++ pins))) S3 hg hm q hdbg
          · exact ld_blt (X := X.suite a ((a, oe3) :: (X.pn ++ pins))) S3 hg hm hv q hnn hdbg
        refine test (LM.here ?_)
        cases b with
        | true =>
          refine codeAny_handlers_suite_as ?_
          refine HandSPX.lands_againZ fl3 fun h4 fl4 up4 => ?_
          have J4 : L2.Inv X pins σ' H' { s' with heap := h4 } := J.landed nb fl4.1 ((up.trans up3).trans up4) os ag
          obtain ⟨oe4, vs4, he4, hz4, hd4⟩ := fl4.there
          have S4 := J4.suite he4 hd4 na nL nF
          refine store_ok (X := X.suite a ((a, oe4) :: (X.pn ++ pins))) (v := .ref a) S4 hN hi (.inl hln) rfl (fun s5 S5 => ?_) (.inr hln)
          refine wpAny_mono ((hsu a oe4 cls d (X.pn ++ pins) hz4 ⟨_, hd4⟩).run [] s5 _ H' _ S5 (hyes rfl a na)) (fun f s6 hsp => ?_) (fun _ _ z => False.elim z)
          have end_ : ∀ {σ6 : L2.St} {H6 : Hp} {Q : Shared → Prop}, L2.Inv (X.suite a ((a, oe4) :: (X.pn ++ pins))) [] σ6 H6 s6 → (∀ s7, L2.Inv X pins (σ6.set i none) H6 s7 → Q s7) →
              wpAny (model X.prog X.w) X.A (do bindName X.env n .none; unbindBehindTheSuite X.env n pos') (fun _ s7 => Q s7) X.xe s6 := fun {σ6 H6 Q} S6 hq => gone_ok (S6.unsuite ok) hN hi hln hq
          cases f with
          | next =>
            obtain ⟨σ6, H6, S6, q6⟩ := hsp
            exact end_ S6 fun s7 J7 => ⟨_, _, J7, q6⟩
          | brk =>
            obtain ⟨σ6, H6, S6, q6⟩ := hsp
            exact end_ S6 fun s7 J7 => ⟨_, _, J7, q6⟩
          | cont =>
            obtain ⟨σ6, H6, S6, q6⟩ := hsp
            exact end_ S6 fun s7 J7 => ⟨_, _, J7, q6⟩
          | ret u =>
            obtain ⟨v6, σ6, H6, S6, r6, q6⟩ := hsp
            exact end_ S6 fun s7 J7 => ⟨_, _, _, J7, r6, q6⟩
        | false =>
          show wpAny _ X.A (handleBy (.ref a) X.env hds2) _ _ _
          exact ih (hno rfl)
    exact go hh w
  · cases f with
    | next =>
      obtain ⟨σ', H', J', q⟩ := hsp
      exact wpAny_execs_nil ⟨σ', H', J'.ofTry ok, q⟩
    | brk =>
      obtain ⟨σ', H', J', q⟩ := hsp
      exact ⟨σ', H', J'.ofTry ok, q⟩
    | cont =>
      obtain ⟨σ', H', J', q⟩ := hsp
      exact ⟨σ', H', J'.ofTry ok, q⟩
    | ret u =>
      obtain ⟨v, σ', H', J', r, q⟩ := hsp
      exact ⟨v, σ', H', J'.ofTry ok, r, q⟩
end
end R

set_option autoImplicit false
namespace R
open PySem PySem.Spec PyProof.Rows L2
/-! ## R2: the small language and what its parts come to -/

/-- built-in functions and classes, called by their names -/
inductive Bf where
  | len | int | bool | str | tuple | list | abs | min2 | max2 | sum | all | any | sorted | min1 | max1
  deriving DecidableEq
/-- what is gone through -/
inductive Ik where
  | seq | rng1 | rng2 | rng3 | zip | enum | rev | seqS | zipS
  deriving DecidableEq
/-- a target -/
inductive Tg where
  | one (i : Nat) | many (is : List Nat)
  deriving DecidableEq

inductive E where
  | non | bl (b : Bool) | int (i : Int) | str (x : Str)
  | var (i : Nat) | bor (i : Nat) | glo (x : Str) | skip
  | tup (es : List E) | lst (es : List E)
  | bin (op : Operator) (a b : E) | neg (a : E)
  | cmp (op : CmpOp) (a b : E) | chain (op op' : CmpOp) (a b c : E)
  | and (a b : E) | or (a b : E) | not (a : E) | ite (c a b : E)
  | idx (a i : E) | sli (a lo hi : E)
  | call (f : Str) (es : List E) | blt (f : Bf) (es : List E)
  | isi (a : E) (tys : List String)
  | lc (elt : E) (tg : Tg) (own : List Nat) (k : Ik) (es : List E) (cs : List E)
  | attr (a : E) (f : Str)
  | dct (ks : List Key) (es : List E)
  | fld (a : E) (f : Str) | meth (a : E) (m : Str) (es : List E) | mk (c : Str) (es : List E) | shr (a : E)

abbrev VH := List VO
abbrev VE := List Slot
inductive Out where
  | ok (x : DV) | exc (c : Str) (xs : List D)
structure VSp where
  run : List D → VH → (Out → VH → Prop) → Prop
  mono : ∀ (ds : List D) (vh : VH) (R R' : Out → VH → Prop), (∀ o h, R o h → R' o h) → run ds vh R → run ds vh R'
  ex : Prop
/-- a promise by what comes out -/
def det (s : List D → VH → Out → VH → Prop) : VSp := ⟨fun ds vh R => ∃ o h, s ds vh o h ∧ R o h, fun ds vh R R' f ⟨o, h, a, b⟩ => ⟨o, h, a, f o h b⟩, True⟩
abbrev Fns := Str → VSp
abbrev Cns := Str → Option D
/-- what is wanted of an exception -/
abbrev XP := Str → List D → VE → VH → Prop
abbrev QE := DV → VE → VH → Prop

/-- a slot's value, read for its items alone -/
def Slot.ld : Slot → Option D
  | .no => none
  | .val d => some d
  | .own ds => some (.lst ds)
def Slot.ok : Slot → Prop
  | .no => False
  | _ => True
/-- an operand: data, or what a slot holds -/
inductive Op where
  | dat (d : D) | slt (i : Nat)
def deref (vh : VH) : D → Option D
  | .ref n => match vh[n]? with
    | some (.lst xs) => some (.lst xs)
    | some (.dct ks xs) => some (.dct ks xs)
    | _ => none
  | d => some d
def Op.ld (env : VE) (vh : VH) : Op → Option D
  | .dat x => deref vh x
  | .slt i => match env[i]? with
    | some s => match s.ld with
      | some d => deref vh d
      | none => none
    | none => none
/-- an operand as it is -/
def Op.raw (env : VE) : Op → Option D
  | .dat x => some x
  | .slt i => match env[i]? with
    | some (.val d) => some d
    | _ => none
def ldAll (env : VE) (vh : VH) : List Op → Option (List D)
  | [] => some []
  | x :: xs => match x.ld env vh, ldAll env vh xs with
    | some d, some ds => some (d :: ds)
    | _, _ => none

/-! ### truth, equality, operators -/
def truD : D → Option Bool
  | .non => some false
  | .bl b => some b
  | .int i => some (i != 0)
  | .str x => if x.length ≤ 16777216 then some ((x.length : Int) != 0) else none
  | .tup xs => some (!xs.isEmpty)
  | .lst xs => some (!xs.isEmpty)
  | .dct ks xs => some (!xs.isEmpty)
  | _ => none

mutual
def eqD : D → D → Bool
  | .non, .non => true
  | .bl a, .bl b => a == b
  | .bl a, .int j => (if a then 1 else 0) == j
  | .int i, .bl b => i == (if b then 1 else 0)
  | .int i, .int j => i == j
  | .str x, .str y => x == y
  | .lst xs, .lst ys => eqDs xs ys
  | .tup xs, .tup ys => eqDs xs ys
  | _, _ => false
def eqDs : List D → List D → Bool
  | [], [] => true
  | x :: xs, y :: ys => eqD x y && eqDs xs ys
  | _, _ => false
end
mutual
/-- data that == looks at as data, at most so deep -/
def okD : Nat → D → Bool
  | _, .non => true
  | _, .bl _ => true
  | _, .int _ => true
  | _, .str x => PyData.canLay0 (.str x)
  | n + 1, .lst xs => okDs n xs
  | n + 1, .tup xs => okDs n xs
  | _, _ => false
def okDs : Nat → List D → Bool
  | _, [] => true
  | n, x :: xs => okD n x && okDs n xs
end

def mulOk (i j : Int) : Prop := (-(2 ^ 64) < i ∧ i < 2 ^ 64) ∨ (-(2 ^ 64) < j ∧ j < 2 ^ 64) ∨ i.natAbs.log2 + j.natAbs.log2 < 1000000

def wpBin (op : Operator) (a b : D) (Q : DV → Prop) : Prop := match op, a, b with
  | .Add, .int i, .int j => Q (.v (.int (i + j)))
  | .Add, .str x, .str y => x.length + y.length ≤ 16777216 ∧ Q (.v (.str (x ++ y)))
  | .Add, .tup xs, .tup ys => xs.length + ys.length ≤ 16777216 ∧ Q (.v (.tup (xs ++ ys)))
  | .Add, .lst xs, .lst ys => xs.length + ys.length ≤ 16777216 ∧ Q (.fr (xs ++ ys))
  | .Sub, .int i, .int j => Q (.v (.int (i - j)))
  | .Mult, .int i, .int j => mulOk i j ∧ Q (.v (.int (i * j)))
  | .Mult, .str x, .int k => MulOk x k ∧ Q (.v (.str (Txt.mul x k)))
  | .Mult, .tup xs, .int k => -1000 ≤ k ∧ k ≤ 1000 ∧ xs.length ≤ 1000 ∧ Q (.v (.tup (List.replicate k.toNat xs).flatten))
  | .Mult, .lst xs, .int k => (-(2 ^ 62) < k ∧ k < 2 ^ 62 ∧ xs.length * k.toNat ≤ 16777216) ∧ Q (.fr (List.replicate k.toNat xs).flatten)
  | .FloorDiv, .int i, .int j => (0 < j ∧ j.natAbs.log2 < 9000) ∧ Q (.v (.int (i / j)))
  | .Mod, .int i, .int j => 0 < j ∧ Q (.v (.int (i % j)))
  | .Pow, .int i, .int j => (0 ≤ j ∧ j ≤ 1000000 ∧ i.natAbs < 2 ^ 64) ∧ Q (.v (.int (i ^ j.toNat)))
  | _, _, _ => False

def isNon : D → Bool
  | .non => true
  | _ => false
@[reducible] def isB : D → Bool → Bool
  | .bl a, b => decide (a = b)
  | _, _ => false
def flatD : D → Bool
  | .non => true
  | .bl _ => true
  | .int _ => true
  | .str _ => true
  | _ => false
def inD (x : D) (xs : List D) : Bool := xs.any fun y => eqD y x

def wpCmp (op : CmpOp) (a b : D) (Q : Bool → Prop) : Prop := match op, a, b with
  | .Eq, x, y => okD 64 x = true ∧ okD 64 y = true ∧ Q (eqD x y)
  | .NotEq, x, y => okD 64 x = true ∧ okD 64 y = true ∧ Q (!eqD x y)
  | .Lt, .int i, .int j => Q (decide (i < j))
  | .LtE, .int i, .int j => Q (decide (i ≤ j))
  | .Gt, .int i, .int j => Q (decide (j < i))
  | .GtE, .int i, .int j => Q (decide (j ≤ i))
  | .Is, x, .non => Q (isNon x)
  | .IsNot, x, .non => Q (!isNon x)
  | .Is, x, .bl b => Q (isB x b)
  | .IsNot, x, .bl b => Q (!isB x b)
  | .In, x, .tup xs => flatD x = true ∧ xs.all flatD = true ∧ Q (inD x xs)
  | .In, x, .lst xs => flatD x = true ∧ xs.all flatD = true ∧ Q (inD x xs)
  | .NotIn, x, .tup xs => flatD x = true ∧ xs.all flatD = true ∧ Q (!inD x xs)
  | .NotIn, x, .lst xs => flatD x = true ∧ xs.all flatD = true ∧ Q (!inD x xs)
  | .In, .str x, .str z => ∃ c : Nat, x = ⟨#[c]⟩ ∧ Q (decide (c ∈ z.cps.toList))
  | .NotIn, .str x, .str z => ∃ c : Nat, x = ⟨#[c]⟩ ∧ Q (!decide (c ∈ z.cps.toList))
  | _, _, _ => False

def wpIdx (a i : D) (Q : D → Prop) : Prop := match a, i with
  | .tup xs, .int k => ∃ d, atI xs k = some d ∧ Q d
  | .lst xs, .int k => ∃ d, atI xs k = some d ∧ Q d
  | .scr xs, .int k => ∃ d, atI xs k = some d ∧ Q (.int d)
  | .str x, .int k => x.length ≤ 16777216 ∧ ∃ c, atI x.cps.toList k = some c ∧ Q (.str ⟨#[c]⟩)
  | _, _ => False
def partD : DV → Option (Option Int)
  | .v (.int i) => some (some i)
  | .v .non => some none
  | _ => none
/-- xs[lo:hi] -/
def cutL {α : Type} (xs : List α) (lo hi : Option Int) : List α := (xs.drop (HT.sIx xs.length 0 lo)).take (HT.sIx xs.length xs.length hi - HT.sIx xs.length 0 lo)
def wpSli (a : D) (lo hi : Option Int) (Q : DV → Prop) : Prop := match a with
  | .tup xs => Q (.v (.tup (cutL xs lo hi)))
  | .lst xs => Q (.fr (cutL xs lo hi))
  | .scr xs => Q (.fr ((cutL xs lo hi).map D.int))
  | _ => False

def eNm (f : Str) : Str := ("%e." : Str) ++ f
/-- o.f -/
def wpAttr (Γ : Cns) (vh : VH) (d : D) (f : Str) (Q : D → Prop) : Prop := match d with
  | .adr a => Γ "%a" = some (.adr a) ∧ ∃ x, Γ (eNm f) = some x ∧ Q x
  | _ => False
/-- an instance's attributes -/
def fldD (f : Str) : List Str → List D → Option D
  | n :: ns, x :: xs => if n = f then some x else fldD f ns xs
  | _, _ => none
def putN (f : Str) : List Str → List Str
  | [] => [f]
  | n :: ns => if n = f then n :: ns else n :: putN f ns
def putX (f : Str) (d : D) : List Str → List D → List D
  | n :: ns, x :: xs => if n = f then d :: xs else x :: putX f d ns xs
  | _, _ => [d]
/-- a method's name -/
def mN (c m : Str) : Str := c ++ ("." : Str) ++ m
/-- a value's built-in type -/
def tyD : D → Option String
  | .non => some "NoneType"
  | .bl _ => some "bool"
  | .int _ => some "int"
  | .str _ => some "str"
  | .tup _ => some "tuple"
  | .lst _ => some "list"
  | .scr _ => some "list"
  | .dct _ _ => some "dict"
  | _ => none
/-- the built-in types that isinstance is asked for -/
def okTy (b : String) : Bool := b == "int" || b == "bool" || b == "str" || b == "tuple" || b == "list" || b == "dict"
def isTy (a b : String) : Bool := a == b || (a == "bool" && b == "int")
def wpBlt (f : Bf) (ds : List D) (Q : DV → Prop) : Prop := match f, ds with
  | .len, [.tup xs] => Q (.v (.int xs.length))
  | .len, [.lst xs] => Q (.v (.int xs.length))
  | .len, [.scr xs] => Q (.v (.int xs.length))
  | .len, [.str x] => x.length ≤ 16777216 ∧ Q (.v (.int x.length))
  | .int, [.int i] => Q (.v (.int i))
  | .int, [.bl b] => Q (.v (.int (if b then 1 else 0)))
  | .tuple, [.lst xs] => Q (.v (.tup xs))
  | .tuple, [.tup xs] => Q (.v (.tup xs))
  | .list, [.lst xs] => Q (.fr xs)
  | .list, [.scr xs] => Q (.fr (xs.map D.int))
  | .list, [.tup xs] => Q (.fr xs)
  | .abs, [.int i] => Q (.v (.int (if i < 0 then -i else i)))
  | .min2, [.int i, .int j] => Q (.v (.int (if j < i then j else i)))
  | .max2, [.int i, .int j] => Q (.v (.int (if j > i then j else i)))
  | .all, [.lst xs] => ∃ bs : List Bool, xs = bs.map D.bl ∧ Q (.v (.bl (bs.all id)))
  | .any, [.lst xs] => ∃ bs : List Bool, xs = bs.map D.bl ∧ Q (.v (.bl (bs.any id)))
  | .sorted, [.lst xs] => ∃ ns : List Int, xs = ns.map D.int ∧ ∀ ns' : List Int, ns'.Perm ns → ns'.Pairwise (· ≤ ·) → Q (.fr (ns'.map D.int))
  | .min1, [.lst xs] => ∃ ns : List Int, xs = ns.map D.int ∧ 0 < ns.length ∧ ∀ m, m ∈ ns → (∀ y, y ∈ ns → m ≤ y) → Q (.v (.int m))
  | .max1, [.lst xs] => ∃ ns : List Int, xs = ns.map D.int ∧ 0 < ns.length ∧ ∀ m, m ∈ ns → (∀ y, y ∈ ns → y ≤ m) → Q (.v (.int m))
  | .sum, [.scr ns] => Q (.v (.int ns.sum))
  | .str, [.int i] => i.natAbs.log2 < 1920 ∧ Q (.v (.str (Str.ofString (toString i))))
  | .int, [.str x] => ∃ n : Int, PySem.intText? x = some n ∧ x.length ≤ 640 ∧ Q (.v (.int n))
  | .sum, [.lst xs] => ∃ ns : List Int, xs = ns.map D.int ∧ Q (.v (.int ns.sum))
  | _, _ => False

/-- the items that are gone through -/
def itemsD (k : Ik) (ds : List D) : Option (List D) := match k, ds with
  | .seq, [.tup xs] => some xs
  | .seq, [.lst xs] => some xs
  | .seq, [.scr xs] => some (xs.map D.int)
  | .seq, [.str x] => some (x.cps.toList.map fun c => D.str ⟨#[c]⟩)
  | .rng1, [.int n] => if -(2 ^ 62) ≤ n ∧ n < 2 ^ 62 then some ((List.range n.toNat).map fun (i : Nat) => D.int (i : Int)) else none
  | .rng2, [.int a, .int b] => if -(2 ^ 62) ≤ a ∧ a < 2 ^ 62 ∧ -(2 ^ 62) ≤ b ∧ b < 2 ^ 62 then some ((List.range (b - a).toNat).map fun (i : Nat) => D.int (a + (i : Int))) else none
  | .rng3, [.int a, .int b, .int c] => if c = -1 ∧ -(2 ^ 62) ≤ a ∧ a < 2 ^ 62 ∧ -(2 ^ 62) ≤ b ∧ b < 2 ^ 62 then some ((List.range (a - b).toNat).map fun (i : Nat) => D.int (a - (i : Int))) else none
  | .zip, [.lst xs, .lst ys] => some (List.zipWith (fun x y => D.tup [x, y]) xs ys)
  | .zip, [.tup xs, .tup ys] => some (List.zipWith (fun x y => D.tup [x, y]) xs ys)
  | .enum, [.lst xs] => some (List.zipWith (fun (i : Nat) x => D.tup [.int (i : Int), x]) (List.range xs.length) xs)
  | _, _ => none
/-- a shared list's items -/
def drf (h : VH) : D → D
  | .ref n => match h[n]? with
    | some (.lst xs) => .lst xs
    | _ => .ref n
  | d => d
def itemsV (k : Ik) (h : VH) (ds : List D) : Option (List D) := match k with
  | .seqS => itemsD .seq (ds.map (drf h))
  | .zipS => itemsD .zip (ds.map (drf h))
  | k => itemsD k ds
/-- what is gone through stays as it is -/
def stl (k : Ik) (ds : List D) (h0 : VH) : VH → Prop := match k with
  | .seqS => fun h => ∀ n, D.ref n ∈ ds → h[n]? = h0[n]?
  | .zipS => fun h => ∀ n, D.ref n ∈ ds → h[n]? = h0[n]?
  | _ => fun _ => True
def setAllE (env : VE) : List Nat → List D → Option VE
  | [], [] => some env
  | i :: is, d :: ds => setAllE (env.set i (.val d)) is ds
  | _, _ => none
def bindT (tg : Tg) (d : D) (env : VE) : Option VE := match tg, d with
  | .one i, d => some (env.set i (.val d))
  | .many is, .tup ds => setAllE env is ds
  | _, _ => none
def wipeE (env : VE) : List Nat → VE
  | [] => env
  | i :: is => (wipeE env is).set i .no

def noOwn (env : VE) : List Nat → Prop
  | [] => True
  | j :: js => (match env[j]? with
    | some (.own _) => False
    | _ => True) ∧ noOwn env js

/-- a value as it is wanted: itself, or its truth -/
def fin (t : Bool) (x : DV) (env : VE) (vh : VH) (Q : QE) : Prop := match t with
  | false => Q x env vh
  | true => ∃ k, (deref vh x.d).bind truD = some k ∧ Q (.v (.bl k)) env vh
def finB (t : Bool) (b : Bool) (env : VE) (vh : VH) (Q : QE) : Prop := Q (.v (.bl b)) env vh
def ifP (b : Bool) (p q : Prop) : Prop := match b with
  | true => p
  | false => q

/-- a comprehension's turns -/
def lcGo (turn : D → VH → (Option D → VH → Prop) → Prop) : List D → VH → List D → (List D → VH → Prop) → Prop
  | [], h, acc, Q => Q acc h
  | d :: ds, h, acc, Q => turn d h fun o h' => match o with
    | some y => acc.length < 16777216 ∧ lcGo turn ds h' (acc ++ [y]) Q
    | none => lcGo turn ds h' acc Q

/-- an operand: a slot that is read for its items, or a value -/
def asO (e : E) (w : XP → Bool → VE → VH → QE → Prop) (K : XP) (env : VE) (vh : VH) (Q : Op → VE → VH → Prop) : Prop := match e with
  | .bor i => (∃ s, env[i]? = some s ∧ s.ok) ∧ Q (.slt i) env vh
  | _ => w K false env vh fun x e1 h1 => Q (.dat x.d) e1 h1
mutual
/-- what an expression comes to; t: as a test -/
def wpE (Φ : Fns) (Γ : Cns) : E → XP → Bool → VE → VH → QE → Prop
  | .non, K, t, env, vh, Q => fin t (.v .non) env vh Q
  | .bl b, K, t, env, vh, Q => fin t (.v (.bl b)) env vh Q
  | .int i, K, t, env, vh, Q => fin t (.v (.int i)) env vh Q
  | .str x, K, t, env, vh, Q => fin t (.v (.str x)) env vh Q
  | .skip, K, t, env, vh, Q => fin t (.v .non) env vh Q
  | .var i, K, t, env, vh, Q => ∃ s, env[i]? = some s ∧ match s with
    | .no => False
    | .val d => fin t (.v d) env vh Q
    | .own ds => fin t (.v (.lst ds)) (env.set i (.val (.lst ds))) vh Q
  | .bor i, K, true, env, vh, Q => ∃ d k, (Op.slt i).ld env vh = some d ∧ truD d = some k ∧ Q (.v (.bl k)) env vh
  | .bor i, K, false, env, vh, Q => False
  | .glo x, K, t, env, vh, Q => ∃ d, Γ x = some d ∧ fin t (.v d) env vh Q
  | .tup es, K, t, env, vh, Q => wpEs Φ Γ es K env vh fun ds e1 h1 => ds.length ≤ 16777216 ∧ fin t (.v (.tup ds)) e1 h1 Q
  | .lst es, K, t, env, vh, Q => wpEs Φ Γ es K env vh fun ds e1 h1 => ds.length ≤ 16777216 ∧ fin t (.fr ds) e1 h1 Q
  | .bin op a b, K, t, env, vh, Q => asO a (wpE Φ Γ a) K env vh fun x e1 h1 => asO b (wpE Φ Γ b) K e1 h1 fun y e2 h2 => ∃ c d, x.ld e2 h2 = some c ∧ y.ld e2 h2 = some d ∧ wpBin op c d fun z => fin t z e2 h2 Q
  | .neg a, K, t, env, vh, Q => wpE Φ Γ a K false env vh fun x e1 h1 => ∃ i, x = .v (.int i) ∧ fin t (.v (.int (-i))) e1 h1 Q
  | .cmp op a b, K, t, env, vh, Q => asO a (wpE Φ Γ a) K env vh fun x e1 h1 => asO b (wpE Φ Γ b) K e1 h1 fun y e2 h2 => ∃ c d, x.ld e2 h2 = some c ∧ y.ld e2 h2 = some d ∧ wpCmp op c d fun k => Q (.v (.bl k)) e2 h2
  | .chain op op' a b c, K, t, env, vh, Q => asO a (wpE Φ Γ a) K env vh fun x e1 h1 => asO b (wpE Φ Γ b) K e1 h1 fun y e2 h2 => ∃ d e, x.ld e2 h2 = some d ∧ y.ld e2 h2 = some e ∧ wpCmp op d e fun k =>
      ifP k (asO c (wpE Φ Γ c) K e2 h2 fun z e3 h3 => ∃ e f, y.ld e3 h3 = some e ∧ z.ld e3 h3 = some f ∧ wpCmp op' e f fun k => Q (.v (.bl k)) e3 h3) (Q (.v (.bl false)) e2 h2)
  | .and a b, K, true, env, vh, Q => wpE Φ Γ a K true env vh fun x e1 h1 => ∃ k, x = .v (.bl k) ∧ ifP k (wpE Φ Γ b K true e1 h1 Q) (Q (.v (.bl false)) e1 h1)
  | .and a b, K, false, env, vh, Q => wpE Φ Γ a K false env vh fun x e1 h1 => ∃ d k, x = .v d ∧ (deref h1 d).bind truD = some k ∧ ifP k (wpE Φ Γ b K false e1 h1 Q) (Q x e1 h1)
  | .or a b, K, true, env, vh, Q => wpE Φ Γ a K true env vh fun x e1 h1 => ∃ k, x = .v (.bl k) ∧ ifP k (Q (.v (.bl true)) e1 h1) (wpE Φ Γ b K true e1 h1 Q)
  | .or a b, K, false, env, vh, Q => wpE Φ Γ a K false env vh fun x e1 h1 => ∃ d k, x = .v d ∧ (deref h1 d).bind truD = some k ∧ ifP k (Q x e1 h1) (wpE Φ Γ b K false e1 h1 Q)
  | .not a, K, true, env, vh, Q => wpE Φ Γ a K true env vh fun x e1 h1 => ∃ k, x = .v (.bl k) ∧ Q (.v (.bl (!k))) e1 h1
  | .not a, K, false, env, vh, Q => asO a (wpE Φ Γ a) K env vh fun x e1 h1 => ∃ d k, x.ld e1 h1 = some d ∧ truD d = some k ∧ Q (.v (.bl (!k))) e1 h1
  | .ite c a b, K, t, env, vh, Q => wpE Φ Γ c K true env vh fun x e1 h1 => ∃ k, x = .v (.bl k) ∧ ifP k (wpE Φ Γ a K t e1 h1 Q) (wpE Φ Γ b K t e1 h1 Q)
  | .idx a i, K, t, env, vh, Q => asO a (wpE Φ Γ a) K env vh fun x e1 h1 => asO i (wpE Φ Γ i) K e1 h1 fun y e2 h2 => ∃ c d, x.ld e2 h2 = some c ∧ y.ld e2 h2 = some d ∧ wpIdx c d fun z => fin t (.v z) e2 h2 Q
  | .sli a lo hi, K, t, env, vh, Q => asO a (wpE Φ Γ a) K env vh fun x e1 h1 => wpE Φ Γ lo K false e1 h1 fun l e2 h2 => ∃ i, partD l = some i ∧ wpE Φ Γ hi K false e2 h2 fun u e3 h3 =>
      ∃ c j, x.ld e3 h3 = some c ∧ partD u = some j ∧ wpSli c i j fun z => fin t z e3 h3 Q
  | .call f es, K, t, env, vh, Q => wpEs Φ Γ es K env vh fun ds e1 h1 => (Φ f).run ds h1 fun o h2 => match o with
    | .ok x => fin t x e1 h2 Q
    | .exc c fs => K c fs e1 h2
  | .blt f es, K, t, env, vh, Q => wpOs Φ Γ es K env vh fun xs e1 h1 => ∃ ds, ldAll e1 h1 xs = some ds ∧ wpBlt f ds fun z => fin t z e1 h1 Q
  | .isi a tys, K, t, env, vh, Q => asO a (wpE Φ Γ a) K env vh fun x e1 h1 => ∃ d n, x.ld e1 h1 = some d ∧ tyD d = some n ∧ tys.all okTy = true ∧ fin t (.v (.bl (tys.any (isTy n)))) e1 h1 Q
  | .lc elt tg own k es cs, K, t, env, vh, Q => wpEs Φ Γ es K env vh fun ds e1 h1 => ∃ items, itemsV k h1 ds = some items ∧
      noOwn e1 own ∧
      lcGo (fun d h R => stl k ds h1 h ∧ ∃ e2, bindT tg d (wipeE e1 own) = some e2 ∧ wpTs Φ Γ cs e2 h fun b h3 => ifP b (wpE Φ Γ elt (fun _ _ _ _ => False) false e2 h3 fun x e4 h4 => e4 = e2 ∧ R (some x.d) h4) (R none h3)) items h1 [] fun acc h2 => stl k ds h1 h2 ∧ fin t (.fr acc) e1 h2 Q
  | .attr a f, K, t, env, vh, Q => asO a (wpE Φ Γ a) K env vh fun x e1 h1 => ∃ d, x.raw e1 = some d ∧ wpAttr Γ h1 d f fun z => fin t (.v z) e1 h1 Q
  | .dct ks es, K, t, env, vh, Q => wpEs Φ Γ es (fun _ _ _ _ => False) env vh fun ds e1 h1 => (ks.length = ds.length ∧ ks.length ≤ 15 ∧ ks.Nodup) ∧ fin t (.v (.dct ks ds)) e1 h1 Q
  | .fld a f, K, t, env, vh, Q => asO a (wpE Φ Γ a) K env vh fun x e1 h1 => ∃ n c ns xs, x.raw e1 = some (.ref n) ∧ h1[n]? = some (.ins c ns xs) ∧ ∃ y, fldD f ns xs = some y ∧ fin t (.v y) e1 h1 Q
  | .meth a m es, K, t, env, vh, Q => asO a (wpE Φ Γ a) K env vh fun x e1 h1 => ∃ n c ns xs, x.raw e1 = some (.ref n) ∧ h1[n]? = some (.ins c ns xs) ∧ (m ∉ ns ∧ (Φ (mN c m)).ex) ∧ wpEs Φ Γ es K e1 h1 fun ds e2 h2 => (Φ (mN c m)).run (.ref n :: ds) h2 fun o h3 => match o with
    | .ok x => fin t x e2 h3 Q
    | .exc c fs => K c fs e2 h3
  | .mk c es, K, t, env, vh, Q => wpEs Φ Γ es K env vh fun ds e1 h1 => (Φ (mN c "__init__")).run (.ref h1.length :: ds) (h1 ++ [.ins c [] []]) fun o h2 => match o with
    | .ok x => x = .v .non ∧ fin t (.v (.ref h1.length)) e1 h2 Q
    | .exc c fs => K c fs e1 h2
  | .shr a, K, t, env, vh, Q => wpE Φ Γ a K false env vh fun x e1 h1 => ∃ ds, x = .fr ds ∧ fin t (.v (.ref h1.length)) e1 (h1 ++ [.lst ds]) Q
def wpEs (Φ : Fns) (Γ : Cns) : List E → XP → VE → VH → (List D → VE → VH → Prop) → Prop
  | [], K, env, vh, Q => Q [] env vh
  | e :: es, K, env, vh, Q => wpE Φ Γ e K false env vh fun x e1 h1 => wpEs Φ Γ es K e1 h1 fun xs e2 h2 => Q (x.d :: xs) e2 h2
def wpOs (Φ : Fns) (Γ : Cns) : List E → XP → VE → VH → (List Op → VE → VH → Prop) → Prop
  | [], K, env, vh, Q => Q [] env vh
  | e :: es, K, env, vh, Q => asO e (wpE Φ Γ e) K env vh fun x e1 h1 => wpOs Φ Γ es K e1 h1 fun xs e2 h2 => Q (x :: xs) e2 h2
/-- a clause's tests -/
def wpTs (Φ : Fns) (Γ : Cns) : List E → VE → VH → (Bool → VH → Prop) → Prop
  | [], env, vh, Q => Q true vh
  | [c], env, vh, Q => wpE Φ Γ c (fun _ _ _ _ => False) true env vh fun x e1 h1 => e1 = env ∧ ∃ k, x = .v (.bl k) ∧ Q k h1
  | _ :: _ :: _, _, _, _ => False
end

/-! ### monotone -/
section
variable {Φ : Fns} {Γ : Cns}
theorem fin_mono {t : Bool} {x : DV} {env : VE} {vh : VH} {Q Q' : QE} (f : ∀ x e h, Q x e h → Q' x e h) (h : fin t x env vh Q) : fin t x env vh Q' := by
  cases t with
  | false => exact f _ _ _ h
  | true => obtain ⟨k, h1, h2⟩ := h; exact ⟨k, h1, f _ _ _ h2⟩
theorem ifP_mono {b : Bool} {p q p' q' : Prop} (f : p → p') (g : q → q') (h : ifP b p q) : ifP b p' q' := by
  cases b with
  | false => exact g h
  | true => exact f h
theorem wpBin_mono {op : Operator} {a b : D} {Q Q' : DV → Prop} (f : ∀ x, Q x → Q' x) (h : wpBin op a b Q) : wpBin op a b Q' := by
  unfold wpBin at *
  split at h <;> first
    | exact f _ h
    | exact ⟨h.1, f _ h.2⟩
    | exact ⟨h.1, h.2.1, h.2.2.1, f _ h.2.2.2⟩
    | exact h
theorem wpCmp_mono {op : CmpOp} {a b : D} {Q Q' : Bool → Prop} (f : ∀ x, Q x → Q' x) (h : wpCmp op a b Q) : wpCmp op a b Q' := by
  unfold wpCmp at *
  split at h <;> first
    | exact f _ h
    | (obtain ⟨c, h1, h2⟩ := h; exact ⟨c, h1, f _ h2⟩)
    | exact ⟨h.1, h.2.1, f _ h.2.2⟩
    | exact h
theorem wpIdx_mono {a b : D} {Q Q' : D → Prop} (f : ∀ x, Q x → Q' x) (h : wpIdx a b Q) : wpIdx a b Q' := by
  unfold wpIdx at *
  split at h <;> first
    | (obtain ⟨d, h1, h3⟩ := h; exact ⟨d, h1, f _ h3⟩)
    | (obtain ⟨h0, d, h1, h3⟩ := h; exact ⟨h0, d, h1, f _ h3⟩)
    | exact h
theorem wpAttr_mono {vh : VH} {d : D} {g : Str} {Q Q' : D → Prop} (f : ∀ x, Q x → Q' x) (h : wpAttr Γ vh d g Q) : wpAttr Γ vh d g Q' := by
  unfold wpAttr at *
  split at h <;> first
    | (obtain ⟨h0, d, h1, h3⟩ := h; exact ⟨h0, d, h1, f _ h3⟩)
    | exact h
theorem wpSli_mono {a : D} {i j : Option Int} {Q Q' : DV → Prop} (f : ∀ x, Q x → Q' x) (h : wpSli a i j Q) : wpSli a i j Q' := by
  unfold wpSli at *
  split at h <;> first
    | exact f _ h
    | exact h
theorem wpBlt_mono {g : Bf} {ds : List D} {Q Q' : DV → Prop} (f : ∀ x, Q x → Q' x) (h : wpBlt g ds Q) : wpBlt g ds Q' := by
  unfold wpBlt at *
  split at h <;> first
    | exact f _ h
    | exact ⟨h.1, f _ h.2⟩
    | (obtain ⟨j, h1, h3⟩ := h; exact ⟨j, h1, f _ h3⟩)
    | (obtain ⟨j, h1, h3⟩ := h; exact ⟨j, h1, fun a b c => f _ (h3 a b c)⟩)
    | (obtain ⟨j, h1, h2, h3⟩ := h; exact ⟨j, h1, h2, fun a b c => f _ (h3 a b c)⟩)
    | (obtain ⟨j, h1, h2, h3⟩ := h; exact ⟨j, h1, h2, f _ h3⟩)
    | exact h
theorem lcGo_mono {turn turn' : D → VH → (Option D → VH → Prop) → Prop} (ht : ∀ d h R R', (∀ o h, R o h → R' o h) → turn d h R → turn' d h R') :
    ∀ (ds : List D) (h : VH) (acc : List D) (Q Q' : List D → VH → Prop), (∀ a h, Q a h → Q' a h) → lcGo turn ds h acc Q → lcGo turn' ds h acc Q'
  | [], h, acc, Q, Q', f, x => f _ _ x
  | d :: ds, h, acc, Q, Q', f, x => ht d h _ _ (fun o h' y => match o with
    | some z => (show _ ∧ _ from y).imp id (lcGo_mono ht ds h' _ Q Q' f)
    | none => lcGo_mono ht ds h' _ Q Q' f y) x
theorem asO_mono {e : E} {w : XP → Bool → VE → VH → QE → Prop} {K : XP} {env : VE} {vh : VH} {Q Q' : Op → VE → VH → Prop} (hw : ∀ Q Q' : QE, (∀ x e h, Q x e h → Q' x e h) → w K false env vh Q → w K false env vh Q') (f : ∀ x e h, Q x e h → Q' x e h)
    (h : asO e w K env vh Q) : asO e w K env vh Q' := by
  unfold asO at *
  split at h
  · exact ⟨h.1, f _ _ _ h.2⟩
  · exact hw _ _ (fun x e h => f _ _ _) h
mutual
theorem wpE_mono : ∀ (e : E) (K : XP) (t : Bool) (env : VE) (vh : VH) (Q Q' : QE), (∀ x e h, Q x e h → Q' x e h) → wpE Φ Γ e K t env vh Q → wpE Φ Γ e K t env vh Q'
  | .non, K, t, env, vh, Q, Q', f, h => fin_mono f h
  | .bl b, K, t, env, vh, Q, Q', f, h => fin_mono f h
  | .int i, K, t, env, vh, Q, Q', f, h => fin_mono f h
  | .str x, K, t, env, vh, Q, Q', f, h => fin_mono f h
  | .skip, K, t, env, vh, Q, Q', f, h => fin_mono f h
  | .var i, K, t, env, vh, Q, Q', f, h => by
    obtain ⟨s, h1, h2⟩ := h
    refine ⟨s, h1, ?_⟩
    cases s with
    | no => exact h2
    | val d => exact fin_mono f h2
    | own ds => exact fin_mono f h2
  | .bor i, K, true, env, vh, Q, Q', f, h => by
    obtain ⟨d, k, h1, h2, h3⟩ := h
    exact ⟨d, k, h1, h2, f _ _ _ h3⟩
  | .bor i, K, false, env, vh, Q, Q', f, h => h
  | .glo x, K, t, env, vh, Q, Q', f, h => by
    obtain ⟨d, h1, h3⟩ := h
    exact ⟨d, h1, fin_mono f h3⟩
  | .tup es, K, t, env, vh, Q, Q', f, h => wpEs_mono es K env vh _ _ (fun xs e1 h1 h => ⟨h.1, fin_mono f h.2⟩) h
  | .lst es, K, t, env, vh, Q, Q', f, h => wpEs_mono es K env vh _ _ (fun xs e1 h1 h => ⟨h.1, fin_mono f h.2⟩) h
  | .bin op a b, K, t, env, vh, Q, Q', f, h => asO_mono (wpE_mono a K false env vh) (fun x e1 h1 h => asO_mono (wpE_mono b K false e1 h1) (fun y e2 h2 h => by
      obtain ⟨c, d, p, q, r⟩ := h
      exact ⟨c, d, p, q, wpBin_mono (fun _ => fin_mono f) r⟩) h) h
  | .neg a, K, t, env, vh, Q, Q', f, h => wpE_mono a K false env vh _ _ (fun x e1 h1 h => by
      obtain ⟨i, p, r⟩ := h
      exact ⟨i, p, fin_mono f r⟩) h
  | .cmp op a b, K, t, env, vh, Q, Q', f, h => asO_mono (wpE_mono a K false env vh) (fun x e1 h1 h => asO_mono (wpE_mono b K false e1 h1) (fun y e2 h2 h => by
      obtain ⟨c, d, p, q, r⟩ := h
      exact ⟨c, d, p, q, wpCmp_mono (fun _ => f _ _ _) r⟩) h) h
  | .chain op op' a b c, K, t, env, vh, Q, Q', f, h => asO_mono (wpE_mono a K false env vh) (fun x e1 h1 h => asO_mono (wpE_mono b K false e1 h1) (fun y e2 h2 h => by
      obtain ⟨d, e, p, q, r⟩ := h
      exact ⟨d, e, p, q, wpCmp_mono (fun k => ifP_mono (asO_mono (wpE_mono c K false e2 h2) fun z e3 h3 h => by
        obtain ⟨g, i, p, q, r⟩ := h
        exact ⟨g, i, p, q, wpCmp_mono (fun _ => f _ _ _) r⟩) (f _ _ _)) r⟩) h) h
  | .and a b, K, true, env, vh, Q, Q', f, h => wpE_mono a K true env vh _ _ (fun x e1 h1 h => by
      obtain ⟨k, p, r⟩ := h
      exact ⟨k, p, ifP_mono (wpE_mono b K true e1 h1 _ _ f) (f _ _ _) r⟩) h
  | .and a b, K, false, env, vh, Q, Q', f, h => wpE_mono a K false env vh _ _ (fun x e1 h1 h => by
      obtain ⟨d, k, p, q, r⟩ := h
      exact ⟨d, k, p, q, ifP_mono (wpE_mono b K false e1 h1 _ _ f) (f _ _ _) r⟩) h
  | .or a b, K, true, env, vh, Q, Q', f, h => wpE_mono a K true env vh _ _ (fun x e1 h1 h => by
      obtain ⟨k, p, r⟩ := h
      exact ⟨k, p, ifP_mono (f _ _ _) (wpE_mono b K true e1 h1 _ _ f) r⟩) h
  | .or a b, K, false, env, vh, Q, Q', f, h => wpE_mono a K false env vh _ _ (fun x e1 h1 h => by
      obtain ⟨d, k, p, q, r⟩ := h
      exact ⟨d, k, p, q, ifP_mono (f _ _ _) (wpE_mono b K false e1 h1 _ _ f) r⟩) h
  | .not a, K, true, env, vh, Q, Q', f, h => wpE_mono a K true env vh _ _ (fun x e1 h1 h => by
      obtain ⟨k, p, r⟩ := h
      exact ⟨k, p, f _ _ _ r⟩) h
  | .not a, K, false, env, vh, Q, Q', f, h => asO_mono (wpE_mono a K false env vh) (fun x e1 h1 h => by
      obtain ⟨d, k, p, q, r⟩ := h
      exact ⟨d, k, p, q, f _ _ _ r⟩) h
  | .ite c a b, K, t, env, vh, Q, Q', f, h => wpE_mono c K true env vh _ _ (fun x e1 h1 h => by
      obtain ⟨k, p, r⟩ := h
      exact ⟨k, p, ifP_mono (wpE_mono a K t e1 h1 _ _ f) (wpE_mono b K t e1 h1 _ _ f) r⟩) h
  | .idx a i, K, t, env, vh, Q, Q', f, h => asO_mono (wpE_mono a K false env vh) (fun x e1 h1 h => asO_mono (wpE_mono i K false e1 h1) (fun y e2 h2 h => by
      obtain ⟨c, d, p, q, r⟩ := h
      exact ⟨c, d, p, q, wpIdx_mono (fun _ => fin_mono f) r⟩) h) h
  | .sli a lo hi, K, t, env, vh, Q, Q', f, h => asO_mono (wpE_mono a K false env vh) (fun x e1 h1 h => wpE_mono lo K false e1 h1 _ _ (fun y e2 h2 ⟨i, p, h⟩ => ⟨i, p, wpE_mono hi K false e2 h2 _ _ (fun z e3 h3 h => by
      obtain ⟨c, j, p, q, s⟩ := h
      exact ⟨c, j, p, q, wpSli_mono (fun _ => fin_mono f) s⟩) h⟩) h) h
  | .call g es, K, t, env, vh, Q, Q', f, h => wpEs_mono es K env vh _ _ (fun ds e1 h1 h => (Φ g).mono _ _ _ _ (fun o h2 y => match o with
      | .ok x => fin_mono f y
      | .exc c fs => y) h) h
  | .blt g es, K, t, env, vh, Q, Q', f, h => wpOs_mono es K env vh _ _ (fun ds e1 h1 h => by
      obtain ⟨c, p, r⟩ := h
      exact ⟨c, p, wpBlt_mono (fun _ => fin_mono f) r⟩) h
  | .isi a tys, K, t, env, vh, Q, Q', f, h => asO_mono (wpE_mono a K false env vh) (fun x e1 h1 h => by
      obtain ⟨c, d, p, q, o, r⟩ := h
      exact ⟨c, d, p, q, o, fin_mono f r⟩) h
  | .lc elt tg own k es cs, K, t, env, vh, Q, Q', f, h => wpEs_mono es K env vh _ _ (fun ds e1 h1 h => by
      obtain ⟨items, p, z, r⟩ := h
      refine ⟨items, p, z, lcGo_mono (fun d h R R' g y => ?_) _ _ _ _ _ (fun acc h2 h => ⟨h.1, fin_mono f h.2⟩) r⟩
      obtain ⟨st, e2, q, y⟩ := y
      exact ⟨st, e2, q, wpTs_mono cs e2 h _ _ (fun b h3 => ifP_mono (wpE_mono elt _ false e2 h3 _ _ fun x e4 h4 z => ⟨z.1, g _ _ z.2⟩) (g _ _)) y⟩) h
  | .attr a g, K, t, env, vh, Q, Q', f, h => asO_mono (wpE_mono a K false env vh) (fun x e1 h1 h => by
      obtain ⟨d, p, r⟩ := h
      exact ⟨d, p, wpAttr_mono (fun _ => fin_mono f) r⟩) h
  | .dct ks es, K, t, env, vh, Q, Q', f, h => wpEs_mono es _ env vh _ _ (fun xs e1 h1 h => ⟨h.1, fin_mono f h.2⟩) h
  | .fld a g, K, t, env, vh, Q, Q', f, h => asO_mono (wpE_mono a K false env vh) (fun x e1 h1 h => by
      obtain ⟨n, c, ns, xs, p, q, y, r, z⟩ := h
      exact ⟨n, c, ns, xs, p, q, y, r, fin_mono f z⟩) h
  | .meth a m es, K, t, env, vh, Q, Q', f, h => asO_mono (wpE_mono a K false env vh) (fun x e1 h1 h => by
      obtain ⟨n, c, ns, xs, p, q, r, z⟩ := h
      exact ⟨n, c, ns, xs, p, q, r, wpEs_mono es K e1 h1 _ _ (fun ds e2 h2 h => (Φ (mN c m)).mono _ _ _ _ (fun o h3 z => match o, z with
        | .ok x, z => fin_mono f z
        | .exc c fs, z => z) h) z⟩) h
  | .mk c es, K, t, env, vh, Q, Q', f, h => wpEs_mono es K env vh _ _ (fun ds e1 h1 h => (Φ (mN c "__init__")).mono _ _ _ _ (fun o h3 z => match o, z with
        | .ok x, z => ⟨z.1, fin_mono f z.2⟩
        | .exc c fs, z => z) h) h
  | .shr a, K, t, env, vh, Q, Q', f, h => wpE_mono a K false env vh _ _ (fun x e1 h1 h => by
      obtain ⟨ds, p, r⟩ := h
      exact ⟨ds, p, fin_mono f r⟩) h
theorem wpEs_mono : ∀ (es : List E) (K : XP) (env : VE) (vh : VH) (Q Q' : List D → VE → VH → Prop), (∀ x e h, Q x e h → Q' x e h) → wpEs Φ Γ es K env vh Q → wpEs Φ Γ es K env vh Q'
  | [], K, env, vh, Q, Q', f, h => f _ _ _ h
  | e :: es, K, env, vh, Q, Q', f, h => wpE_mono e K false env vh _ _ (fun x e1 h1 h => wpEs_mono es K e1 h1 _ _ (fun xs e2 h2 => f _ _ _) h) h
theorem wpOs_mono : ∀ (es : List E) (K : XP) (env : VE) (vh : VH) (Q Q' : List Op → VE → VH → Prop), (∀ x e h, Q x e h → Q' x e h) → wpOs Φ Γ es K env vh Q → wpOs Φ Γ es K env vh Q'
  | [], K, env, vh, Q, Q', f, h => f _ _ _ h
  | e :: es, K, env, vh, Q, Q', f, h => asO_mono (wpE_mono e K false env vh) (fun x e1 h1 h => wpOs_mono es K e1 h1 _ _ (fun xs e2 h2 => f _ _ _) h) h
theorem wpTs_mono : ∀ (es : List E) (env : VE) (vh : VH) (Q Q' : Bool → VH → Prop), (∀ b h, Q b h → Q' b h) → wpTs Φ Γ es env vh Q → wpTs Φ Γ es env vh Q'
  | [], env, vh, Q, Q', f, h => f _ _ h
  | [c], env, vh, Q, Q', f, h => wpE_mono c _ true env vh _ _ (fun x e1 h1 h => by
      obtain ⟨q, k, p, r⟩ := h
      exact ⟨q, k, p, f _ _ r⟩) h
  | _ :: _ :: _, env, vh, Q, Q', f, h => h
end
def KLe (K K' : XP) : Prop := ∀ c xs e h, K c xs e h → K' c xs e h
theorem asO_monoK {e : E} {w : XP → Bool → VE → VH → QE → Prop} {K K' : XP} {env : VE} {vh : VH} {Q Q' : Op → VE → VH → Prop} (hw : ∀ Q Q' : QE, (∀ x e h, Q x e h → Q' x e h) → w K false env vh Q → w K' false env vh Q') (f : ∀ x e h, Q x e h → Q' x e h)
    (h : asO e w K env vh Q) : asO e w K' env vh Q' := by
  unfold asO at *
  split at h
  · exact ⟨h.1, f _ _ _ h.2⟩
  · exact hw _ _ (fun x e h => f _ _ _) h
mutual
theorem wpE_monoK : ∀ (e : E) (K K' : XP) (t : Bool) (env : VE) (vh : VH) (Q Q' : QE), KLe K K' → (∀ x e h, Q x e h → Q' x e h) → wpE Φ Γ e K t env vh Q → wpE Φ Γ e K' t env vh Q'
  | .non, K, K', t, env, vh, Q, Q', l, f, h => fin_mono f h
  | .bl b, K, K', t, env, vh, Q, Q', l, f, h => fin_mono f h
  | .int i, K, K', t, env, vh, Q, Q', l, f, h => fin_mono f h
  | .str x, K, K', t, env, vh, Q, Q', l, f, h => fin_mono f h
  | .skip, K, K', t, env, vh, Q, Q', l, f, h => fin_mono f h
  | .var i, K, K', t, env, vh, Q, Q', l, f, h => by
    obtain ⟨s, h1, h2⟩ := h
    refine ⟨s, h1, ?_⟩
    cases s with
    | no => exact h2
    | val d => exact fin_mono f h2
    | own ds => exact fin_mono f h2
  | .bor i, K, K', true, env, vh, Q, Q', l, f, h => by
    obtain ⟨d, k, h1, h2, h3⟩ := h
    exact ⟨d, k, h1, h2, f _ _ _ h3⟩
  | .bor i, K, K', false, env, vh, Q, Q', l, f, h => h
  | .glo x, K, K', t, env, vh, Q, Q', l, f, h => by
    obtain ⟨d, h1, h3⟩ := h
    exact ⟨d, h1, fin_mono f h3⟩
  | .tup es, K, K', t, env, vh, Q, Q', l, f, h => wpEs_monoK es K K' env vh _ _ l (fun xs e1 h1 h => ⟨h.1, fin_mono f h.2⟩) h
  | .lst es, K, K', t, env, vh, Q, Q', l, f, h => wpEs_monoK es K K' env vh _ _ l (fun xs e1 h1 h => ⟨h.1, fin_mono f h.2⟩) h
  | .bin op a b, K, K', t, env, vh, Q, Q', l, f, h => asO_monoK (fun Q Q' f => wpE_monoK a K K' false env vh Q Q' l f) (fun x e1 h1 h => asO_monoK (fun Q Q' f => wpE_monoK b K K' false e1 h1 Q Q' l f) (fun y e2 h2 h => by
      obtain ⟨c, d, p, q, r⟩ := h
      exact ⟨c, d, p, q, wpBin_mono (fun _ => fin_mono f) r⟩) h) h
  | .neg a, K, K', t, env, vh, Q, Q', l, f, h => wpE_monoK a K K' false env vh _ _ l (fun x e1 h1 h => by
      obtain ⟨i, p, r⟩ := h
      exact ⟨i, p, fin_mono f r⟩) h
  | .cmp op a b, K, K', t, env, vh, Q, Q', l, f, h => asO_monoK (fun Q Q' f => wpE_monoK a K K' false env vh Q Q' l f) (fun x e1 h1 h => asO_monoK (fun Q Q' f => wpE_monoK b K K' false e1 h1 Q Q' l f) (fun y e2 h2 h => by
      obtain ⟨c, d, p, q, r⟩ := h
      exact ⟨c, d, p, q, wpCmp_mono (fun _ => f _ _ _) r⟩) h) h
  | .chain op op' a b c, K, K', t, env, vh, Q, Q', l, f, h => asO_monoK (fun Q Q' f => wpE_monoK a K K' false env vh Q Q' l f) (fun x e1 h1 h => asO_monoK (fun Q Q' f => wpE_monoK b K K' false e1 h1 Q Q' l f) (fun y e2 h2 h => by
      obtain ⟨d, e, p, q, r⟩ := h
      exact ⟨d, e, p, q, wpCmp_mono (fun k => ifP_mono (asO_monoK (fun Q Q' f => wpE_monoK c K K' false e2 h2 Q Q' l f) fun z e3 h3 h => by
        obtain ⟨g, i, p, q, r⟩ := h
        exact ⟨g, i, p, q, wpCmp_mono (fun _ => f _ _ _) r⟩) (f _ _ _)) r⟩) h) h
  | .and a b, K, K', true, env, vh, Q, Q', l, f, h => wpE_monoK a K K' true env vh _ _ l (fun x e1 h1 h => by
      obtain ⟨k, p, r⟩ := h
      exact ⟨k, p, ifP_mono (wpE_monoK b K K' true e1 h1 _ _ l f) (f _ _ _) r⟩) h
  | .and a b, K, K', false, env, vh, Q, Q', l, f, h => wpE_monoK a K K' false env vh _ _ l (fun x e1 h1 h => by
      obtain ⟨d, k, p, q, r⟩ := h
      exact ⟨d, k, p, q, ifP_mono (wpE_monoK b K K' false e1 h1 _ _ l f) (f _ _ _) r⟩) h
  | .or a b, K, K', true, env, vh, Q, Q', l, f, h => wpE_monoK a K K' true env vh _ _ l (fun x e1 h1 h => by
      obtain ⟨k, p, r⟩ := h
      exact ⟨k, p, ifP_mono (f _ _ _) (wpE_monoK b K K' true e1 h1 _ _ l f) r⟩) h
  | .or a b, K, K', false, env, vh, Q, Q', l, f, h => wpE_monoK a K K' false env vh _ _ l (fun x e1 h1 h => by
      obtain ⟨d, k, p, q, r⟩ := h
      exact ⟨d, k, p, q, ifP_mono (f _ _ _) (wpE_monoK b K K' false e1 h1 _ _ l f) r⟩) h
  | .not a, K, K', true, env, vh, Q, Q', l, f, h => wpE_monoK a K K' true env vh _ _ l (fun x e1 h1 h => by
      obtain ⟨k, p, r⟩ := h
      exact ⟨k, p, f _ _ _ r⟩) h
  | .not a, K, K', false, env, vh, Q, Q', l, f, h => asO_monoK (fun Q Q' f => wpE_monoK a K K' false env vh Q Q' l f) (fun x e1 h1 h => by
      obtain ⟨d, k, p, q, r⟩ := h
      exact ⟨d, k, p, q, f _ _ _ r⟩) h
  | .ite c a b, K, K', t, env, vh, Q, Q', l, f, h => wpE_monoK c K K' true env vh _ _ l (fun x e1 h1 h => by
      obtain ⟨k, p, r⟩ := h
      exact ⟨k, p, ifP_mono (wpE_monoK a K K' t e1 h1 _ _ l f) (wpE_monoK b K K' t e1 h1 _ _ l f) r⟩) h
  | .idx a i, K, K', t, env, vh, Q, Q', l, f, h => asO_monoK (fun Q Q' f => wpE_monoK a K K' false env vh Q Q' l f) (fun x e1 h1 h => asO_monoK (fun Q Q' f => wpE_monoK i K K' false e1 h1 Q Q' l f) (fun y e2 h2 h => by
      obtain ⟨c, d, p, q, r⟩ := h
      exact ⟨c, d, p, q, wpIdx_mono (fun _ => fin_mono f) r⟩) h) h
  | .sli a lo hi, K, K', t, env, vh, Q, Q', l, f, h => asO_monoK (fun Q Q' f => wpE_monoK a K K' false env vh Q Q' l f) (fun x e1 h1 h => wpE_monoK lo K K' false e1 h1 _ _ l (fun y e2 h2 ⟨i, p, h⟩ => ⟨i, p, wpE_monoK hi K K' false e2 h2 _ _ l (fun z e3 h3 h => by
      obtain ⟨c, j, p, q, s⟩ := h
      exact ⟨c, j, p, q, wpSli_mono (fun _ => fin_mono f) s⟩) h⟩) h) h
  | .call g es, K, K', t, env, vh, Q, Q', l, f, h => wpEs_monoK es K K' env vh _ _ l (fun ds e1 h1 h => (Φ g).mono _ _ _ _ (fun o h2 y => match o with
      | .ok x => fin_mono f y
      | .exc c fs => l _ _ _ _ y) h) h
  | .blt g es, K, K', t, env, vh, Q, Q', l, f, h => wpOs_monoK es K K' env vh _ _ l (fun ds e1 h1 h => by
      obtain ⟨c, p, r⟩ := h
      exact ⟨c, p, wpBlt_mono (fun _ => fin_mono f) r⟩) h
  | .isi a tys, K, K', t, env, vh, Q, Q', l, f, h => asO_monoK (fun Q Q' f => wpE_monoK a K K' false env vh Q Q' l f) (fun x e1 h1 h => by
      obtain ⟨c, d, p, q, o, r⟩ := h
      exact ⟨c, d, p, q, o, fin_mono f r⟩) h
  | .lc elt tg own k es cs, K, K', t, env, vh, Q, Q', l, f, h => wpEs_monoK es K K' env vh _ _ l (fun ds e1 h1 h => by
      obtain ⟨items, p, z, r⟩ := h
      refine ⟨items, p, z, lcGo_mono (fun d h R R' g y => ?_) _ _ _ _ _ (fun acc h2 h => ⟨h.1, fin_mono f h.2⟩) r⟩
      obtain ⟨st, e2, q, y⟩ := y
      exact ⟨st, e2, q, wpTs_mono cs e2 h _ _ (fun b h3 => ifP_mono (wpE_mono elt _ false e2 h3 _ _ fun x e4 h4 z => ⟨z.1, g _ _ z.2⟩) (g _ _)) y⟩) h
  | .attr a g, K, K', t, env, vh, Q, Q', l, f, h => asO_monoK (fun Q Q' f => wpE_monoK a K K' false env vh Q Q' l f) (fun x e1 h1 h => by
      obtain ⟨d, p, r⟩ := h
      exact ⟨d, p, wpAttr_mono (fun _ => fin_mono f) r⟩) h
  | .dct ks es, K, K', t, env, vh, Q, Q', l, f, h => wpEs_mono es _ env vh _ _ (fun xs e1 h1 h => ⟨h.1, fin_mono f h.2⟩) h
  | .fld a g, K, K', t, env, vh, Q, Q', l, f, h => asO_monoK (fun Q Q' f => wpE_monoK a K K' false env vh Q Q' l f) (fun x e1 h1 h => by
      obtain ⟨n, c, ns, xs, p, q, y, r, z⟩ := h
      exact ⟨n, c, ns, xs, p, q, y, r, fin_mono f z⟩) h
  | .meth a m es, K, K', t, env, vh, Q, Q', l, f, h => asO_monoK (fun Q Q' f => wpE_monoK a K K' false env vh Q Q' l f) (fun x e1 h1 h => by
      obtain ⟨n, c, ns, xs, p, q, r, z⟩ := h
      exact ⟨n, c, ns, xs, p, q, r, wpEs_monoK es K K' e1 h1 _ _ l (fun ds e2 h2 h => (Φ (mN c m)).mono _ _ _ _ (fun o h3 z => match o, z with
        | .ok x, z => fin_mono f z
        | .exc c fs, z => l _ _ _ _ z) h) z⟩) h
  | .mk c es, K, K', t, env, vh, Q, Q', l, f, h => wpEs_monoK es K K' env vh _ _ l (fun ds e1 h1 h => (Φ (mN c "__init__")).mono _ _ _ _ (fun o h3 z => match o, z with
        | .ok x, z => ⟨z.1, fin_mono f z.2⟩
        | .exc c fs, z => l _ _ _ _ z) h) h
  | .shr a, K, K', t, env, vh, Q, Q', l, f, h => wpE_monoK a K K' false env vh _ _ l (fun x e1 h1 h => by
      obtain ⟨ds, p, r⟩ := h
      exact ⟨ds, p, fin_mono f r⟩) h
theorem wpEs_monoK : ∀ (es : List E) (K K' : XP) (env : VE) (vh : VH) (Q Q' : List D → VE → VH → Prop), KLe K K' → (∀ x e h, Q x e h → Q' x e h) → wpEs Φ Γ es K env vh Q → wpEs Φ Γ es K' env vh Q'
  | [], K, K', env, vh, Q, Q', l, f, h => f _ _ _ h
  | e :: es, K, K', env, vh, Q, Q', l, f, h => wpE_monoK e K K' false env vh _ _ l (fun x e1 h1 h => wpEs_monoK es K K' e1 h1 _ _ l (fun xs e2 h2 => f _ _ _) h) h
theorem wpOs_monoK : ∀ (es : List E) (K K' : XP) (env : VE) (vh : VH) (Q Q' : List Op → VE → VH → Prop), KLe K K' → (∀ x e h, Q x e h → Q' x e h) → wpOs Φ Γ es K env vh Q → wpOs Φ Γ es K' env vh Q'
  | [], K, K', env, vh, Q, Q', l, f, h => f _ _ _ h
  | e :: es, K, K', env, vh, Q, Q', l, f, h => asO_monoK (fun Q Q' f => wpE_monoK e K K' false env vh Q Q' l f) (fun x e1 h1 h => wpOs_monoK es K K' e1 h1 _ _ l (fun xs e2 h2 => f _ _ _) h) h
end
end
end R

set_option autoImplicit false
namespace R
open PySem PySem.Spec PyProof.Rows L2
open PySem.SeqAt
open PySem.AutoSeq1 (wpAny_loadPart')
open PySem.MeetsSeq PySem.MeetsSeq2 PySem.MeetsSeq3
theorem tuple_mul1 (l : Addr) (items : Array Value) (n : Nat) (dd : Option Addr) (sl : Array (Option Value)) (x : Int) (u : Tok) (c0 : (decide (x < -(2 ^ 63)) || decide (x ≥ 2 ^ 63)) = false) (c1 : (items.isEmpty || x == 1) = true) :
    Meets (Builtin.«tuple.__mul__» ⟨[.ref l, .int x u], []⟩) (fun _ R s => s.heap.get? l = some { cls := .type "tuple", dict := dd, data := .seq items n, slots := sl } ∧
      R (.ok (.ret (Value.ref l))) s) :=
  .of_wp fun prog w A R s h => by
    obtain ⟨hp, g, d, tk, os⟩ := s
    obtain ⟨hl, h⟩ := h
    have f1 := AutoSeq1.idx_int
    wp_walk using wpAny_loadPart' hl
    repeat (first
      | (refine wpAny_ite_false (decide_eq_false (by rw [c0]; exact Bool.false_ne_true)) ?_; wp_walk using wpAny_loadPart' hl)
      | (refine wpAny_ite_true (decide_eq_true c1) ?_; wp_walk using wpAny_loadPart' hl))
    exact ⟨_, rfl, h⟩

theorem list_extend_tup (l : Addr) (items : Array Value) (n : Nat) (b : Addr) (items2 : Array Value) (n2 : Nat) (dd : Option Addr) (sl : Array (Option Value)) (h0 : ¬(!items.isEmpty && Builtin.List.listTooLong (items.size + items2.size)) = true) (h1 : items.size ≤ sizeLine) (h2 : items.size + items2.size ≤ sizeLine + 1) :
    Meets (Builtin.«list.extend» ⟨[.ref l, .ref b], []⟩) (fun _ R s => s.heap.get? l = some { cls := .type "list", data := .seq items n } ∧ s.heap.get? b = some { cls := .type "tuple", dict := dd, data := .seq items2 n2, slots := sl } ∧
      R (.ok (.ret Value.none)) { s with heap := s.heap.update l (Obj.mapSeq fun x => x ++ items2), toks := s.toks }) :=
  .of_wp fun prog w A R s h => by
    obtain ⟨hp, g, d, tk, os⟩ := s
    obtain ⟨hl, hb, h⟩ := h
    have f1 := AutoSeq1.idx_int
    have f2 := AutoSeq1.sub_tuple_tuple
    have f5 := AutoSeq1.sub_list_tuple
    have f3 := AutoSeq1.sub_list_list
    have f4 := AutoSeq1.sub_tuple_list
    have hz : (items ++ items2).size ≤ sizeLine + 1 := by rw [Array.size_append]; exact h2
    wp_walk using (wpAny_updateSeq hl rfl (hz := h1) (_hz' := hz)), wpAny_loadPart' hl, wpAny_loadPart' hb
    exact ⟨_, rfl, h⟩

theorem tuple_mul0 (l : Addr) (items : Array Value) (n : Nat) (dd : Option Addr) (sl : Array (Option Value)) (x : Int) (u : Tok) (c0 : (decide (x < -(2 ^ 63)) || decide (x ≥ 2 ^ 63)) = false) (c1 : (items.isEmpty || x == 1) = false) (c2 : (decide (x ≤ 0) || items.isEmpty) = true) :
    Meets (Builtin.«tuple.__mul__» ⟨[.ref l, .int x u], []⟩) (fun _ R s => s.heap.get? l = some { cls := .type "tuple", dict := dd, data := .seq items n, slots := sl } ∧
      R (.ok (.ret (Value.ref s.heap.objs.size))) { s with heap := s.heap.push { cls := Value.type "tuple", data := Data.seq #[] }, toks := s.toks }) :=
  .of_wp fun prog w A R s h => by
    obtain ⟨hp, g, d, tk, os⟩ := s
    obtain ⟨hl, h⟩ := h
    have f1 := AutoSeq1.idx_int
    wp_walk using wpAny_loadPart' hl
    repeat (first
      | (refine wpAny_ite_false (decide_eq_false (by rw [c0]; exact Bool.false_ne_true)) ?_; wp_walk using wpAny_loadPart' hl)
      | (refine wpAny_ite_false (decide_eq_false (by rw [c1]; exact Bool.false_ne_true)) ?_; wp_walk using wpAny_loadPart' hl)
      | (refine wpAny_ite_true (decide_eq_true c2) ?_; wp_walk using wpAny_loadPart' hl))
    exact ⟨_, rfl, h⟩
def rRepA (K : PySem.W.Frag) : R2 := fun x y H Q => ∃ l k xs, x = .ref l ∧ y = .int k ∧ SqT K H l xs ∧ -1000 ≤ k ∧ k ≤ 1000 ∧ xs.length ≤ 1000 ∧ (xs = [] ∨ k = 1 → Q (.ref l) H) ∧ (xs ≠ [] → k ≠ 1 → ∀ p, H p = none → Q (.ref p) (upd H p (.tup (List.replicate k.toNat xs).flatten)))
theorem op_repA {X : Cx} : OpR X (binaryOp .Mult) (rRepA X.K) := by
  intro pins s σ H x y v u Q I rx ry h
  obtain ⟨l, k, xs, rfl, rfl, hT, h1, h2, hz, q1, q2⟩ := h
  by_cases hs : xs = [] ∨ k = 1
  · cases rx
    obtain ⟨t, rfl⟩ := ry
    obtain ⟨its, r, ⟨⟨cls, dd, data, sl⟩, ho, hc, n, hd⟩, hzz⟩ := I.tuple hT
    simp only at hc hd
    subst hc hd
    have c0 : (decide (k < -(2 ^ 63)) || decide (k ≥ 2 ^ 63)) = false := by
      rw [decide_eq_false (by omega), decide_eq_false (by omega)] <;> rfl
    have c1 : (its.toArray.isEmpty || k == 1) = true := by
      rcases hs with e | e
      · subst e
        cases r
        rfl
      · rw [e]; simp
    refine wpAny_binaryOp_repeat_ref (T := "tuple") (U := "int") (by decide) ⟨_, ho, rfl⟩ (fun s' => typeIs_int s' k t) noFill_tuple_mul F.fills_int_mul F.slot_int_rmul repeat_tuple F.slot_int_index.lookup
      (call_meets F.slot_int_rmul (typeIs_int s k t) F.entry_int_rmul (F.args_int_rmul_2 _ _) (int_rmul_tuple k t l its.toArray n dd sl)
        ⟨ho, rfl, ⟨_, ho, rfl⟩, call_meets F.slot_tuple_mul ⟨_, ho, rfl⟩ F.entry_tuple_mul (F.args_tuple_mul_2 _ _) (tuple_mul1 l its.toArray n dd sl k t c0 c1) ⟨ho, ?_⟩⟩)
    exact ⟨.ref l, H, I, rfl, q1 hs⟩
  · have n1 : xs ≠ [] := fun e => hs (.inl e)
    have n3 : k ≠ 1 := fun e => hs (.inr e)
    by_cases n2 : 2 ≤ k
    · exact op_repT pins s σ H _ _ v u Q I rx ry ⟨l, k, xs, rfl, rfl, hT, n1, n2, h2, hz, q2 n1 n3⟩
    · have k0 : k ≤ 0 := by omega
      have q := q2 n1 n3
      rw [show k.toNat = 0 by omega] at q
      cases rx
      obtain ⟨t, rfl⟩ := ry
      obtain ⟨its, r, ⟨⟨cls, dd, data, sl⟩, ho, hc, n, hd⟩, hzz⟩ := I.tuple hT
      simp only at hc hd
      subst hc hd
      have hle : its.length = xs.length := r.length.symm
      have hn : its ≠ [] := fun e => n1 (by
        rw [e] at hle
        exact List.eq_nil_of_length_eq_zero hle.symm)
      have hi : its.toArray.isEmpty = false := by
        cases its with
        | nil => exact absurd rfl hn
        | cons a b => rfl
      have c0 : (decide (k < -(2 ^ 63)) || decide (k ≥ 2 ^ 63)) = false := by
        rw [decide_eq_false (by omega), decide_eq_false (by omega)] <;> rfl
      have c1 : (its.toArray.isEmpty || k == 1) = false := by
        rw [hi, Bool.false_or]
        exact beq_eq_false_iff_ne.mpr (by omega)
      have c2 : (decide (k ≤ 0) || its.toArray.isEmpty) = true := by
        rw [decide_eq_true k0]
        rfl
      refine wpAny_binaryOp_repeat_ref (T := "tuple") (U := "int") (by decide) ⟨_, ho, rfl⟩ (fun s' => typeIs_int s' k t) noFill_tuple_mul F.fills_int_mul F.slot_int_rmul repeat_tuple F.slot_int_index.lookup
        (call_meets F.slot_int_rmul (typeIs_int s k t) F.entry_int_rmul (F.args_int_rmul_2 _ _) (int_rmul_tuple k t l its.toArray n dd sl)
          ⟨ho, rfl, ⟨_, ho, rfl⟩, call_meets F.slot_tuple_mul ⟨_, ho, rfl⟩ F.entry_tuple_mul (F.args_tuple_mul_2 _ _) (tuple_mul0 l its.toArray n dd sl k t c0 c1 c2) ⟨ho, ?_⟩⟩)
      refine ⟨.ref s.heap.objs.size, _, I.laid (t' := s.toks) (o := .tup []) (fun b ob q => Heap.get?_push_of_some _ q) (Nat.le_refl _) ?_, rfl, q _ (I.hok.fresh (Nat.le_refl _))⟩
      exact ⟨Nat.zero_le _, _, .nil, IsTup.new _ _⟩

/-! ### what operations on data give -/
/-- read for its items alone -/
def RW (G : Wd) (Z : Addr → Prop) (ρ : List Addr) (H : Hp) : D → V → Prop
  | .lst xs, v => ∃ a vs, v = .ref a ∧ H a = some (.lst vs) ∧ RDs G Z ρ H xs vs
  | .dct ks xs, v => ∃ a ws vs, v = .ref a ∧ H a = some (.dK ws) ∧ ws.map (·.1) = ks ∧ ws.map (·.2) = vs ∧ RDs G Z ρ H xs vs
  | d, v => RD G Z ρ H d v
theorem RD.w {G : Wd} {Z : Addr → Prop} {ρ : List Addr} {H : Hp} : ∀ {d : D} {v : V}, RD G Z ρ H d v → RW G Z ρ H d v
  | .lst xs, v, h => by obtain ⟨a, vs, e, _, h1, h2⟩ := h; exact ⟨a, vs, e, h1, h2⟩
  | .dct ks xs, v, h => by obtain ⟨a, ws, vs, e, _, h1, e1, e2, h2⟩ := h; exact ⟨a, ws, vs, e, h1, e1, e2, h2⟩
  | .non, _, h => h
  | .bl _, _, h => h
  | .int _, _, h => h
  | .str _, _, h => h
  | .ty _, _, h => h
  | .adr _, _, h => h
  | .tup _, _, h => h
  | .obj _ _ _, _, h => h
  | .ref _, _, h => h
  | .scr _, _, h => h
/-- a new value -/
def OutV (G : Wd) (Z : Addr → Prop) (ρ : List Addr) (H : Hp) (z : DV) (v : V) (H' : Hp) : Prop := match z with
  | .v d => Same H H' ∧ RD G Z ρ H' d v
  | .fr ds => ∃ p vs, v = .ref p ∧ H p = none ∧ H' = upd H p (.lst vs) ∧ RDs G Z ρ H ds vs
section
variable {X : Cx} {G : Wd} {Z : Addr → Prop} {ρ : List Addr}
theorem out_flat {H : Hp} {d : D} {v : V} {Q : VK} (q : ∀ v H', OutV G Z ρ H (.v d) v H' → Q v H') (h : RD G Z ρ H d v) : Q v H := q v H ⟨Same.refl H, h⟩
theorem out_tup {H : Hp} {p : Addr} {ds : List D} {vs : List V} (hp : H p = none) (h : RDs G Z ρ H ds vs) : OutV G Z ρ H (.v (.tup ds)) (.ref p) (upd H p (.tup vs)) := by
  have s := same_new (o := .tup vs) hp
  exact ⟨s, p, vs, rfl, .of upd_same, RDs.move (Mv.same s) _ _ h⟩
theorem out_lst {H : Hp} {p : Addr} {ds : List D} {vs : List V} (hp : H p = none) (h : RDs G Z ρ H ds vs) : OutV G Z ρ H (.fr ds) (.ref p) (upd H p (.lst vs)) := ⟨p, vs, rfl, hp, rfl, h⟩
theorem flat_nil {H : Hp} {ds : List D} {vs : List V} (h : RDs G Z ρ H ds vs) : vs = [] ↔ ds = [] := by
  have := h.length
  constructor
  · intro e; subst e; exact List.eq_nil_of_length_eq_zero this
  · intro e; subst e; exact List.eq_nil_of_length_eq_zero this.symm
theorem RDs.rep {H : Hp} {ds : List D} {vs : List V} (h : RDs G Z ρ H ds vs) : ∀ n : Nat, RDs G Z ρ H (List.replicate n ds).flatten (List.replicate n vs).flatten
  | 0 => rfl
  | n + 1 => by
    rw [List.replicate_succ, List.replicate_succ, List.flatten_cons, List.flatten_cons]
    exact h.append (RDs.rep h n)
theorem op_bin (hK : X.K = G.K) {op : Operator} : OpR X (binaryOp op) (fun x y H Q => ∃ Z ρ c d, RW G Z ρ H c x ∧ RW G Z ρ H d y ∧ wpBin op c d fun z => ∀ v H', OutV G Z ρ H z v H' → Q v H') := by
  rintro pins s σ H x y v u Q I rx ry ⟨Z, ρ, c, d, hc, hd, q⟩
  unfold wpBin at q
  split at q
  · cases (show x = _ from hc); cases (show y = _ from hd)
    exact op_add pins s σ H _ _ v u Q I rx ry ⟨_, _, rfl, rfl, out_flat q rfl⟩
  · cases (show x = _ from hc); cases (show y = _ from hd)
    exact op_add_str pins s σ H _ _ v u Q I rx ry ⟨_, _, rfl, rfl, by rw [sizeLine_eq]; exact q.1, out_flat q.2 rfl⟩
  · obtain ⟨a, vs, rfl, h1, h2⟩ := hc
    obtain ⟨b, ws, rfl, h3, h4⟩ := hd
    obtain ⟨hz, q⟩ := q
    refine op_catA pins s σ H _ _ v u Q I rx ry ⟨a, b, vs, ws, rfl, rfl, by rw [hK]; exact h1, by rw [hK]; exact h3, by rw [sizeLine_eq, ← h2.length, ← h4.length]; exact hz, fun e => ?_, fun _ e => ?_, fun _ _ p hp => ?_⟩
    · rw [(flat_nil h2).mp e] at q
      exact out_flat q ⟨b, ws, rfl, h3, h4⟩
    · rw [(flat_nil h4).mp e] at q
      exact out_flat q ⟨a, vs, rfl, h1, by rw [List.append_nil]; exact h2⟩
    · exact q _ _ (out_tup hp (h2.append h4))
  · obtain ⟨a, vs, rfl, h1, h2⟩ := hc
    obtain ⟨b, ws, rfl, h3, h4⟩ := hd
    exact op_cat pins s σ H _ _ v u Q I rx ry ⟨a, b, vs, ws, rfl, rfl, h1, h3, by rw [sizeLine_eq, ← h2.length, ← h4.length]; exact q.1, fun p hp => q.2 _ _ (out_lst hp (h2.append h4))⟩
  · cases (show x = _ from hc); cases (show y = _ from hd)
    exact op_sub pins s σ H _ _ v u Q I rx ry ⟨_, _, rfl, rfl, out_flat q rfl⟩
  · cases (show x = _ from hc); cases (show y = _ from hd)
    rcases q.1 with w | w | w
    · exact op_mul pins s σ H _ _ v u Q I rx ry ⟨_, _, rfl, rfl, .inl w, out_flat q.2 rfl⟩
    · exact op_mul pins s σ H _ _ v u Q I rx ry ⟨_, _, rfl, rfl, .inr w, out_flat q.2 rfl⟩
    · exact op_mulW pins s σ H _ _ v u Q I rx ry ⟨_, _, rfl, rfl, w, out_flat q.2 rfl⟩
  · cases (show x = _ from hc); cases (show y = _ from hd)
    obtain ⟨t, rfl⟩ := rx
    obtain ⟨t2, rfl⟩ := ry
    exact SB.mul q.1 fun t' k => ⟨.str _, H, I.tok _, ⟨_, rfl⟩, out_flat q.2 rfl⟩
  · obtain ⟨a, vs, rfl, h1, h2⟩ := hc
    cases (show y = _ from hd)
    obtain ⟨k0, k1, kz, q⟩ := q
    refine op_repA pins s σ H _ _ v u Q I rx ry ⟨a, _, vs, rfl, rfl, by rw [hK]; exact h1, k0, k1, by rw [← h2.length]; exact kz, fun e => ?_, fun _ _ p hp => ?_⟩
    · refine out_flat q ⟨a, vs, rfl, h1, ?_⟩
      rcases e with e | e
      · subst e
        have e0 := (flat_nil h2).mp rfl
        subst e0
        rw [show (List.replicate (Int.toNat _) ([] : List D)).flatten = [] from by simp]
        exact rfl
      · subst e
        simpa using h2
    · exact q _ _ (out_tup hp (h2.rep _))
  · obtain ⟨a, vs, rfl, h1, h2⟩ := hc
    cases (show y = _ from hd)
    obtain ⟨⟨k0, k1, kz⟩, q⟩ := q
    exact op_rep pins s σ H _ _ v u Q I rx ry ⟨a, _, vs, rfl, rfl, h1, by omega, by omega, by rw [sizeLine_eq, ← h2.length]; exact kz, fun p hp => q _ _ (out_lst hp (h2.rep _))⟩
  · cases (show x = _ from hc); cases (show y = _ from hd)
    exact op_fdivW pins s σ H _ _ v u Q I rx ry ⟨_, _, rfl, rfl, q.1, out_flat q.2 rfl⟩
  · cases (show x = _ from hc); cases (show y = _ from hd)
    exact op_mod pins s σ H _ _ v u Q I rx ry ⟨_, _, rfl, rfl, q.1, out_flat q.2 rfl⟩
  · cases (show x = _ from hc); cases (show y = _ from hd)
    exact op_pow pins s σ H _ _ v u Q I rx ry ⟨_, _, rfl, rfl, q.1, out_flat q.2 rfl⟩
  · exact q.elim

/-! ### equality -/
mutual
def toP : D → PyData
  | .bl b => .bool b
  | .int i => .int i
  | .str x => .str x
  | .lst xs => .list (toPs xs)
  | .tup xs => .tuple (toPs xs)
  | _ => .none
def toPs : List D → List PyData
  | [] => []
  | x :: xs => toP x :: toPs xs
end
mutual
theorem okD_lay : ∀ (n : Nat) (d : D), okD n d = true → (toP d).canLay0 = true ∧ (toP d).depth ≤ n
  | n, .non, h => ⟨by simp only [toP, PyData.canLay0], by simp only [toP, PyData.depth]; exact Nat.zero_le _⟩
  | n, .bl b, h => ⟨by simp only [toP, PyData.canLay0], by simp only [toP, PyData.depth]; exact Nat.zero_le _⟩
  | n, .int b, h => ⟨by simp only [toP, PyData.canLay0], by simp only [toP, PyData.depth]; exact Nat.zero_le _⟩
  | n, .str x, h => ⟨by simpa only [toP, okD] using h, by simp only [toP, PyData.depth]; exact Nat.zero_le _⟩
  | n + 1, .lst xs, h => by
    have := okDs_lay n xs (by simpa only [okD] using h)
    simp only [toP, PyData.canLay0, PyData.depth]
    exact ⟨this.1, by omega⟩
  | n + 1, .tup xs, h => by
    have := okDs_lay n xs (by simpa only [okD] using h)
    simp only [toP, PyData.canLay0, PyData.depth]
    exact ⟨this.1, by omega⟩
  | 0, .lst xs, h => by simp [okD] at h
  | 0, .tup xs, h => by simp [okD] at h
  | n, .ty _, h => by simp [okD] at h
  | n, .adr _, h => by simp [okD] at h
  | n, .dct _ _, h => by simp [okD] at h
  | n, .obj _ _ _, h => by simp [okD] at h
  | n, .ref _, h => by simp [okD] at h
  | n, .scr _, h => by simp [okD] at h
theorem okDs_lay : ∀ (n : Nat) (ds : List D), okDs n ds = true → PyData.canLayAll0 (toPs ds) = true ∧ PyData.depthAll (toPs ds) ≤ n
  | n, [], h => ⟨by simp only [toPs, PyData.canLayAll0], by simp only [toPs, PyData.depthAll]; exact Nat.zero_le _⟩
  | n, x :: xs, h => by
    have h' : okD n x = true ∧ okDs n xs = true := by simpa only [okDs, Bool.and_eq_true] using h
    have a := okD_lay n x h'.1
    have b := okDs_lay n xs h'.2
    simp only [toPs, PyData.canLayAll0, PyData.depthAll, Bool.and_eq_true]
    exact ⟨⟨a.1, b.1⟩, by omega⟩
end
mutual
theorem eqD_P : ∀ (n : Nat) (c d : D), okD n c = true → okD n d = true → PyData.eqv (toP c) (toP d) = eqD c d
  | n, .non, d, hc, hd => by cases d <;> first | rfl | (simp [okD] at hd; done) | (simp [okD, toP, eqD, PyData.eqv]; done)
  | n, .bl b, d, hc, hd => by cases d <;> first | rfl | (simp [okD] at hd; done) | (simp [okD, toP, eqD, PyData.eqv]; done)
  | n, .int b, d, hc, hd => by cases d <;> first | rfl | (simp [okD] at hd; done) | (simp [okD, toP, eqD, PyData.eqv]; done)
  | n, .str b, d, hc, hd => by cases d <;> first | rfl | (simp [okD] at hd; done) | (simp [okD, toP, eqD, PyData.eqv]; done)
  | n + 1, .lst xs, d, hc, hd => by
    cases d with
    | lst ys =>
      simp only [toP, eqD, PyData.eqv]
      exact eqDs_P n xs ys (by simpa only [okD] using hc) (by simpa only [okD] using hd)
    | _ => first | rfl | (simp [okD] at hd; done) | (simp [toP, eqD, PyData.eqv]; done)
  | n + 1, .tup xs, d, hc, hd => by
    cases d with
    | tup ys =>
      simp only [toP, eqD, PyData.eqv]
      exact eqDs_P n xs ys (by simpa only [okD] using hc) (by simpa only [okD] using hd)
    | _ => first | rfl | (simp [okD] at hd; done) | (simp [toP, eqD, PyData.eqv]; done)
  | 0, .lst xs, d, hc, hd => by simp [okD] at hc
  | 0, .tup xs, d, hc, hd => by simp [okD] at hc
  | n, .ty _, d, hc, hd => by simp [okD] at hc
  | n, .adr _, d, hc, hd => by simp [okD] at hc
  | n, .dct _ _, d, hc, hd => by simp [okD] at hc
  | n, .obj _ _ _, d, hc, hd => by simp [okD] at hc
  | n, .ref _, d, hc, hd => by simp [okD] at hc
  | n, .scr _, d, hc, hd => by simp [okD] at hc
theorem eqDs_P : ∀ (n : Nat) (xs ys : List D), okDs n xs = true → okDs n ys = true → PyData.eqvAll (toPs xs) (toPs ys) = eqDs xs ys
  | n, [], [], _, _ => by simp [toPs, PyData.eqvAll, eqDs]
  | n, [], _ :: _, _, _ => by simp [toPs, PyData.eqvAll, eqDs]
  | n, _ :: _, [], _, _ => by simp [toPs, PyData.eqvAll, eqDs]
  | n, x :: xs, y :: ys, hc, hd => by
    have h1 : okD n x = true ∧ okDs n xs = true := by simpa only [okDs, Bool.and_eq_true] using hc
    have h2 : okD n y = true ∧ okDs n ys = true := by simpa only [okDs, Bool.and_eq_true] using hd
    simp only [toPs, PyData.eqvAll, eqDs]
    rw [eqD_P n x y h1.1 h2.1, eqDs_P n xs ys h1.2 h2.2]
end
mutual
theorem RD.dp (hK : X.K = G.K) {H : Hp} : ∀ (n : Nat) (d : D) (v : V), okD n d = true → RW G Z ρ H d v → Dp X.K H v (toP d)
  | n, .non, v, h, r => by cases (show v = _ from r); exact .non
  | n, .bl b, v, h, r => by cases (show v = _ from r); exact .bl b
  | n, .int b, v, h, r => by cases (show v = _ from r); exact .int b
  | n, .str b, v, h, r => by cases (show v = _ from r); exact .str b
  | n + 1, .lst xs, v, h, r => by
    obtain ⟨a, vs, rfl, h1, h2⟩ := r
    exact .lst (.of h1) (RDs.dps hK n xs vs (by simpa only [okD] using h) h2)
  | n + 1, .tup xs, v, h, r => by
    obtain ⟨a, vs, rfl, h1, h2⟩ := r
    exact .tup (by rw [hK]; exact h1) (RDs.dps hK n xs vs (by simpa only [okD] using h) h2)
  | 0, .lst xs, v, h, r => by simp [okD] at h
  | 0, .tup xs, v, h, r => by simp [okD] at h
  | n, .ty _, v, h, r => by simp [okD] at h
  | n, .adr _, v, h, r => by simp [okD] at h
  | n, .dct _ _, v, h, r => by simp [okD] at h
  | n, .obj _ _ _, v, h, r => by simp [okD] at h
  | n, .ref _, v, h, r => by simp [okD] at h
  | n, .scr _, v, h, r => by simp [okD] at h
theorem RDs.dps (hK : X.K = G.K) {H : Hp} : ∀ (n : Nat) (ds : List D) (vs : List V), okDs n ds = true → RDs G Z ρ H ds vs → DpAll X.K H vs (toPs ds)
  | n, [], vs, h, r => by cases (show vs = [] from r); exact .nil
  | n, x :: xs, vs, h, r => by
    obtain ⟨v, w, rfl, h1, h2⟩ := r
    have h' : okD n x = true ∧ okDs n xs = true := by simpa only [okDs, Bool.and_eq_true] using h
    exact .cons (RD.dp hK n x v h'.1 h1.w) (RDs.dps hK n xs w h'.2 h2)
end
theorem shaped_ok {d : D} (h : okD 64 d = true) : SeqAt.shaped (toP d) = true := by
  have := okD_lay 64 d h
  unfold SeqAt.shaped
  rw [this.1, decide_eq_true this.2] <;> rfl
theorem is_off {v : V} {u : Value} {b : Bool} (r : RelV v u) (h : v ≠ .bl b) : plainIs u (.bool b) = true ∧ u ≠ .bool b := by
  cases v with
  | bl x =>
    cases r
    exact ⟨rfl, fun e => h (by cases e; rfl)⟩
  | _ =>
    first
      | (cases r; exact ⟨rfl, fun e => by cases e⟩)
      | (obtain ⟨t, rfl⟩ := r; exact ⟨rfl, fun e => by cases e⟩)
theorem op_isB : OpR X (compareOp .Is) (fun x y H Q => ∃ b, y = .bl b ∧ Q (.bl (decide (x = .bl b))) H) := by
  intro pins s σ H x y v u Q I rx ry h
  obtain ⟨b, rfl, q⟩ := h
  cases (show u = Value.bool b from ry)
  by_cases e : x = .bl b
  · subst e
    cases (show v = Value.bool b from rx)
    exact wpAny_is_self rfl ⟨.bl true, H, I, rfl, by simpa using q⟩
  · obtain ⟨h1, h2⟩ := is_off rx e
    exact wpAny_is_other h1 h2 ⟨.bl false, H, I, rfl, by simpa [e] using q⟩
theorem op_notB : OpR X (compareOp .IsNot) (fun x y H Q => ∃ b, y = .bl b ∧ Q (.bl (!decide (x = .bl b))) H) := by
  intro pins s σ H x y v u Q I rx ry h
  obtain ⟨b, rfl, q⟩ := h
  cases (show u = Value.bool b from ry)
  by_cases e : x = .bl b
  · subst e
    cases (show v = Value.bool b from rx)
    exact wpAny_isNot_self rfl ⟨.bl false, H, I, rfl, by simpa using q⟩
  · obtain ⟨h1, h2⟩ := is_off rx e
    exact wpAny_isNot_other h1 h2 ⟨.bl true, H, I, rfl, by simpa [e] using q⟩
theorem isB_eq {Z : Addr → Prop} {ρ : List Addr} {H : Hp} {c : D} {x : V} {b : Bool} (hc : RW G Z ρ H c x) : decide (x = V.bl b) = isB c b := by
  cases c <;> first
    | (cases (show x = _ from hc); rfl)
    | (cases (show x = _ from hc); simp [isB]; done)
    | (obtain ⟨a, vs, rfl, _⟩ := hc; rfl)
    | (obtain ⟨a, vs, vs', rfl, _⟩ := hc; rfl)
    | (obtain ⟨a, C, dx, ws, vs, rfl, _⟩ := hc; rfl)
    | (obtain ⟨a, _, rfl⟩ := hc; rfl)
    | (obtain ⟨a, rfl, _⟩ := hc; rfl)
theorem RD.flat {Z : Addr → Prop} {ρ : List Addr} {H : Hp} {d : D} {v : V} (h : RW G Z ρ H d v) (f : flatD d = true) : flatV v = true := by
  cases d <;> first
    | (cases (show v = _ from h); rfl)
    | cases f
theorem RDs.flat {Z : Addr → Prop} {ρ : List Addr} {H : Hp} : ∀ {ds : List D} {vs : List V}, RDs G Z ρ H ds vs → ds.all flatD = true → vs.all flatV = true
  | [], vs, h, f => by cases (show vs = [] from h); rfl
  | d :: ds, vs, h, f => by
    obtain ⟨v, r, rfl, h1, h2⟩ := h
    rw [List.all_cons, Bool.and_eq_true] at f ⊢
    exact ⟨RD.flat h1.w f.1, RDs.flat h2 f.2⟩
theorem eqV_D {Z : Addr → Prop} {ρ : List Addr} {H : Hp} {d e : D} {v u : V} (h : RW G Z ρ H d v) (h2 : RW G Z ρ H e u) (f : flatD d = true) (g : flatD e = true) : eqV v u = eqD d e := by
  cases d <;> first
    | (cases (show v = _ from h)
       cases e <;> first
        | (cases (show u = _ from h2); (try unfold eqD); rfl)
        | cases g)
    | cases f
theorem inV_D {Z : Addr → Prop} {ρ : List Addr} {H : Hp} {d : D} {v : V} (h : RW G Z ρ H d v) (f : flatD d = true) : ∀ {ds : List D} {vs : List V}, RDs G Z ρ H ds vs → ds.all flatD = true → inV v vs = inD d ds
  | [], vs, h2, g => by cases (show vs = [] from h2); rfl
  | e :: ds, vs, h2, g => by
    obtain ⟨u, r, rfl, h3, h4⟩ := h2
    rw [List.all_cons, Bool.and_eq_true] at g
    show (eqV u v || inV v r) = (eqD e d || inD d ds)
    rw [eqV_D h3.w h g.1 f, inV_D h f h4 g.2]
theorem op_cmp (hK : X.K = G.K) (hu : X.A.units + 64 < cLine) {op : CmpOp} : OpR X (compareOp op) (fun x y H Q => ∃ Z ρ c d, RW G Z ρ H c x ∧ RW G Z ρ H d y ∧ wpCmp op c d fun k => Q (.bl k) H) := by
  rintro pins s σ H x y v u Q I rx ry ⟨Z, ρ, c, d, hc, hd, q⟩
  unfold wpCmp at q
  split at q
  · obtain ⟨o1, o2, q⟩ := q
    exact op_eqD hu pins s σ H _ _ v u Q I rx ry ⟨toP c, toP d, RD.dp hK 64 c x o1 hc, RD.dp hK 64 d y o2 hd, shaped_ok o1, shaped_ok o2, by rw [eqD_P 64 c d o1 o2]; exact q⟩
  · obtain ⟨o1, o2, q⟩ := q
    exact op_neD hu pins s σ H _ _ v u Q I rx ry ⟨toP c, toP d, RD.dp hK 64 c x o1 hc, RD.dp hK 64 d y o2 hd, shaped_ok o1, shaped_ok o2, by rw [eqD_P 64 c d o1 o2]; exact q⟩
  · cases (show x = _ from hc); cases (show y = _ from hd)
    exact op_lt pins s σ H _ _ v u Q I rx ry ⟨_, _, rfl, rfl, q⟩
  · cases (show x = _ from hc); cases (show y = _ from hd)
    exact op_le pins s σ H _ _ v u Q I rx ry ⟨_, _, rfl, rfl, q⟩
  · cases (show x = _ from hc); cases (show y = _ from hd)
    exact op_gt pins s σ H _ _ v u Q I rx ry ⟨_, _, rfl, rfl, q⟩
  · cases (show x = _ from hc); cases (show y = _ from hd)
    exact op_ge pins s σ H _ _ v u Q I rx ry ⟨_, _, rfl, rfl, q⟩
  · cases (show y = _ from hd)
    refine op_isN pins s σ H _ _ v u Q I rx ry ⟨rfl, ?_⟩
    have e : decide (x = V.non) = isNon c := by
      cases c <;> first
        | (cases (show x = _ from hc); rfl)
        | (obtain ⟨a, vs, rfl, _⟩ := hc; rfl)
        | (obtain ⟨a, vs, vs', rfl, _⟩ := hc; rfl)
        | (obtain ⟨a, C, dx, ws, vs, rfl, _⟩ := hc; rfl)
        | (obtain ⟨a, _, rfl⟩ := hc; rfl)
        | (obtain ⟨a, rfl, _⟩ := hc; rfl)
    rw [e]; exact q
  · cases (show y = _ from hd)
    refine op_notN pins s σ H _ _ v u Q I rx ry ⟨rfl, ?_⟩
    have e : (!decide (x = V.non)) = (!isNon c) := by
      cases c <;> first
        | (cases (show x = _ from hc); rfl)
        | (obtain ⟨a, vs, rfl, _⟩ := hc; rfl)
        | (obtain ⟨a, vs, vs', rfl, _⟩ := hc; rfl)
        | (obtain ⟨a, C, dx, ws, vs, rfl, _⟩ := hc; rfl)
        | (obtain ⟨a, _, rfl⟩ := hc; rfl)
        | (obtain ⟨a, rfl, _⟩ := hc; rfl)
    rw [e]; exact q
  · cases (show y = _ from hd)
    exact op_isB pins s σ H _ _ v u Q I rx ry ⟨_, rfl, by rw [isB_eq hc]; exact q⟩
  · cases (show y = _ from hd)
    exact op_notB pins s σ H _ _ v u Q I rx ry ⟨_, rfl, by rw [isB_eq hc]; exact q⟩
  · obtain ⟨f1, f2, q⟩ := q
    obtain ⟨a, vs, rfl, h1, h2⟩ := hd
    exact op_in_seq pins s σ H _ _ v u Q I rx ry ⟨a, vs, rfl, .inr (by rw [hK]; exact h1), RD.flat hc f1, RDs.flat h2 f2, by rw [inV_D hc f1 h2 f2]; exact q⟩
  · obtain ⟨f1, f2, q⟩ := q
    obtain ⟨a, vs, rfl, h1, h2⟩ := hd
    exact op_in_seq pins s σ H _ _ v u Q I rx ry ⟨a, vs, rfl, .inl (.of h1), RD.flat hc f1, RDs.flat h2 f2, by rw [inV_D hc f1 h2 f2]; exact q⟩
  · obtain ⟨f1, f2, q⟩ := q
    obtain ⟨a, vs, rfl, h1, h2⟩ := hd
    exact op_notIn_seq pins s σ H _ _ v u Q I rx ry ⟨a, vs, rfl, .inr (by rw [hK]; exact h1), RD.flat hc f1, RDs.flat h2 f2, by rw [inV_D hc f1 h2 f2]; exact q⟩
  · obtain ⟨f1, f2, q⟩ := q
    obtain ⟨a, vs, rfl, h1, h2⟩ := hd
    exact op_notIn_seq pins s σ H _ _ v u Q I rx ry ⟨a, vs, rfl, .inl (.of h1), RD.flat hc f1, RDs.flat h2 f2, by rw [inV_D hc f1 h2 f2]; exact q⟩
  · cases (show x = _ from hc); cases (show y = _ from hd)
    obtain ⟨c, rfl, q⟩ := q
    exact op_in_sign pins s σ H _ _ v u Q I rx ry ⟨c, _, rfl, rfl, q⟩
  · cases (show x = _ from hc); cases (show y = _ from hd)
    obtain ⟨c, rfl, q⟩ := q
    exact op_notIn_sign pins s σ H _ _ v u Q I rx ry ⟨c, _, rfl, rfl, q⟩
  · exact q.elim

/-! ### items, slices -/
theorem RDs.at {H : Hp} {ds : List D} {vs : List V} {i : Int} {d : D} (h : RDs G Z ρ H ds vs) (e : atI ds i = some d) : ∃ v, atI vs i = some v ∧ RD G Z ρ H d v := by
  unfold atI at *
  rw [← h.length]
  cases q : ixN ds.length i with
  | none => rw [q] at e; cases e
  | some j =>
    rw [q] at e
    exact h.get e
theorem RDs.cut {H : Hp} {ds : List D} {vs : List V} (h : RDs G Z ρ H ds vs) (lo hi : Option Int) : RDs G Z ρ H (cutL ds lo hi) (cutV vs lo hi) := by
  unfold cutL cutV
  rw [← h.length]
  exact (h.drop _).take _
theorem atI_map {α β : Type} {f : α → β} {xs : List α} {i : Int} {x : α} (h : atI xs i = some x) : atI (xs.map f) i = some (f x) := by
  unfold atI at *
  rw [List.length_map]
  cases q : ixN xs.length i with
  | none => rw [q] at h; cases h
  | some j =>
    rw [q] at h
    have h' : xs[j]? = some x := h
    show (xs.map f)[j]? = _
    rw [List.getElem?_map, h']
    rfl
theorem ix_d (hK : X.K = G.K) : IxR X (fun x y H Q => ∃ Z ρ c d, RW G Z ρ H c x ∧ RW G Z ρ H d y ∧ wpIdx c d fun z => ∀ v, RD G Z ρ H z v → Q v H) := by
  rintro val slice pins s σ H x y v u Q I rx ry ⟨Z, ρ, c, d, hc, hd, q⟩ hs
  unfold wpIdx at q
  split at q
  · obtain ⟨a, vs, rfl, h1, h2⟩ := hc
    cases (show y = _ from hd)
    obtain ⟨z, e, q⟩ := q
    obtain ⟨w, e2, h3⟩ := h2.at e
    exact ix_tup val slice pins s σ H _ _ v u Q I rx ry ⟨a, vs, _, w, rfl, rfl, by rw [hK]; exact h1, e2, q w h3⟩ hs
  · obtain ⟨a, vs, rfl, h1, h2⟩ := hc
    cases (show y = _ from hd)
    obtain ⟨z, e, q⟩ := q
    obtain ⟨w, e2, h3⟩ := h2.at e
    exact ix_list val slice pins s σ H _ _ v u Q I rx ry ⟨a, vs, _, w, rfl, rfl, .of h1, e2, q w h3⟩ hs
  · obtain ⟨a, rfl, h1⟩ := hc
    cases (show y = _ from hd)
    obtain ⟨z, e, q⟩ := q
    exact ix_list val slice pins s σ H _ _ v u Q I rx ry ⟨a, _, _, _, rfl, rfl, by rw [hK]; exact h1.sq, atI_map e, q _ rfl⟩ hs
  · cases (show x = _ from hc); cases (show y = _ from hd)
    obtain ⟨hz, z, e, q⟩ := q
    exact ix_str val slice pins s σ H _ _ v u Q I rx ry ⟨_, _, z, rfl, rfl, by rw [sizeLine_eq]; exact hz, e, q _ rfl⟩ hs
  · exact q.elim
theorem cutL_whole {α : Type} {xs : List α} {lo hi : Option Int} (h : HT.sIx xs.length 0 lo = 0 ∧ HT.sIx xs.length xs.length hi = xs.length) : cutL xs lo hi = xs := by
  unfold cutL
  rw [h.1, h.2, List.drop_zero, Nat.sub_zero, List.take_length]
theorem cut_ints {ns : List Int} (lo hi : Option Int) : cutV (ns.map V.int) lo hi = (cutL ns lo hi).map V.int := by
  unfold cutV cutL
  rw [List.length_map, List.map_take, List.map_drop]
theorem sl_d (hK : X.K = G.K) : SlR X (fun x lo hi H Q => ∃ Z ρ c, RW G Z ρ H c x ∧ wpSli c lo hi fun z => ∀ v H', OutV G Z ρ H z v H' → Q v H') := by
  rintro pins s σ H x v vl vu lo hi sl Q I rx hs pl pu ⟨Z, ρ, c, hc, q⟩
  unfold wpSli at q
  split at q
  · obtain ⟨a, vs, rfl, h1, h2⟩ := hc
    refine sl_tupA pins s σ H _ v vl vu lo hi sl Q I rx hs pl pu ⟨a, vs, rfl, by rw [hK]; exact h1, fun e => ?_, fun _ p hp => q _ _ (out_tup hp (h2.cut lo hi))⟩
    rw [← h2.length] at e
    rw [cutL_whole e] at q
    exact out_flat q ⟨a, vs, rfl, h1, h2⟩
  · obtain ⟨a, vs, rfl, h1, h2⟩ := hc
    exact sl_list pins s σ H _ v vl vu lo hi sl Q I rx hs pl pu ⟨a, vs, rfl, .of h1, fun p hp => q _ _ (out_lst hp (h2.cut lo hi))⟩
  · obtain ⟨a, rfl, h1⟩ := hc
    refine sl_list pins s σ H _ v vl vu lo hi sl Q I rx hs pl pu ⟨a, _, rfl, by rw [hK]; exact h1.sq, fun p hp => q _ _ (out_lst hp ?_)⟩
    rw [cut_ints]
    exact RDs.ints _
  · exact q.elim
end
end R

set_option autoImplicit false
namespace R
open PySem PySem.Spec PyProof.Rows L2
/-! ## R3: the parts of the small language are what the program's parts do -/
section
variable {X : Cx} {G : Wd} {Z : Addr → Prop} {ρ : List Addr}
/-! ### built-ins -/
def RWs (G : Wd) (Z : Addr → Prop) (ρ : List Addr) (H : Hp) : List D → List V → Prop
  | [], vs => vs = []
  | d :: ds, vs => ∃ v r, vs = v :: r ∧ RW G Z ρ H d v ∧ RWs G Z ρ H ds r
theorem RW.ty {H : Hp} (hK : X.K = G.K) : ∀ {d : D} {v : V} {n : String}, RW G Z ρ H d v → tyD d = some n → TyX X.K H v (.type n)
  | .non, v, n, h, e => by cases (show v = _ from h); cases e; exact .base .non
  | .bl b, v, n, h, e => by cases (show v = _ from h); cases e; exact .base (.bl b)
  | .int b, v, n, h, e => by cases (show v = _ from h); cases e; exact .base (.int b)
  | .str b, v, n, h, e => by cases (show v = _ from h); cases e; exact .base (.str b)
  | .tup xs, v, n, h, e => by
    cases e
    obtain ⟨a, vs, rfl, (h1 | ⟨o, h1⟩) | ⟨o, its, n, h1, h2, _⟩, _⟩ := h
    · exact .base (.tup h1)
    · exact .fTuple h1
    · exact .kTuple (by rw [hK]; exact h1) h2
  | .lst xs, v, n, h, e => by
    cases e
    obtain ⟨a, vs, rfl, h1, _⟩ := h
    exact .base (.lst h1)
  | .scr xs, v, n, h, e => by
    cases e
    obtain ⟨a, rfl, ⟨_, h1 | ⟨o, h1⟩⟩ | ⟨o, its, n, h1, h2, _⟩⟩ := h
    · exact .base (.lst h1)
    · exact .base (.frz h1)
    · exact .kList (by rw [hK]; exact h1) h2
  | .dct ks xs, v, n, h, e => by
    cases e
    obtain ⟨a, ws, vs, rfl, h1, _⟩ := h
    exact .base (.dK h1)
  | .ty _, v, n, h, e => by cases e
  | .adr _, v, n, h, e => by cases e
  | .obj _ _ _, v, n, h, e => by cases e
  | .ref _, v, n, h, e => by cases e
theorem kit_table : ((["NoneType", "bool", "int", "str", "tuple", "list", "dict"] : List String).all fun a => (["int", "bool", "str", "tuple", "list", "dict"] : List String).all fun b => kitB a b == some (isTy a b)) = true := by decide +kernel
theorem tyD_mem {d : D} {n : String} (e : tyD d = some n) : n ∈ (["NoneType", "bool", "int", "str", "tuple", "list", "dict"] : List String) := by
  cases d <;> cases e <;> simp
theorem okTy_mem {b : String} (h : okTy b = true) : b ∈ (["int", "bool", "str", "tuple", "list", "dict"] : List String) := by
  unfold okTy at h
  simp only [Bool.or_eq_true, beq_iff_eq] at h
  simp only [List.mem_cons]
  rcases h with ((((h | h) | h) | h) | h) | h <;> simp [h]
theorem kit_is {K : PySem.W.Frag} {d : D} {n b : String} (e : tyD d = some n) (h : okTy b = true) : PySem.W.kitOne K (.type n) (.type b) = some (isTy n b) := by
  have t := kit_table
  rw [List.all_eq_true] at t
  have t2 := t n (tyD_mem e)
  rw [List.all_eq_true] at t2
  exact kit_ty (eq_of_beq (t2 b (okTy_mem h)))
theorem kit_any {K : PySem.W.Frag} {d : D} {n : String} (e : tyD d = some n) : ∀ {bs : List String}, bs.all okTy = true → PySem.W.kitAny K (.type n) (bs.map Value.type) = some (bs.any (isTy n))
  | [], _ => rfl
  | b :: bs, h => by
    rw [List.all_cons, Bool.and_eq_true] at h
    rw [List.map_cons, List.any_cons]
    refine kitAny_cons (kit_is e h.1) (fun f => ?_) (fun f => ?_)
    · rw [f, Bool.false_or]; exact kit_any e h.2
    · rw [f, Bool.true_or]

def bltV : Bf → Value
  | .len => .builtin "len"
  | .int => .type "int"
  | .bool => .type "bool"
  | .str => .type "str"
  | .tuple => .type "tuple"
  | .list => .type "list"
  | .abs => .builtin "abs"
  | .min2 => .builtin "min"
  | .max2 => .builtin "max"
  | .sum => .builtin "sum"
  | .all => .builtin "all"
  | .any => .builtin "any"
  | .sorted => .builtin "sorted"
  | .min1 => .builtin "min"
  | .max1 => .builtin "max"
def bltN : Bf → Str
  | .len => "len"
  | .int => "int"
  | .bool => "bool"
  | .str => "str"
  | .tuple => "tuple"
  | .list => "list"
  | .abs => "abs"
  | .min2 => "min"
  | .max2 => "max"
  | .sum => "sum"
  | .all => "all"
  | .any => "any"
  | .sorted => "sorted"
  | .min1 => "min"
  | .max1 => "max"
theorem RWs.one {H : Hp} {d : D} {vs : List V} (h : RWs G Z ρ H [d] vs) : ∃ v, vs = [v] ∧ RW G Z ρ H d v := by
  obtain ⟨v, r, rfl, h1, h2⟩ := h
  cases (show r = [] from h2)
  exact ⟨v, rfl, h1⟩
theorem RWs.two {H : Hp} {d e : D} {vs : List V} (h : RWs G Z ρ H [d, e] vs) : ∃ v w, vs = [v, w] ∧ RW G Z ρ H d v ∧ RW G Z ρ H e w := by
  obtain ⟨v, r, rfl, h1, h2⟩ := h
  obtain ⟨w, rfl, h3⟩ := RWs.one h2
  exact ⟨v, w, rfl, h1, h3⟩
theorem call_d (hK : X.K = G.K) (hc : X.calm = true) (f : Bf) : CallR X (bltV f) (fun xs H Q => ∃ Z ρ ds, RWs G Z ρ H ds xs ∧ wpBlt f ds fun z => ∀ v H', OutV G Z ρ H z v H' → Q v H') := by
  rintro pins s σ H xs us Q I r ⟨Z, ρ, ds, hd, q⟩
  unfold wpBlt at q
  split at q
  · obtain ⟨v, rfl, a, vs, rfl, h1, h2⟩ := hd.one
    exact call_len pins s σ H _ us Q I r ⟨_, _, rfl, .inr ⟨vs, by rw [hK]; exact h1, h2.length⟩, out_flat q rfl⟩
  · obtain ⟨v, rfl, a, vs, rfl, h1, h2⟩ := hd.one
    exact call_len pins s σ H _ us Q I r ⟨_, _, rfl, .inl ⟨vs, .of h1, h2.length⟩, out_flat q rfl⟩
  · obtain ⟨v, rfl, a, rfl, h1⟩ := hd.one
    exact call_len pins s σ H _ us Q I r ⟨_, _, rfl, .inl ⟨_, by rw [hK]; exact h1.sq, (List.length_map _).symm⟩, out_flat q rfl⟩
  · obtain ⟨v, rfl, h⟩ := hd.one
    cases (show v = _ from h)
    exact call_len pins s σ H _ us Q I r ⟨_, _, rfl, ⟨by rw [sizeLine_eq]; exact q.1, rfl⟩, out_flat q.2 rfl⟩
  · obtain ⟨v, rfl, h⟩ := hd.one
    cases (show v = _ from h)
    exact call_int1 pins s σ H _ us Q I r (.inl ⟨_, rfl, out_flat q rfl⟩)
  · obtain ⟨v, rfl, h⟩ := hd.one
    cases (show v = _ from h)
    exact call_int1 pins s σ H _ us Q I r (.inr ⟨_, rfl, out_flat q rfl⟩)
  · obtain ⟨v, rfl, a, vs, rfl, h1, h2⟩ := hd.one
    exact call_tuple_of pins s σ H _ us Q I r ⟨a, vs, rfl, .inl ⟨.of h1, fun p hp => q _ _ (out_tup hp h2)⟩⟩
  · obtain ⟨v, rfl, a, vs, rfl, h1, h2⟩ := hd.one
    exact call_tuple_of pins s σ H _ us Q I r ⟨a, vs, rfl, .inr ⟨by rw [hK]; exact h1, out_flat q ⟨a, vs, rfl, h1, h2⟩⟩⟩
  · obtain ⟨v, rfl, a, vs, rfl, h1, h2⟩ := hd.one
    exact call_list_of pins s σ H _ us Q I r ⟨a, vs, rfl, .inl (.of h1), fun p hp => q _ _ (out_lst hp h2)⟩
  · obtain ⟨v, rfl, a, rfl, h1⟩ := hd.one
    exact call_list_of pins s σ H _ us Q I r ⟨a, _, rfl, .inl (by rw [hK]; exact h1.sq), fun p hp => q _ _ (out_lst hp (RDs.ints _))⟩
  · obtain ⟨v, rfl, a, vs, rfl, h1, h2⟩ := hd.one
    exact call_list_of pins s σ H _ us Q I r ⟨a, vs, rfl, .inr (by rw [hK]; exact h1), fun p hp => q _ _ (out_lst hp h2)⟩
  · obtain ⟨v, rfl, h⟩ := hd.one
    cases (show v = _ from h)
    exact call_abs pins s σ H _ us Q I r ⟨_, rfl, out_flat q rfl⟩
  · obtain ⟨v, w, rfl, h, h'⟩ := hd.two
    cases (show v = _ from h); cases (show w = _ from h')
    exact call_min2 hc pins s σ H _ us Q I r ⟨_, _, rfl, out_flat q rfl⟩
  · obtain ⟨v, w, rfl, h, h'⟩ := hd.two
    cases (show v = _ from h); cases (show w = _ from h')
    exact call_max2 hc pins s σ H _ us Q I r ⟨_, _, rfl, out_flat q rfl⟩
  · obtain ⟨v, rfl, a, vs, rfl, h1, h2⟩ := hd.one
    obtain ⟨bs, rfl, q⟩ := q
    cases RDs.bls_of h2
    exact cr_all hc pins s σ H _ us Q I r ⟨a, bs, rfl, .of h1, out_flat q rfl⟩
  · obtain ⟨v, rfl, a, vs, rfl, h1, h2⟩ := hd.one
    obtain ⟨bs, rfl, q⟩ := q
    cases RDs.bls_of h2
    exact cr_any hc pins s σ H _ us Q I r ⟨a, bs, rfl, .of h1, out_flat q rfl⟩
  · obtain ⟨v, rfl, a, vs, rfl, h1, h2⟩ := hd.one
    obtain ⟨ns, rfl, q⟩ := q
    cases RDs.ints_of h2
    exact cr_sortedI pins s σ H _ us Q I r ⟨a, ns, rfl, .of h1, fun ns' b p w hb => q ns' p w _ _ (out_lst hb (RDs.ints _))⟩
  · obtain ⟨v, rfl, a, vs, rfl, h1, h2⟩ := hd.one
    obtain ⟨ns, rfl, l, q⟩ := q
    cases RDs.ints_of h2
    exact cr_min hc pins s σ H _ us Q I r ⟨a, ns, rfl, .of h1, l, fun m h1 h2 => out_flat (q m h1 h2) rfl⟩
  · obtain ⟨v, rfl, a, vs, rfl, h1, h2⟩ := hd.one
    obtain ⟨ns, rfl, l, q⟩ := q
    cases RDs.ints_of h2
    exact cr_max hc pins s σ H _ us Q I r ⟨a, ns, rfl, .of h1, l, fun m h1 h2 => out_flat (q m h1 h2) rfl⟩
  · obtain ⟨v, rfl, a, rfl, h1⟩ := hd.one
    exact cr_sum hc pins s σ H _ us Q I r ⟨a, _, rfl, by rw [hK]; exact h1.sq, out_flat q rfl⟩
  · obtain ⟨v, rfl, h⟩ := hd.one
    cases (show v = _ from h)
    exact call_str_int pins s σ H _ us Q I r ⟨_, rfl, q.1, out_flat q.2 rfl⟩
  · obtain ⟨v, rfl, h⟩ := hd.one
    cases (show v = _ from h)
    obtain ⟨n, h1, h2, q⟩ := q
    exact call_int_str pins s σ H _ us Q I r ⟨_, n, rfl, h1, h2, out_flat q rfl⟩
  · obtain ⟨v, rfl, a, vs, rfl, h1, h2⟩ := hd.one
    obtain ⟨ns, rfl, q⟩ := q
    cases RDs.ints_of h2
    exact cr_sum hc pins s σ H _ us Q I r ⟨a, ns, rfl, .of h1, out_flat q rfl⟩
  · exact q.elim
end

/-! ### how a part's reading is said -/
section
variable {G : Wd} {B : Base} {T ρ : List Addr} {env : VE} {vh : VH} {σ : L2.St} {H : Hp}
theorem Mv.trans {Z1 Z2 Z3 : Addr → Prop} {r1 r2 r3 : List Addr} {H1 H2 H3 : Hp} (a : Mv Z1 r1 H1 Z2 r2 H2) (b : Mv Z2 r2 H2 Z3 r3 H3) : Mv Z1 r1 H1 Z3 r3 H3 :=
  ⟨fun n x h => b.pre n x (a.pre n x h), fun x u nz h => (let ⟨n2, h2⟩ := a.keep x u nz h; b.keep x u n2 h2), fun x xs h => b.tup x xs (a.tup x xs h)⟩
theorem Mv.refl {Z1 : Addr → Prop} {r1 : List Addr} {H1 : Hp} : Mv Z1 r1 H1 Z1 r1 H1 := Mv.less fun _ h => h

/-- what comes of an expression, from (ρ, env, H) on -/
def Res (G : Wd) (B : Base) (T ρ : List Addr) (env : VE) (σ : L2.St) (H : Hp) (x : DV) (v : V) (ρ' : List Addr) (env' : VE) (vh' : VH) (H' : Hp) : Prop := match x with
  | .v d => Mv (ZZ B.F T ρ env σ) ρ H (ZZ B.F T ρ' env' σ) ρ' H' ∧ Rel G B T ρ' env' vh' σ H' ∧ RD G (ZZ B.F T ρ' env' σ) ρ' H' d v
  | .fr ds => ∃ a vs, v = .ref a ∧ H' a = some (.lst vs) ∧ Mv (ZZ B.F T ρ env σ) ρ H (ZZ B.F (a :: T) ρ' env' σ) ρ' H' ∧ Rel G B (a :: T) ρ' env' vh' σ H' ∧ RDs G (ZZ B.F (a :: T) ρ' env' σ) ρ' H' ds vs
theorem dropMv {a : Addr} {Z : Addr → Prop} {r : List Addr} {H0 : Hp} (m : Mv Z r H0 (ZZ B.F (a :: T) ρ env σ) ρ H) : Mv Z r H0 (ZZ B.F T ρ env σ) ρ H := m.trans (Mv.less fun b z => by
    rcases z with z | z | z
    · exact .inl z
    · exact .inr (.inl (List.mem_cons_of_mem _ z))
    · exact .inr (.inr z))
theorem Res.d {x : DV} {v : V} {ρ' : List Addr} {env' : VE} {vh' : VH} {H' : Hp} (r : Res G B T ρ env σ H x v ρ' env' vh' H') : Mv (ZZ B.F T ρ env σ) ρ H (ZZ B.F T ρ' env' σ) ρ' H' ∧ Rel G B T ρ' env' vh' σ H' ∧ RD G (ZZ B.F T ρ' env' σ) ρ' H' x.d v := by
  cases x with
  | v d => exact r
  | fr ds =>
    obtain ⟨a, vs, rfl, e, m, R, h⟩ := r
    exact ⟨dropMv m, R.dropT, R.let_go e h⟩
theorem Res.of_out {z : DV} {v : V} {ρ' : List Addr} {env' : VE} {vh' : VH} {H1 H' : Hp} (m : Mv (ZZ B.F T ρ env σ) ρ H (ZZ B.F T ρ' env' σ) ρ' H1) (R : Rel G B T ρ' env' vh' σ H1) (o : OutV G (ZZ B.F T ρ' env' σ) ρ' H1 z v H') :
    Res G B T ρ env σ H z v ρ' env' vh' H' := by
  cases z with
  | v d => exact ⟨m.trans (Mv.same o.1), R.grow o.1, o.2⟩
  | fr ds =>
    obtain ⟨p, vs, rfl, hp, rfl, h⟩ := o
    have m2 : Mv (ZZ B.F T ρ' env' σ) ρ' H1 (ZZ B.F (p :: T) ρ' env' σ) ρ' (upd H1 p (.lst vs)) := Mv.fresh (same_new hp) fun b z => by
      rcases z with z | z | z
      · exact .inl (.inl z)
      · rcases List.mem_cons.mp z with e | z
        · exact .inr (by rw [e]; exact hp)
        · exact .inl (.inr (.inl z))
      · exact .inl (.inr (.inr z))
    exact ⟨p, vs, rfl, upd_same, m.trans m2, R.tmp hp trivial, RDs.move m2 _ _ h⟩
/-- an operand at hand -/
def OpV (G : Wd) (Z : Addr → Prop) (ρ : List Addr) (H : Hp) (σ : L2.St) (o : Op) (v : V) : Prop := match o with
  | .dat d => RD G Z ρ H d v
  | .slt i => σ[i]? = some (some v)
theorem OpV.move {Z Z' : Addr → Prop} {ρ' : List Addr} {H' : Hp} {o : Op} {v : V} (h : OpV G Z ρ H σ o v) (m : Mv Z ρ H Z' ρ' H') : OpV G Z' ρ' H' σ o v := by
  cases o with
  | dat d => exact RD.move m _ _ h
  | slt i => exact h
theorem deref_rw (R : Rel G B T ρ env vh σ H) {d d' : D} {v : V} (h : RW G (ZZ B.F T ρ env σ) ρ H d v) (e : deref vh d = some d') : RW G (ZZ B.F T ρ env σ) ρ H d' v := by
  cases d with
  | ref n =>
    obtain ⟨a, ha, rfl⟩ := h
    unfold deref at e
    dsimp only at e
    split at e
    · rename_i xs q
      cases e
      obtain ⟨vs, h1, h2⟩ := R.ob n _ a q ha
      exact ⟨a, vs, rfl, h1, h2⟩
    · rename_i ks xs q
      cases e
      obtain ⟨ws, vs, h1, e1, e2, h2⟩ := R.ob n _ a q ha
      exact ⟨a, ws, vs, rfl, h1, e1, e2, h2⟩
    · cases e
  | _ => cases e; exact h
theorem OpV.rw (R : Rel G B T ρ env vh σ H) {o : Op} {d : D} {v : V} (h : OpV G (ZZ B.F T ρ env σ) ρ H σ o v) (e : o.ld env vh = some d) : RW G (ZZ B.F T ρ env σ) ρ H d v := by
  cases o with
  | dat c => exact deref_rw R (RD.w h) e
  | slt i =>
    unfold Op.ld at e
    dsimp only at e
    split at e
    · rename_i s hs
      split at e
      · rename_i c hc
        have q := R.st i s hs
        have h : σ[i]? = some (some v) := h
        cases s with
        | no => cases hc
        | val c' =>
          cases hc
          obtain ⟨w, e1, h1⟩ := q
          rw [h] at e1
          cases e1
          exact deref_rw R h1.w e
        | own ds =>
          cases hc
          obtain ⟨a, vs, e1, h1, h2⟩ := q
          rw [h] at e1
          cases e1
          cases e
          exact ⟨a, vs, rfl, h1, h2⟩
      · cases e
    · cases e

def tD (G : Wd) (B : Base) (w : VE → VH → QE → Prop) : TE := fun σ H Q => ∃ T ρ env vh, Rel G B T ρ env vh σ H ∧ w env vh fun x env' vh' => ∀ ρ' v H', Res G B T ρ env σ H x v ρ' env' vh' H' → Q v H'
def tO (G : Wd) (B : Base) (w : VE → VH → (Op → VE → VH → Prop) → Prop) : TE := fun σ H Q => ∃ T ρ env vh, Rel G B T ρ env vh σ H ∧ w env vh fun o env' vh' => ∀ ρ' v H', Mv (ZZ B.F T ρ env σ) ρ H (ZZ B.F T ρ' env' σ) ρ' H' → Rel G B T ρ' env' vh' σ H' → OpV G (ZZ B.F T ρ' env' σ) ρ' H' σ o v → Q v H'
def tB (G : Wd) (B : Base) (w : VE → VH → QE → Prop) : TT := fun σ H Q => ∃ T ρ env vh, Rel G B T ρ env vh σ H ∧ w env vh fun x env' vh' => ∃ k, x = .v (.bl k) ∧ ∀ ρ' H', Mv (ZZ B.F T ρ env σ) ρ H (ZZ B.F T ρ' env' σ) ρ' H' → Rel G B T ρ' env' vh' σ H' → Q k H'
def tL (G : Wd) (B : Base) (w : VE → VH → (List D → VE → VH → Prop) → Prop) : TA := fun σ H Q => ∃ T ρ env vh, Rel G B T ρ env vh σ H ∧ w env vh fun ds env' vh' => ∀ ρ' vs H', Mv (ZZ B.F T ρ env σ) ρ H (ZZ B.F T ρ' env' σ) ρ' H' → Rel G B T ρ' env' vh' σ H' → RDs G (ZZ B.F T ρ' env' σ) ρ' H' ds vs → Q vs H'
def OpVs (G : Wd) (Z : Addr → Prop) (ρ : List Addr) (H : Hp) (σ : L2.St) : List Op → List V → Prop
  | [], vs => vs = []
  | o :: os, vs => ∃ v r, vs = v :: r ∧ OpV G Z ρ H σ o v ∧ OpVs G Z ρ H σ os r
theorem OpVs.rw (R : Rel G B T ρ env vh σ H) : ∀ {os : List Op} {ds : List D} {vs : List V}, OpVs G (ZZ B.F T ρ env σ) ρ H σ os vs → ldAll env vh os = some ds → RWs G (ZZ B.F T ρ env σ) ρ H ds vs
  | [], ds, vs, h, e => by cases e; exact h
  | o :: os, ds, vs, h, e => by
    obtain ⟨v, r, rfl, h1, h2⟩ := h
    unfold ldAll at e
    split at e
    · rename_i d es e1 e2
      cases e
      exact ⟨v, r, rfl, h1.rw R e1, OpVs.rw R h2 e2⟩
    · cases e
def tOs (G : Wd) (B : Base) (w : VE → VH → (List Op → VE → VH → Prop) → Prop) : TA := fun σ H Q => ∃ T ρ env vh, Rel G B T ρ env vh σ H ∧ w env vh fun os env' vh' => ∀ ρ' vs H', Mv (ZZ B.F T ρ env σ) ρ H (ZZ B.F T ρ' env' σ) ρ' H' → Rel G B T ρ' env' vh' σ H' → OpVs G (ZZ B.F T ρ' env' σ) ρ' H' σ os vs → Q vs H'
end
theorem _root_.L2.PE.imp {X : Cx} {e : Expr} {t t' : TE} (h : PE X e t) (f : ∀ σ H Q, t' σ H Q → t σ H Q) : PE X e t' := ⟨fun pins s σ H Q I hw => h.run pins s σ H Q I (f σ H Q hw)⟩
theorem _root_.L2.PT.imp {X : Cx} {e : Expr} {t t' : TT} (h : PT X e t) (f : ∀ σ H Q, t' σ H Q → t σ H Q) : PT X e t' := ⟨fun pins s σ H Q I hw => h.run pins s σ H Q I (f σ H Q hw)⟩
theorem _root_.L2.PA.imp {X : Cx} {e : List Expr} {t t' : TA} (h : PA X e t) (f : ∀ σ H Q, t' σ H Q → t σ H Q) : PA X e t' := ⟨fun pos pins s σ H Q I hw => h.run pos pins s σ H Q I (f σ H Q hw)⟩
end R

set_option autoImplicit false
namespace R
open PySem PySem.Spec PyProof.Rows L2
/-! ## R4: rules for expressions -/
/-- an exception's fields -/
def XF (G : Wd) (Z : Addr → Prop) (ρ : List Addr) (H : Hp) (ns : List Str) (d : Option Addr) (xs : List D) : Prop := match d with
  | none => xs = [] ∧ ns = []
  | some a => ∃ ws vs, H a = some (.xd ws) ∧ ws.map (·.1) = ns ∧ ws.map (·.2) = vs ∧ RDs G Z ρ H xs vs
/-- the wish about exceptions -/
def WK (G : Wd) (B : Base) (K : XP) : WX := fun cls d σ H => ∃ c C xs T ρ env vh, G.cl c = some C ∧ cls = .ref C ∧ Rel G B T ρ env vh σ H ∧ XF G (ZZ B.F T ρ env σ) ρ H (G.fl c) d xs ∧ K c xs env vh
/-- what comes of a call -/
def ResF (G : Wd) (B : Base) (x : DV) (v : V) (ρ' : List Addr) (vh' : VH) (H' : Hp) : Prop := match x with
  | .v d => Rel G B [] ρ' [] vh' [] H' ∧ RD G (ZZ B.F [] ρ' [] []) ρ' H' d v
  | .fr ds => ∃ a vs, v = .ref a ∧ H' a = some (.lst vs) ∧ Rel G B [a] ρ' [] vh' [] H' ∧ RDs G (ZZ B.F [a] ρ' [] []) ρ' H' ds vs
/-- a promise, as the layer has it -/
def spV (G : Wd) (sp : VSp) : Sp := fun vs H Q E => ∃ (F : Addr → Prop) (ρ : List Addr) (vh : VH) (ds : List D), Rel G ⟨F, fun a => a ∈ ρ, H, ρ⟩ [] ρ [] vh [] H ∧ RDs G (ZZ F [] ρ [] []) ρ H ds vs ∧ sp.run ds vh fun o vh' => match o with
  | .ok x => ∀ ρ' v H', ResF G ⟨F, fun a => a ∈ ρ, H, ρ⟩ x v ρ' vh' H' → Q v H'
  | .exc c xs => ∀ ρ' C d H', G.cl c = some C → Rel G ⟨F, fun a => a ∈ ρ, H, ρ⟩ [] ρ' [] vh' [] H' → XF G (ZZ F [] ρ' [] []) ρ' H' (G.fl c) d xs → E (.ref C) d H'

/-- the names of built-ins that may be called -/
def bltNames : List Str := ["len", "int", "bool", "str", "tuple", "list", "abs", "min", "max", "sum", "all", "any", "range", "zip", "enumerate", "reversed", "isinstance", "dict", "sorted", "set", "repr"]
/-- a name of the module (those within an except suite begin otherwise) -/
def okG (x : Str) : Bool := decide (x.cps.toList.head? ≠ some 37)
/-- an own error that may be made -/
def MkX (G : Wd) (K : PySem.W.Frag) (mg : Str → Option Value) (c : Str) : Prop := ∃ C, G.cl c = some C ∧ ((G.fl c = [] ∧ Ex0 K mg c C) ∨ ∃ f fI, G.fl c = [f] ∧ Ex1 K mg c f C fI)
/-- a class that a clause names; anc: the classes above each error -/
def HdX (G : Wd) (K : PySem.W.Frag) (mg : Str → Option Value) (tb : List (Str × List Str × List Str)) (x : Str) : Prop := (x == ("__debug__" : Str)) = false ∧ ∃ cv, mg x = some cv ∧ ∀ c C, G.cl c = some C → ∀ ns anc, tb.lookup c = some (ns, anc) → ns = G.fl c ∧ PySem.W.exmOne K (.ref C) cv = some (anc.contains x)
/-- what the fields of errors want -/
def FdX (G : Wd) (K : PySem.W.Frag) : Prop := ∀ c C, G.cl c = some C → XfC K C ∧ ∀ f, f ∈ G.fl c → PySem.W.findIn K (.ref C) f = some none
/-- within an except suite calls are not looked at -/
def hotN : Str := "%hot"
/-- a def's own name; methods, classes that are made, attributes stand in the list of names behind . * @ -/
def okF (x : Str) : Bool := match x.cps.toList.head? with
  | some c => !(c == 37 || c == 46 || c == 42 || c == 64)
  | none => true
def pmN (m : Str) : Str := ("." : Str) ++ m
def pcN (m : Str) : Str := ("*" : Str) ++ m
def pfN (m : Str) : Str := ("@" : Str) ++ m
theorem app_head {p : Nat} {x m : Str} (h : x.cps.toList = [p]) : (x ++ m).cps.toList = p :: m.cps.toList := by
  show (x.cps ++ m.cps).toList = _
  rw [Array.toList_append, h]
  rfl
theorem str_inj {x y : Str} (h : x.cps.toList = y.cps.toList) : x = y := by
  cases x; cases y
  exact congrArg Str.mk (Array.toList_inj.mp h)
theorem pmN_list (m : Str) : (pmN m).cps.toList = 46 :: m.cps.toList := app_head rfl
theorem pcN_list (m : Str) : (pcN m).cps.toList = 42 :: m.cps.toList := app_head rfl
theorem pfN_list (m : Str) : (pfN m).cps.toList = 64 :: m.cps.toList := app_head rfl
theorem pmN_inj {m k : Str} (h : pmN m = pmN k) : m = k := str_inj (by
  have := congrArg (fun x : Str => x.cps.toList) h
  simp only [pmN_list] at this
  exact (List.cons.inj this).2)
theorem pcN_inj {m k : Str} (h : pcN m = pcN k) : m = k := str_inj (by
  have := congrArg (fun x : Str => x.cps.toList) h
  simp only [pcN_list] at this
  exact (List.cons.inj this).2)
theorem pfN_inj {m k : Str} (h : pfN m = pfN k) : m = k := str_inj (by
  have := congrArg (fun x : Str => x.cps.toList) h
  simp only [pfN_list] at this
  exact (List.cons.inj this).2)
theorem hd_ne {x y : Str} (h : x.cps.toList.head? ≠ y.cps.toList.head?) : x ≠ y := fun e => h (by rw [e])
theorem pm_hot (m : Str) : pmN m ≠ hotN := hd_ne (by rw [pmN_list]; exact fun h => absurd (Option.some.inj (h.trans (rfl : hotN.cps.toList.head? = some 37))) (by decide))
theorem pc_hot (m : Str) : pcN m ≠ hotN := hd_ne (by rw [pcN_list]; exact fun h => absurd (Option.some.inj (h.trans (rfl : hotN.cps.toList.head? = some 37))) (by decide))
theorem pf_hot (m : Str) : pfN m ≠ hotN := hd_ne (by rw [pfN_list]; exact fun h => absurd (Option.some.inj (h.trans (rfl : hotN.cps.toList.head? = some 37))) (by decide))
theorem pm_pc (m k : Str) : pmN m ≠ pcN k := hd_ne (by rw [pmN_list, pcN_list]; exact fun h => absurd (Option.some.inj h) (by decide))
theorem pm_pf (m k : Str) : pmN m ≠ pfN k := hd_ne (by rw [pmN_list, pfN_list]; exact fun h => absurd (Option.some.inj h) (by decide))
theorem pc_pf (m k : Str) : pcN m ≠ pfN k := hd_ne (by rw [pcN_list, pfN_list]; exact fun h => absurd (Option.some.inj h) (by decide))
theorem ok_pm (m : Str) : okF (pmN m) = false := by unfold okF; rw [pmN_list]; rfl
theorem ok_pc (m : Str) : okF (pcN m) = false := by unfold okF; rw [pcN_list]; rfl
theorem ok_pf (m : Str) : okF (pfN m) = false := by unfold okF; rw [pfN_list]; rfl
structure XOk (X : Cx) (G : Wd) (B : Base) (K : XP) (Φ : Fns) (Γ : Cns) (fs : List Str) : Prop where
  hK : X.K = G.K
  calm : hotN ∉ fs → X.calm = true
  nd : X.N.Nodup
  hu : X.A.units + 64 < cLine
  tk : Takes X (WK G B K)
  fn : ∀ f, f ∈ fs → okF f = true → ∃ (a : Addr) (fd : FuncData) (ps : List Str) (k : Nat), X.mg f = some (.ref a) ∧ PySem.W.keepIn X.K (.ref a) = true ∧ Binds X.K fd ps [] ∧ FnOk X.prog X.w X.K X.mg X.base (L2.CX X.prog X.w) k a fd ps (spV G (Φ f)) ∧ Room k X.A ∧ (f == ("__debug__" : Str)) = false
  cn : ∀ x d, Γ x = some d → okG x = true → ∃ u v, X.mg x = some u ∧ RelV v u ∧ (∀ Z ρ H, RD G Z ρ H d v) ∧ (x == ("__debug__" : Str)) = false
  bl : ∀ x, x ∈ bltNames → X.mg x = none
  mt : ∀ m, pmN m ∈ fs → ∀ c C, G.ci c = some C → (Φ (mN c m)).ex → ∃ (a : Addr) (fd : FuncData) (ps : List Str) (k : Nat), Cls X.K C ∧ Meth X.K C m a ∧ Binds X.K fd ps [] ∧ FnOk X.prog X.w X.K X.mg X.base (L2.CX X.prog X.w) k a fd ps (spV G (Φ (mN c m))) ∧ Room k X.A
  mkC : ∀ c, pcN c ∈ fs → ∃ (C a : Addr) (fd : FuncData) (ps : List Str) (k : Nat), G.ci c = some C ∧ X.mg c = some (.ref C) ∧ Mk X.K C a ∧ Binds X.K fd ps [] ∧ FnOk X.prog X.w X.K X.mg X.base (L2.CX X.prog X.w) k a fd ps (spV G (Φ (mN c "__init__"))) ∧ Room (k + 1) X.A ∧ (c == ("__debug__" : Str)) = false
  ic : ∀ f, pfN f ∈ fs → ∀ c C, G.ci c = some C → Cls X.K C ∧ NoAttr X.K C f
  rm : hotN ∉ fs → X.A.depth + 1 < recursionLimit
  ok : hotN ∉ fs → ∀ x d, Γ x = some d → okG x = true
  er : hotN ∈ fs → ∀ (i : Nat) (f : Str) (e : Expr) (pos : Pos), PE X e (tVar i) → (∀ n, attributeBase e n X.env (eval e X.env) = eval e X.env) → PE X (.Attribute e f pos) (tD G B fun env vh Q => ∃ d, (Op.slt i).raw env = some d ∧ wpAttr Γ vh d f fun z => fin false (.v z) env vh Q)

section
variable {X : Cx} {G : Wd} {B : Base} {K : XP} {Φ : Fns} {Γ : Cns} {fs : List Str}
theorem XOk.blk (o : XOk X G B K Φ Γ fs) (hc : hotN ∉ fs) (B' : Base) (s : Shared) (H : Hp) (scope : Scope) (ce : Env) (fp : List Addr) : XOk (X.blk s H scope ce fp) G B' (fun _ _ _ _ => False) Φ Γ fs :=
  ⟨o.hK, o.calm, o.nd, o.hu, fun u s' x => takes0 u s' (by
    obtain ⟨a, B1, sI, pins, σ, H, cls, d, e, I, nb, up, sky, na, os, ag, w⟩ := x
    obtain ⟨_, _, _, _, _, _, _, _, _, _, _, k⟩ := w
    exact k.elim), o.fn, o.cn, o.bl, o.mt, o.mkC, o.ic, o.rm, o.ok, fun h => absurd h hc⟩

variable {T ρ : List Addr} {env : VE} {vh : VH} {σ : L2.St} {H : Hp}
theorem Rel.res {d : D} {v : V} (R : Rel G B T ρ env vh σ H) (h : RD G (ZZ B.F T ρ env σ) ρ H d v) : Res G B T ρ env σ H (.v d) v ρ env vh H := ⟨Mv.refl, R, h⟩
theorem freezeMv {i : Nat} {d : D} : Mv (ZZ B.F T ρ env σ) ρ H (ZZ B.F T ρ (env.set i (.val d)) σ) ρ H := Mv.less fun b z => by
  rcases z with z | z | z | ⟨j, z⟩
  · exact .inl z
  · exact .inr (.inl z)
  · exact .inr (.inr (.inl z))
  · rcases Own.of_setE z with ⟨_, _, e, _⟩ | q
    · cases e
    · exact .inr (.inr (.inr ⟨j, q.2⟩))

/-! ### constants, names -/
theorem re_flat {e : Expr} {d : D} {v : V} (h : PE X e (tC v)) (hd : ∀ Z ρ H, RD G Z ρ H d v) : PE X e (tD G B fun env vh Q => fin false (.v d) env vh Q) :=
  h.imp fun σ H Q ⟨T, ρ, env, vh, R, w⟩ => w ρ v H (R.res (hd _ _ _))
theorem re_var {i : Nat} {e : Expr} (h : PE X e (tVar i)) : PE X e (tD G B fun env vh Q => wpE Φ Γ (.var i) K false env vh Q) :=
  h.imp fun σ H Q ⟨T, ρ, env, vh, R, w⟩ => by
    obtain ⟨s, hs, w⟩ := w
    have q := R.st i s hs
    cases s with
    | no => exact w.elim
    | val d =>
      obtain ⟨v, e, r⟩ := q
      exact ⟨v, e, w ρ v H (R.res r)⟩
    | own ds =>
      have R2 := R.freeze hs
      have li : i < env.length := (List.getElem?_eq_some_iff.mp hs).1
      obtain ⟨v, e, r⟩ := R2.st i (.val (.lst ds)) (by rw [List.getElem?_set_self li])
      exact ⟨v, e, w ρ v H ⟨freezeMv, R2, r⟩⟩
theorem re_glo (o : XOk X G B K Φ Γ fs) {x : Str} {pos : Pos} (hx : okG x = true) (hg : Gl X x) : PE X (.Name x pos) (tD G B fun env vh Q => wpE Φ Γ (.glo x) K false env vh Q) := by
  refine ⟨fun pins s σ H Q I ⟨T, ρ, env, vh, R, d, hd, w⟩ => ?_⟩
  obtain ⟨u, v, h1, h2, h3, h4⟩ := o.cn x d hd hx
  exact (pe_glob hg h1 h2 h4).run pins s σ H Q I (w ρ v H (R.res (h3 _ _ _)))

/-! ### operands -/
theorem ro_val {e : Expr} {w : VE → VH → QE → Prop} (h : PE X e (tD G B w)) (mono : ∀ env vh (Q Q' : QE), (∀ x e h, Q x e h → Q' x e h) → w env vh Q → w env vh Q') : PE X e (tO G B fun env vh Q => w env vh fun x e1 h1 => Q (.dat x.d) e1 h1) :=
  h.imp fun σ H Q ⟨T, ρ, env, vh, R, q⟩ => ⟨T, ρ, env, vh, R, mono _ _ _ _ (fun x e1 h1 k ρ' v H' r => k ρ' v H' r.d.1 r.d.2.1 r.d.2.2) q⟩
theorem ro_bor {i : Nat} {e : Expr} (h : PE X e (tVar i)) : PE X e (tO G B fun env vh Q => (∃ s, env[i]? = some s ∧ s.ok) ∧ Q (.slt i) env vh) :=
  h.imp fun σ H Q ⟨T, ρ, env, vh, R, ⟨s, hs, ns⟩, w⟩ => by
    have q := R.st i s hs
    cases s with
    | no => exact ns.elim
    | val d =>
      obtain ⟨v, e, r⟩ := q
      exact ⟨v, e, w ρ v H Mv.refl R e⟩
    | own ds =>
      obtain ⟨a, vs, e, _⟩ := q
      exact ⟨.ref a, e, w ρ (.ref a) H Mv.refl R e⟩

/-! ### operators -/
theorem tO2 {wa wb : VE → VH → (Op → VE → VH → Prop) → Prop} (ma : ∀ env vh (Q Q' : Op → VE → VH → Prop), (∀ x e h, Q x e h → Q' x e h) → wa env vh Q → wa env vh Q') (mb : ∀ env vh (Q Q' : Op → VE → VH → Prop), (∀ x e h, Q x e h → Q' x e h) → wb env vh Q → wb env vh Q')
    {R2 : V → V → Hp → Prop} {P : Op → Op → VE → VH → Prop} (R : Rel G B T ρ env vh σ H) (w : wa env vh fun x e1 h1 => wb e1 h1 fun y e2 h2 => P x y e2 h2)
    (f : ∀ x y ρ' env' vh' v u H', Mv (ZZ B.F T ρ env σ) ρ H (ZZ B.F T ρ' env' σ) ρ' H' → Rel G B T ρ' env' vh' σ H' → OpV G (ZZ B.F T ρ' env' σ) ρ' H' σ x v → OpV G (ZZ B.F T ρ' env' σ) ρ' H' σ y u → P x y env' vh' → R2 v u H') :
    tO G B wa σ H fun v H1 => tO G B wb σ H1 fun u H2 => R2 v u H2 :=
  ⟨T, ρ, env, vh, R, ma _ _ _ _ (fun x e1 h1 k ρ1 v H1 m1 R1 o1 => ⟨T, ρ1, e1, h1, R1, mb _ _ _ _ (fun y e2 h2 p ρ2 u H2 m2 Rr o2 => f x y ρ2 e2 h2 v u H2 (m1.trans m2) Rr (o1.move m2) o2 p) k⟩) w⟩
theorem re_bin (o : XOk X G B K Φ Γ fs) {op : Operator} {a b : Expr} {pos : Pos} {wa wb : VE → VH → (Op → VE → VH → Prop) → Prop} (ma : ∀ env vh (Q Q' : Op → VE → VH → Prop), (∀ x e h, Q x e h → Q' x e h) → wa env vh Q → wa env vh Q') (mb : ∀ env vh (Q Q' : Op → VE → VH → Prop), (∀ x e h, Q x e h → Q' x e h) → wb env vh Q → wb env vh Q')
    (ha : PE X a (tO G B wa)) (hb : PE X b (tO G B wb)) :
    PE X (.BinOp a op b pos) (tD G B fun env vh Q => wa env vh fun x e1 h1 => wb e1 h1 fun y e2 h2 => ∃ c d, x.ld e2 h2 = some c ∧ y.ld e2 h2 = some d ∧ wpBin op c d fun z => fin false z e2 h2 Q) :=
  (pe_op (op_bin o.hK) ha hb).imp fun σ H Q ⟨T, ρ, env, vh, R, w⟩ => tO2 ma mb R w fun x y ρ' env' vh' v u H' m R' ox oy ⟨c, d, e1, e2, q⟩ =>
    ⟨_, ρ', c, d, ox.rw R' e1, oy.rw R' e2, wpBin_mono (fun z k v H1 out => k ρ' v H1 (Res.of_out m R' out)) q⟩
theorem re_neg {a : Expr} {pos : Pos} {wa : VE → VH → QE → Prop} (ma : ∀ env vh (Q Q' : QE), (∀ x e h, Q x e h → Q' x e h) → wa env vh Q → wa env vh Q') (ha : PE X a (tD G B wa)) :
    PE X (.UnaryOp .USub a pos) (tD G B fun env vh Q => wa env vh fun x e1 h1 => ∃ i, x = .v (.int i) ∧ fin false (.v (.int (-i))) e1 h1 Q) :=
  (pe_un un_neg ha).imp fun σ H Q ⟨T, ρ, env, vh, R, w⟩ => ⟨T, ρ, env, vh, R, ma _ _ _ _ (fun x e1 h1 ⟨i, ex, k⟩ ρ' v H' r => by
    subst ex
    obtain ⟨m, R', hv⟩ := r
    exact ⟨i, hv, k ρ' _ H' ⟨m, R', rfl⟩⟩) w⟩
/-- a value that is True or False -/
theorem pt_bool {e : Expr} {w : VE → VH → (Bool → VE → VH → Prop) → Prop} (h : PT X e (fun σ H Q => ∃ T ρ env vh, Rel G B T ρ env vh σ H ∧ w env vh fun k env' vh' => ∀ ρ' H', Mv (ZZ B.F T ρ env σ) ρ H (ZZ B.F T ρ' env' σ) ρ' H' → Rel G B T ρ' env' vh' σ H' → Q k H'))
    (mono : ∀ env vh (Q Q' : Bool → VE → VH → Prop), (∀ x e h, Q x e h → Q' x e h) → w env vh Q → w env vh Q') : PT X e (tB G B fun env vh Q => w env vh fun k e h => Q (.v (.bl k)) e h) :=
  h.imp fun σ H Q ⟨T, ρ, env, vh, R, q⟩ => ⟨T, ρ, env, vh, R, mono _ _ _ _ (fun k e h ⟨k', ek, z⟩ ρ' H' m R' => by cases ek; exact z ρ' H' m R') q⟩
theorem re_cmp (o : XOk X G B K Φ Γ fs) {op : CmpOp} {a b : Expr} {pos : Pos} {wa wb : VE → VH → (Op → VE → VH → Prop) → Prop} (ma : ∀ env vh (Q Q' : Op → VE → VH → Prop), (∀ x e h, Q x e h → Q' x e h) → wa env vh Q → wa env vh Q') (mb : ∀ env vh (Q Q' : Op → VE → VH → Prop), (∀ x e h, Q x e h → Q' x e h) → wb env vh Q → wb env vh Q')
    (ha : PE X a (tO G B wa)) (hb : PE X b (tO G B wb)) (hm : behindInMarks op b = false) :
    PE X (.Compare a [op] [b] pos) (tD G B fun env vh Q => wa env vh fun x e1 h1 => wb e1 h1 fun y e2 h2 => ∃ c d, x.ld e2 h2 = some c ∧ y.ld e2 h2 = some d ∧ wpCmp op c d fun k => Q (.v (.bl k)) e2 h2) :=
  (pe_cmpR (op_cmp o.hK o.hu) ha hb hm).imp fun σ H Q ⟨T, ρ, env, vh, R, w⟩ => tO2 ma mb R w fun x y ρ' env' vh' v u H' m R' ox oy ⟨c, d, e1, e2, q⟩ =>
    ⟨_, ρ', c, d, ox.rw R' e1, oy.rw R' e2, wpCmp_mono (fun k z => z ρ' _ H' ⟨m, R', rfl⟩) q⟩
theorem rt_cmp (o : XOk X G B K Φ Γ fs) {op : CmpOp} {a b : Expr} {pos : Pos} {wa wb : VE → VH → (Op → VE → VH → Prop) → Prop} (ma : ∀ env vh (Q Q' : Op → VE → VH → Prop), (∀ x e h, Q x e h → Q' x e h) → wa env vh Q → wa env vh Q') (mb : ∀ env vh (Q Q' : Op → VE → VH → Prop), (∀ x e h, Q x e h → Q' x e h) → wb env vh Q → wb env vh Q')
    (ha : PE X a (tO G B wa)) (hb : PE X b (tO G B wb)) (hm : behindInMarks op b = false) :
    PT X (.Compare a [op] [b] pos) (tB G B fun env vh Q => wa env vh fun x e1 h1 => wb e1 h1 fun y e2 h2 => ∃ c d, x.ld e2 h2 = some c ∧ y.ld e2 h2 = some d ∧ wpCmp op c d fun k => Q (.v (.bl k)) e2 h2) :=
  (pt_cmpR (op_cmp o.hK o.hu) ha hb hm).imp fun σ H Q ⟨T, ρ, env, vh, R, w⟩ => tO2 ma mb R w fun x y ρ' env' vh' v u H' m R' ox oy ⟨c, d, e1, e2, q⟩ =>
    ⟨_, ρ', c, d, ox.rw R' e1, oy.rw R' e2, wpCmp_mono (fun k ⟨k', ek, z⟩ => ⟨k, rfl, by cases ek; exact z ρ' H' m R'⟩) q⟩

theorem ma_chain (o : XOk X G B K Φ Γ fs) {op op' : CmpOp} {a b c : Expr} {wa wb wc : VE → VH → (Op → VE → VH → Prop) → Prop} (ma : ∀ env vh (Q Q' : Op → VE → VH → Prop), (∀ x e h, Q x e h → Q' x e h) → wa env vh Q → wa env vh Q') (mb : ∀ env vh (Q Q' : Op → VE → VH → Prop), (∀ x e h, Q x e h → Q' x e h) → wb env vh Q → wb env vh Q')
    (mc : ∀ env vh (Q Q' : Op → VE → VH → Prop), (∀ x e h, Q x e h → Q' x e h) → wc env vh Q → wc env vh Q') {σ : L2.St} {H : Hp} {Q : VK} {T ρ : List Addr} {env : VE} {vh : VH} (R : Rel G B T ρ env vh σ H)
    (w : wa env vh fun x e1 h1 => wb e1 h1 fun y e2 h2 => ∃ d e, x.ld e2 h2 = some d ∧ y.ld e2 h2 = some e ∧ wpCmp op d e fun k =>
      ifP k (wc e2 h2 fun z e3 h3 => ∃ e f, y.ld e3 h3 = some e ∧ z.ld e3 h3 = some f ∧ wpCmp op' e f fun k => ∀ ρ' H', Mv (ZZ B.F T ρ env σ) ρ H (ZZ B.F T ρ' e3 σ) ρ' H' → Rel G B T ρ' e3 h3 σ H' → Q (.bl k) H')
        (∀ ρ' H', Mv (ZZ B.F T ρ env σ) ρ H (ZZ B.F T ρ' e2 σ) ρ' H' → Rel G B T ρ' e2 h2 σ H' → Q (.bl false) H')) :
    tChain (fun x y H Q => ∃ Z ρ c d, RW G Z ρ H c x ∧ RW G Z ρ H d y ∧ wpCmp op c d fun k => Q (.bl k) H) (fun x y H Q => ∃ Z ρ c d, RW G Z ρ H c x ∧ RW G Z ρ H d y ∧ wpCmp op' c d fun k => Q (.bl k) H) (tO G B wa) (tO G B wb) (tO G B wc) σ H Q :=
  tO2 ma mb R w fun x y ρ' env' vh' v u H' m R' ox oy ⟨d, e, e1, e2, q⟩ => ⟨_, ρ', d, e, ox.rw R' e1, oy.rw R' e2, wpCmp_mono (fun k z => ⟨k, rfl, by
    cases k with
    | false => exact L2.iteF (z ρ' H' m R')
    | true =>
      refine L2.iteT ⟨T, ρ', env', vh', R', mc _ _ _ _ (fun zz e3 h3 ⟨e, f, p1, p2, q3⟩ ρ3 w3 H3 m3 R3 oz => ?_) z⟩
      exact ⟨_, ρ3, e, f, (oy.move m3).rw R3 p1, oz.rw R3 p2, wpCmp_mono (fun k z => z ρ3 H3 (m.trans m3) R3) q3⟩⟩) q⟩
theorem chain_mono {wa wb wc : VE → VH → (Op → VE → VH → Prop) → Prop} (ma : ∀ env vh (Q Q' : Op → VE → VH → Prop), (∀ x e h, Q x e h → Q' x e h) → wa env vh Q → wa env vh Q') (mb : ∀ env vh (Q Q' : Op → VE → VH → Prop), (∀ x e h, Q x e h → Q' x e h) → wb env vh Q → wb env vh Q')
    (mc : ∀ env vh (Q Q' : Op → VE → VH → Prop), (∀ x e h, Q x e h → Q' x e h) → wc env vh Q → wc env vh Q') {op op' : CmpOp} {env : VE} {vh : VH} {P P' : Bool → VE → VH → Prop} (f : ∀ k e h, P k e h → P' k e h)
    (w : wa env vh fun x e1 h1 => wb e1 h1 fun y e2 h2 => ∃ d e, x.ld e2 h2 = some d ∧ y.ld e2 h2 = some e ∧ wpCmp op d e fun k =>
      ifP k (wc e2 h2 fun z e3 h3 => ∃ e f, y.ld e3 h3 = some e ∧ z.ld e3 h3 = some f ∧ wpCmp op' e f fun k => P k e3 h3) (P false e2 h2)) :
    wa env vh fun x e1 h1 => wb e1 h1 fun y e2 h2 => ∃ d e, x.ld e2 h2 = some d ∧ y.ld e2 h2 = some e ∧ wpCmp op d e fun k =>
      ifP k (wc e2 h2 fun z e3 h3 => ∃ e f, y.ld e3 h3 = some e ∧ z.ld e3 h3 = some f ∧ wpCmp op' e f fun k => P' k e3 h3) (P' false e2 h2) :=
  ma _ _ _ _ (fun x e1 h1 => mb _ _ _ _ fun y e2 h2 ⟨d, e, p, q, r⟩ => ⟨d, e, p, q, wpCmp_mono (fun k => ifP_mono (mc _ _ _ _ fun z e3 h3 ⟨e, g, p, q, r⟩ => ⟨e, g, p, q, wpCmp_mono (fun _ => f _ _ _) r⟩) (f _ _ _)) r⟩) w
theorem re_chain (o : XOk X G B K Φ Γ fs) {op op' : CmpOp} {a b c : Expr} {pos : Pos} {wa wb wc : VE → VH → (Op → VE → VH → Prop) → Prop} (ma : ∀ env vh (Q Q' : Op → VE → VH → Prop), (∀ x e h, Q x e h → Q' x e h) → wa env vh Q → wa env vh Q') (mb : ∀ env vh (Q Q' : Op → VE → VH → Prop), (∀ x e h, Q x e h → Q' x e h) → wb env vh Q → wb env vh Q')
    (mc : ∀ env vh (Q Q' : Op → VE → VH → Prop), (∀ x e h, Q x e h → Q' x e h) → wc env vh Q → wc env vh Q') (ha : PE X a (tO G B wa)) (hb : PE X b (tO G B wb)) (hc : PE X c (tO G B wc)) (hm : lastMarks [op, op'] [b, c] = false) :
    PE X (.Compare a [op, op'] [b, c] pos) (tD G B fun env vh Q => wa env vh fun x e1 h1 => wb e1 h1 fun y e2 h2 => ∃ d e, x.ld e2 h2 = some d ∧ y.ld e2 h2 = some e ∧ wpCmp op d e fun k =>
      ifP k (wc e2 h2 fun z e3 h3 => ∃ e f, y.ld e3 h3 = some e ∧ z.ld e3 h3 = some f ∧ wpCmp op' e f fun k => Q (.v (.bl k)) e3 h3) (Q (.v (.bl false)) e2 h2)) :=
  (pe_chain (op_cmp o.hK o.hu) (op_cmp o.hK o.hu) ha hb hc hm).imp fun σ H Q ⟨T, ρ, env, vh, R, w⟩ => ma_chain o (a := a) (b := b) (c := c) ma mb mc R (chain_mono ma mb mc (P := fun k e h => ∀ ρ' v H', Res G B T ρ env σ H (.v (.bl k)) v ρ' e h H' → Q v H') (P' := fun k e h => ∀ ρ' H', Mv (ZZ B.F T ρ env σ) ρ H (ZZ B.F T ρ' e σ) ρ' H' → Rel G B T ρ' e h σ H' → Q (.bl k) H') (fun k e h z ρ' H' m R' => z ρ' _ H' ⟨m, R', rfl⟩) w)
theorem rt_chain (o : XOk X G B K Φ Γ fs) {op op' : CmpOp} {a b c : Expr} {pos : Pos} {wa wb wc : VE → VH → (Op → VE → VH → Prop) → Prop} (ma : ∀ env vh (Q Q' : Op → VE → VH → Prop), (∀ x e h, Q x e h → Q' x e h) → wa env vh Q → wa env vh Q') (mb : ∀ env vh (Q Q' : Op → VE → VH → Prop), (∀ x e h, Q x e h → Q' x e h) → wb env vh Q → wb env vh Q')
    (mc : ∀ env vh (Q Q' : Op → VE → VH → Prop), (∀ x e h, Q x e h → Q' x e h) → wc env vh Q → wc env vh Q') (ha : PE X a (tO G B wa)) (hb : PE X b (tO G B wb)) (hc : PE X c (tO G B wc)) (hm : lastMarks [op, op'] [b, c] = false) :
    PT X (.Compare a [op, op'] [b, c] pos) (tB G B fun env vh Q => wa env vh fun x e1 h1 => wb e1 h1 fun y e2 h2 => ∃ d e, x.ld e2 h2 = some d ∧ y.ld e2 h2 = some e ∧ wpCmp op d e fun k =>
      ifP k (wc e2 h2 fun z e3 h3 => ∃ e f, y.ld e3 h3 = some e ∧ z.ld e3 h3 = some f ∧ wpCmp op' e f fun k => Q (.v (.bl k)) e3 h3) (Q (.v (.bl false)) e2 h2)) :=
  (pt_chain (op_cmp o.hK o.hu) (op_cmp o.hK o.hu) ha hb hc hm).imp fun σ H Q ⟨T, ρ, env, vh, R, w⟩ => ma_chain o (a := a) (b := b) (c := c) (Q := fun x H' => ∃ k, x = .bl k ∧ Q k H') ma mb mc R (chain_mono ma mb mc (P := fun k e h => ∃ k', DV.v (.bl k) = .v (.bl k') ∧ ∀ ρ' H', Mv (ZZ B.F T ρ env σ) ρ H (ZZ B.F T ρ' e σ) ρ' H' → Rel G B T ρ' e h σ H' → Q k' H') (P' := fun k e h => ∀ ρ' H', Mv (ZZ B.F T ρ env σ) ρ H (ZZ B.F T ρ' e σ) ρ' H' → Rel G B T ρ' e h σ H' → ∃ k', V.bl k = .bl k' ∧ Q k' H') (fun k e h ⟨k', ek, z⟩ ρ' H' m R' => ⟨k, rfl, by cases ek; exact z ρ' H' m R'⟩) w)

/-! ### truth -/
theorem RW.tru {K' : PySem.W.Frag} (hK : K' = G.K) {Z : Addr → Prop} {ρ : List Addr} {H : Hp} : ∀ {d : D} {v : V} {k : Bool}, RW G Z ρ H d v → truD d = some k → TruV K' v H k
  | .non, v, k, h, e => by cases (show v = _ from h); cases e; rfl
  | .bl b, v, k, h, e => by cases (show v = _ from h); cases e; rfl
  | .int i, v, k, h, e => by cases (show v = _ from h); cases e; rfl
  | .str x, v, k, h, e => by
    cases (show v = _ from h)
    have e : (if x.length ≤ 16777216 then some ((x.length : Int) != 0) else none) = some k := e
    by_cases q : x.length ≤ 16777216
    · rw [if_pos q] at e
      cases e
      exact ⟨by rw [sizeLine_eq]; exact q, rfl⟩
    · rw [if_neg q] at e
      cases e
  | .tup xs, v, k, h, e => by
    obtain ⟨a, vs, rfl, h1, h2⟩ := h
    cases e
    exact .inr (.inl ⟨vs, by rw [hK]; exact h1, by
      have := h2.length
      cases xs <;> cases vs <;> first | rfl | (simp at this; done)⟩)
  | .lst xs, v, k, h, e => by
    obtain ⟨a, vs, rfl, h1, h2⟩ := h
    cases e
    exact .inl ⟨vs, .of h1, by
      have := h2.length
      cases xs <;> cases vs <;> first | rfl | (simp at this; done)⟩
  | .dct ks xs, v, k, h, e => by
    obtain ⟨a, ws, vs, rfl, h1, e1, e2, h2⟩ := h
    cases e
    refine .inr (.inr ⟨ws, h1, ?_⟩)
    have hl := h2.length
    subst e2
    rw [List.length_map] at hl
    cases ws <;> cases xs <;> first | rfl | (simp at hl; done)
  | .ty _, v, k, h, e => by cases e
  | .adr _, v, k, h, e => by cases e
  | .obj _ _ _, v, k, h, e => by cases e
  | .ref _, v, k, h, e => by cases e
  | .scr _, v, k, h, e => by cases e
/-- any value as a test -/
theorem rt_truth (o : XOk X G B K Φ Γ fs) {e : Expr} {w : VE → VH → QE → Prop} (h : PE X e (tD G B w)) (mono : ∀ env vh (Q Q' : QE), (∀ x e h, Q x e h → Q' x e h) → w env vh Q → w env vh Q') (he : ∀ whole, isTrue e X.env whole = (do let v ← whole; standAt e.pos; holding [v] (truthy v))) :
    PT X e (tB G B fun env vh Q => w env vh fun x e h => fin true x e h Q) :=
  (pt_truth h he).imp fun σ H Q ⟨T, ρ, env, vh, R, q⟩ => ⟨T, ρ, env, vh, R, mono _ _ _ _ (fun x e1 h1 ⟨k, e, k', ek, z⟩ ρ' v H' r => by
    cases ek
    obtain ⟨m, R', hv⟩ := r.d
    cases q : deref h1 x.d with
    | none => rw [q] at e; cases e
    | some d =>
      rw [q] at e
      exact ⟨k, RW.tru o.hK (deref_rw R' hv.w q) e, z ρ' H' m R'⟩) q⟩
theorem rt_bor (o : XOk X G B K Φ Γ fs) {e : Expr} {i : Nat} (h : PE X e (tVar i)) (he : ∀ whole, isTrue e X.env whole = (do let v ← whole; standAt e.pos; holding [v] (truthy v))) :
    PT X e (tB G B fun env vh Q => wpE Φ Γ (.bor i) K true env vh Q) :=
  (pt_truth h he).imp fun σ H Q ⟨T, ρ, env, vh, R, d, k, e1, e2, k', ek, z⟩ => by
    cases ek
    have hs : ∃ s, env[i]? = some s := by
      cases q : env[i]? with
      | none => simp [Op.ld, q] at e1
      | some s => exact ⟨s, rfl⟩
    obtain ⟨s, hs⟩ := hs
    have q := R.st i s hs
    have hv : ∃ v, σ[i]? = some (some v) := by
      cases s with
      | no => simp [Op.ld, hs, Slot.ld] at e1
      | val d => obtain ⟨v, e, _⟩ := q; exact ⟨v, e⟩
      | own ds => obtain ⟨a, vs, e, _⟩ := q; exact ⟨_, e⟩
    obtain ⟨v, hv⟩ := hv
    exact ⟨v, hv, k, RW.tru o.hK (OpV.rw (o := .slt i) R hv e1) e2, z ρ H Mv.refl R⟩

/-! ### and, or, not, if else -/
theorem tB_of {e : Expr} {w w' : VE → VH → QE → Prop} (h : PT X e (tB G B w)) (f : ∀ env vh Q, w' env vh Q → w env vh Q) : PT X e (tB G B w') := h.imp fun σ H Q ⟨T, ρ, env, vh, R, q⟩ => ⟨T, ρ, env, vh, R, f _ _ _ q⟩
theorem tD_of {e : Expr} {w w' : VE → VH → QE → Prop} (h : PE X e (tD G B w)) (f : ∀ env vh Q, w' env vh Q → w env vh Q) : PE X e (tD G B w') := h.imp fun σ H Q ⟨T, ρ, env, vh, R, q⟩ => ⟨T, ρ, env, vh, R, f _ _ _ q⟩
theorem Res.moved {T ρ1 : List Addr} {env1 : VE} {σ : L2.St} {H0 H1 H' : Hp} {ρ0 : List Addr} {env0 : VE} {x : DV} {v : V} {ρ' : List Addr} {env' : VE} {vh' : VH} (m : Mv (ZZ B.F T ρ0 env0 σ) ρ0 H0 (ZZ B.F T ρ1 env1 σ) ρ1 H1) (r : Res G B T ρ1 env1 σ H1 x v ρ' env' vh' H') : Res G B T ρ0 env0 σ H0 x v ρ' env' vh' H' := by
  cases x with
  | v d => exact ⟨m.trans r.1, r.2.1, r.2.2⟩
  | fr ds =>
    obtain ⟨a, vs, e, h1, m2, R, h⟩ := r
    exact ⟨a, vs, e, h1, m.trans m2, R, h⟩
theorem rt_and {a b : Expr} {rest : List Expr} {pos : Pos} {wa wb : VE → VH → QE → Prop} (ma : ∀ env vh (Q Q' : QE), (∀ x e h, Q x e h → Q' x e h) → wa env vh Q → wa env vh Q') (mb : ∀ env vh (Q Q' : QE), (∀ x e h, Q x e h → Q' x e h) → wb env vh Q → wb env vh Q')
    (ha : PT X a (tB G B wa)) (hb : PW X (.BoolOp .And (b :: rest) pos) (tB G B wb)) : PW X (.BoolOp .And (a :: b :: rest) pos) (tB G B fun env vh Q => wa env vh fun x e1 h1 => ∃ k, x = .v (.bl k) ∧ ifP k (wb e1 h1 Q) (Q (.v (.bl false)) e1 h1)) := by
  refine ⟨fun wh pins s σ H Q I ⟨T, ρ, env, vh, R, w⟩ => (pw_and ha hb).run wh pins s σ H Q I ⟨T, ρ, env, vh, R, ma _ _ _ _ (fun x e1 h1 ⟨k, ex, z⟩ => ⟨k, ex, fun ρ' H' m R' => ?_⟩) w⟩⟩
  cases k with
  | false =>
    obtain ⟨k', ek, z⟩ := z
    cases ek
    exact L2.iteF (z ρ' H' m R')
  | true => exact L2.iteT ⟨T, ρ', e1, h1, R', mb _ _ _ _ (fun y e2 h2 ⟨k, ey, z⟩ => ⟨k, ey, fun ρ2 H2 m2 R2 => z ρ2 H2 (m.trans m2) R2⟩) z⟩
theorem rt_or {a b : Expr} {rest : List Expr} {pos : Pos} {wa wb : VE → VH → QE → Prop} (ma : ∀ env vh (Q Q' : QE), (∀ x e h, Q x e h → Q' x e h) → wa env vh Q → wa env vh Q') (mb : ∀ env vh (Q Q' : QE), (∀ x e h, Q x e h → Q' x e h) → wb env vh Q → wb env vh Q')
    (ha : PT X a (tB G B wa)) (hb : PW X (.BoolOp .Or (b :: rest) pos) (tB G B wb)) : PW X (.BoolOp .Or (a :: b :: rest) pos) (tB G B fun env vh Q => wa env vh fun x e1 h1 => ∃ k, x = .v (.bl k) ∧ ifP k (Q (.v (.bl true)) e1 h1) (wb e1 h1 Q)) := by
  refine ⟨fun wh pins s σ H Q I ⟨T, ρ, env, vh, R, w⟩ => (pw_or ha hb).run wh pins s σ H Q I ⟨T, ρ, env, vh, R, ma _ _ _ _ (fun x e1 h1 ⟨k, ex, z⟩ => ⟨k, ex, fun ρ' H' m R' => ?_⟩) w⟩⟩
  cases k with
  | true =>
    obtain ⟨k', ek, z⟩ := z
    cases ek
    exact L2.iteT (z ρ' H' m R')
  | false => exact L2.iteF ⟨T, ρ', e1, h1, R', mb _ _ _ _ (fun y e2 h2 ⟨k, ey, z⟩ => ⟨k, ey, fun ρ2 H2 m2 R2 => z ρ2 H2 (m.trans m2) R2⟩) z⟩
theorem re_and (o : XOk X G B K Φ Γ fs) {a b : Expr} {rest : List Expr} {pos : Pos} {wa wb : VE → VH → QE → Prop} (ma : ∀ env vh (Q Q' : QE), (∀ x e h, Q x e h → Q' x e h) → wa env vh Q → wa env vh Q') (mb : ∀ env vh (Q Q' : QE), (∀ x e h, Q x e h → Q' x e h) → wb env vh Q → wb env vh Q')
    (ha : PE X a (tD G B wa)) (hb : PE X (.BoolOp .And (b :: rest) pos) (tD G B wb)) : PE X (.BoolOp .And (a :: b :: rest) pos) (tD G B fun env vh Q => wa env vh fun x e1 h1 => ∃ d k, x = .v d ∧ (deref h1 d).bind truD = some k ∧ ifP k (wb e1 h1 Q) (Q x e1 h1)) :=
  (pe_andT ha hb).imp fun σ H Q ⟨T, ρ, env, vh, R, w⟩ => ⟨T, ρ, env, vh, R, ma _ _ _ _ (fun x e1 h1 ⟨d, k, ex, e, z⟩ ρ' v H' r => by
    subst ex
    obtain ⟨m, R', hv⟩ := id r
    cases q : deref h1 d with
    | none => rw [q] at e; cases e
    | some d' =>
      rw [q] at e
      refine ⟨k, RW.tru o.hK (deref_rw R' hv.w q) e, ?_⟩
      cases k with
      | false => exact L2.iteF (z ρ' v H' r)
      | true => exact L2.iteT ⟨T, ρ', e1, h1, R', mb _ _ _ _ (fun y e2 h2 z ρ2 v2 H2 r2 => z ρ2 v2 H2 (Res.moved m r2)) z⟩) w⟩
theorem re_or (o : XOk X G B K Φ Γ fs) {a b : Expr} {rest : List Expr} {pos : Pos} {wa wb : VE → VH → QE → Prop} (ma : ∀ env vh (Q Q' : QE), (∀ x e h, Q x e h → Q' x e h) → wa env vh Q → wa env vh Q') (mb : ∀ env vh (Q Q' : QE), (∀ x e h, Q x e h → Q' x e h) → wb env vh Q → wb env vh Q')
    (ha : PE X a (tD G B wa)) (hb : PE X (.BoolOp .Or (b :: rest) pos) (tD G B wb)) : PE X (.BoolOp .Or (a :: b :: rest) pos) (tD G B fun env vh Q => wa env vh fun x e1 h1 => ∃ d k, x = .v d ∧ (deref h1 d).bind truD = some k ∧ ifP k (Q x e1 h1) (wb e1 h1 Q)) :=
  (pe_orT ha hb).imp fun σ H Q ⟨T, ρ, env, vh, R, w⟩ => ⟨T, ρ, env, vh, R, ma _ _ _ _ (fun x e1 h1 ⟨d, k, ex, e, z⟩ ρ' v H' r => by
    subst ex
    obtain ⟨m, R', hv⟩ := id r
    cases q : deref h1 d with
    | none => rw [q] at e; cases e
    | some d' =>
      rw [q] at e
      refine ⟨k, RW.tru o.hK (deref_rw R' hv.w q) e, ?_⟩
      cases k with
      | true => exact L2.iteT (z ρ' v H' r)
      | false => exact L2.iteF ⟨T, ρ', e1, h1, R', mb _ _ _ _ (fun y e2 h2 z ρ2 v2 H2 r2 => z ρ2 v2 H2 (Res.moved m r2)) z⟩) w⟩
theorem rt_not {a : Expr} {pos : Pos} {wa : VE → VH → QE → Prop} (ma : ∀ env vh (Q Q' : QE), (∀ x e h, Q x e h → Q' x e h) → wa env vh Q → wa env vh Q') (ha : PT X a (tB G B wa)) :
    PT X (.UnaryOp .Not a pos) (tB G B fun env vh Q => wa env vh fun x e1 h1 => ∃ k, x = .v (.bl k) ∧ Q (.v (.bl (!k))) e1 h1) :=
  (pt_not ha).imp fun σ H Q ⟨T, ρ, env, vh, R, w⟩ => ⟨T, ρ, env, vh, R, ma _ _ _ _ (fun x e1 h1 ⟨k, ex, k', ek, z⟩ => ⟨k, ex, fun ρ' H' m R' => by cases ek; exact z ρ' H' m R'⟩) w⟩
theorem re_not (o : XOk X G B K Φ Γ fs) {a : Expr} {pos : Pos} {wa : VE → VH → (Op → VE → VH → Prop) → Prop} (ma : ∀ env vh (Q Q' : Op → VE → VH → Prop), (∀ x e h, Q x e h → Q' x e h) → wa env vh Q → wa env vh Q') (ha : PE X a (tO G B wa)) :
    PE X (.UnaryOp .Not a pos) (tD G B fun env vh Q => wa env vh fun x e1 h1 => ∃ d k, x.ld e1 h1 = some d ∧ truD d = some k ∧ Q (.v (.bl (!k))) e1 h1) :=
  (pe_notT ha).imp fun σ H Q ⟨T, ρ, env, vh, R, w⟩ => ⟨T, ρ, env, vh, R, ma _ _ _ _ (fun x e1 h1 ⟨d, k, e1, e2, z⟩ ρ' v H' m R' ov => ⟨k, RW.tru o.hK (ov.rw R' e1) e2, z ρ' _ H' ⟨m, R', rfl⟩⟩) w⟩
theorem re_ite {c a b : Expr} {pos : Pos} {wc wa wb : VE → VH → QE → Prop} (mc : ∀ env vh (Q Q' : QE), (∀ x e h, Q x e h → Q' x e h) → wc env vh Q → wc env vh Q') (ma : ∀ env vh (Q Q' : QE), (∀ x e h, Q x e h → Q' x e h) → wa env vh Q → wa env vh Q') (mb : ∀ env vh (Q Q' : QE), (∀ x e h, Q x e h → Q' x e h) → wb env vh Q → wb env vh Q')
    (hc : PT X c (tB G B wc)) (ha : PE X a (tD G B wa)) (hb : PE X b (tD G B wb)) : PE X (.IfExp c a b pos) (tD G B fun env vh Q => wc env vh fun x e1 h1 => ∃ k, x = .v (.bl k) ∧ ifP k (wa e1 h1 Q) (wb e1 h1 Q)) :=
  (pe_ifExp hc ha hb).imp fun σ H Q ⟨T, ρ, env, vh, R, w⟩ => ⟨T, ρ, env, vh, R, mc _ _ _ _ (fun x e1 h1 ⟨k, ex, z⟩ => ⟨k, ex, fun ρ' H' m R' => by
    cases k with
    | true => exact L2.iteT ⟨T, ρ', e1, h1, R', ma _ _ _ _ (fun y e2 h2 z ρ2 v2 H2 r2 => z ρ2 v2 H2 (Res.moved m r2)) z⟩
    | false => exact L2.iteF ⟨T, ρ', e1, h1, R', mb _ _ _ _ (fun y e2 h2 z ρ2 v2 H2 r2 => z ρ2 v2 H2 (Res.moved m r2)) z⟩⟩) w⟩
theorem pt_ifExp {c a b : Expr} {pos : Pos} {tc ta tb : TT} (hc : PT X c tc) (ha : PT X a ta) (hb : PT X b tb) : PT X (.IfExp c a b pos) (fun σ H Q => tc σ H fun k H1 => if k = true then ta σ H1 Q else tb σ H1 Q) := by
  refine ⟨fun pins s σ H Q I h => ?_⟩
  refine isTrue_IfExp (thn (hc.run pins s σ H _ I h) fun d s1 ⟨H1, I1, q1⟩ => ?_)
  cases d with
  | true => exact ha.run pins s1 σ H1 Q I1 q1
  | false => exact hb.run pins s1 σ H1 Q I1 q1
theorem rt_ite {c a b : Expr} {pos : Pos} {wc wa wb : VE → VH → QE → Prop} (mc : ∀ env vh (Q Q' : QE), (∀ x e h, Q x e h → Q' x e h) → wc env vh Q → wc env vh Q') (ma : ∀ env vh (Q Q' : QE), (∀ x e h, Q x e h → Q' x e h) → wa env vh Q → wa env vh Q') (mb : ∀ env vh (Q Q' : QE), (∀ x e h, Q x e h → Q' x e h) → wb env vh Q → wb env vh Q')
    (hc : PT X c (tB G B wc)) (ha : PT X a (tB G B wa)) (hb : PT X b (tB G B wb)) : PT X (.IfExp c a b pos) (tB G B fun env vh Q => wc env vh fun x e1 h1 => ∃ k, x = .v (.bl k) ∧ ifP k (wa e1 h1 Q) (wb e1 h1 Q)) :=
  (pt_ifExp hc ha hb).imp fun σ H Q ⟨T, ρ, env, vh, R, w⟩ => ⟨T, ρ, env, vh, R, mc _ _ _ _ (fun x e1 h1 ⟨k, ex, z⟩ => ⟨k, ex, fun ρ' H' m R' => by
    cases k with
    | true => exact L2.iteT ⟨T, ρ', e1, h1, R', ma _ _ _ _ (fun y e2 h2 ⟨k, ek, z⟩ => ⟨k, ek, fun ρ2 H2 m2 R2 => z ρ2 H2 (m.trans m2) R2⟩) z⟩
    | false => exact L2.iteF ⟨T, ρ', e1, h1, R', mb _ _ _ _ (fun y e2 h2 ⟨k, ek, z⟩ => ⟨k, ek, fun ρ2 H2 m2 R2 => z ρ2 H2 (m.trans m2) R2⟩) z⟩⟩) w⟩

/-! ### items, slices -/
theorem re_idx (o : XOk X G B K Φ Γ fs) {a b : Expr} {pos : Pos} {wa wb : VE → VH → (Op → VE → VH → Prop) → Prop} (ma : ∀ env vh (Q Q' : Op → VE → VH → Prop), (∀ x e h, Q x e h → Q' x e h) → wa env vh Q → wa env vh Q') (mb : ∀ env vh (Q Q' : Op → VE → VH → Prop), (∀ x e h, Q x e h → Q' x e h) → wb env vh Q → wb env vh Q')
    (ha : PE X a (tO G B wa)) (hb : PE X b (tO G B wb)) (hs : PlainIx b) :
    PE X (.Subscript a b pos) (tD G B fun env vh Q => wa env vh fun x e1 h1 => wb e1 h1 fun y e2 h2 => ∃ c d, x.ld e2 h2 = some c ∧ y.ld e2 h2 = some d ∧ wpIdx c d fun z => fin false (.v z) e2 h2 Q) :=
  (pe_ix (ix_d o.hK) ha hb hs).imp fun σ H Q ⟨T, ρ, env, vh, R, w⟩ => tO2 ma mb R w fun x y ρ' env' vh' v u H' m R' ox oy ⟨c, d, e1, e2, q⟩ =>
    ⟨_, ρ', c, d, ox.rw R' e1, oy.rw R' e2, wpIdx_mono (fun z k v hv => k ρ' v H' ⟨m, R', hv⟩) q⟩
/-- a slice's part -/
theorem ro_part {e : Expr} {w : VE → VH → QE → Prop} (h : PE X e (tD G B w)) : PO X (some e) (tPart (tD G B w)) := po_some h
theorem re_sli (o : XOk X G B K Φ Γ fs) {a : Expr} {lo hi : Option Expr} {pos p2 : Pos} {wa : VE → VH → (Op → VE → VH → Prop) → Prop} {wl wh : VE → VH → QE → Prop} (ma : ∀ env vh (Q Q' : Op → VE → VH → Prop), (∀ x e h, Q x e h → Q' x e h) → wa env vh Q → wa env vh Q')
    (ml : ∀ env vh (Q Q' : QE), (∀ x e h, Q x e h → Q' x e h) → wl env vh Q → wl env vh Q') (mh : ∀ env vh (Q Q' : QE), (∀ x e h, Q x e h → Q' x e h) → wh env vh Q → wh env vh Q') (ha : PE X a (tO G B wa))
    (hl : (lo = none ∧ ∀ env vh Q, wl env vh Q → Q (.v .non) env vh) ∨ ∃ e, lo = some e ∧ PE X e (tD G B wl)) (hh : (hi = none ∧ ∀ env vh Q, wh env vh Q → Q (.v .non) env vh) ∨ ∃ e, hi = some e ∧ PE X e (tD G B wh)) :
    PE X (.Subscript a (.Slice lo hi none p2) pos) (tD G B fun env vh Q => wa env vh fun x e1 h1 => wl e1 h1 fun l e2 h2 => ∃ i, partD l = some i ∧ wh e2 h2 fun u e3 h3 => ∃ c j, x.ld e3 h3 = some c ∧ partD u = some j ∧ wpSli c i j fun z => fin false z e3 h3 Q) := by
  have part : ∀ {q : Option Expr} {w : VE → VH → QE → Prop}, (∀ env vh (Q Q' : QE), (∀ x e h, Q x e h → Q' x e h) → w env vh Q → w env vh Q') → ((q = none ∧ ∀ env vh Q, w env vh Q → Q (.v .non) env vh) ∨ ∃ e, q = some e ∧ PE X e (tD G B w)) →
      PO X q (fun σ H Q => ∃ T ρ env vh, Rel G B T ρ env vh σ H ∧ w env vh fun x e1 h1 => ∃ i, partD x = some i ∧ ∀ ρ' H', Mv (ZZ B.F T ρ env σ) ρ H (ZZ B.F T ρ' e1 σ) ρ' H' → Rel G B T ρ' e1 h1 σ H' → Q i H') := by
    rintro q w mono (⟨rfl, h⟩ | ⟨e, rfl, h⟩)
    · refine ⟨fun pins s σ H Q I ⟨T, ρ, env, vh, R, z⟩ => po_none.run pins s σ H Q I ?_⟩
      obtain ⟨i, ei, z⟩ := h _ _ _ z
      cases ei
      exact z ρ H Mv.refl R
    · refine ⟨fun pins s σ H Q I hw => ?_⟩
      obtain ⟨T, ρ, env, vh, R, z⟩ := hw
      rw [evalPart_some]
      have hz : tD G B w σ H (fun v H1 => ∃ o, ((o = none ∧ v = .non) ∨ ∃ i, v = .int i ∧ o = some i) ∧ Q o H1) := by
        refine ⟨T, ρ, env, vh, R, mono _ _ _ _ (fun x e1 h1 y ρ' v H' r => ?_) z⟩
        obtain ⟨i, ei, z⟩ := y
        obtain ⟨m, R', hv⟩ := r.d
        cases x with
        | fr ds => cases ei
        | v d =>
          cases d with
          | int k =>
            cases ei
            exact ⟨_, .inr ⟨k, hv, rfl⟩, z ρ' H' m R'⟩
          | non =>
            cases ei
            exact ⟨_, .inl ⟨rfl, hv⟩, z ρ' H' m R'⟩
          | _ => cases ei
      refine thn (h.run pins s σ H _ I hz) fun u s1 y => ?_
      obtain ⟨v, H1, I1, r1, oo, q1, q2⟩ := y
      rcases q1 with ⟨rfl, rfl⟩ | ⟨i, rfl, rfl⟩
      · cases r1
        exact ⟨none, H1, I1, .none, q2⟩
      · obtain ⟨t, rfl⟩ := r1
        exact ⟨some i, H1, I1, .int i t, q2⟩
  refine (pe_slice (sl_d o.hK) ha (part ml hl) (part mh hh)).imp fun σ H Q ⟨T, ρ, env, vh, R, w⟩ => ?_
  refine ⟨T, ρ, env, vh, R, ma _ _ _ _ (fun x e1 h1 k ρ1 v1 H1 m1 R1 o1 => ?_) w⟩
  refine ⟨T, ρ1, e1, h1, R1, ml _ _ _ _ (fun l e2 h2 ⟨i, ql, k⟩ => ⟨i, ql, fun ρ2 H2 m2 R2 => ?_⟩) k⟩
  refine ⟨T, ρ2, e2, h2, R2, mh _ _ _ _ (fun u e3 h3 ⟨c, j, p1, p3, z⟩ => ⟨j, p3, fun ρ3 H3 m3 R3 => ?_⟩) k⟩
  exact ⟨_, ρ3, c, ((o1.move m2).move m3).rw R3 p1, wpSli_mono (fun z k v H4 out => k ρ3 v H4 (Res.of_out ((m1.trans m2).trans m3) R3 out)) z⟩

/-! ### lists of parts -/
theorem ra_nil : PA X [] (tL G B fun env vh Q => Q [] env vh) := pa_nil.imp fun σ H Q ⟨T, ρ, env, vh, R, w⟩ => w ρ [] H Mv.refl R rfl
theorem ra_cons {e : Expr} {es : List Expr} {w : VE → VH → QE → Prop} {ws : VE → VH → (List D → VE → VH → Prop) → Prop} (m1 : ∀ env vh (Q Q' : QE), (∀ x e h, Q x e h → Q' x e h) → w env vh Q → w env vh Q') (m2 : ∀ env vh (Q Q' : List D → VE → VH → Prop), (∀ x e h, Q x e h → Q' x e h) → ws env vh Q → ws env vh Q')
    (h1 : PE X e (tD G B w)) (h2 : PA X es (tL G B ws)) (hs : starEach (e :: es) X.env = (false, eval e X.env) :: starEach es X.env) :
    PA X (e :: es) (tL G B fun env vh Q => w env vh fun x e1 h1 => ws e1 h1 fun xs e2 h2 => Q (x.d :: xs) e2 h2) :=
  (pa_cons h1 h2 hs).imp fun σ H Q ⟨T, ρ, env, vh, R, q⟩ => ⟨T, ρ, env, vh, R, m1 _ _ _ _ (fun x e1 h1 k ρ1 v H1 r => by
    obtain ⟨mv, R1, hv⟩ := r.d
    exact ⟨T, ρ1, e1, h1, R1, m2 _ _ _ _ (fun xs e2 h2 k ρ2 vs H2 mv2 R2 hvs => k ρ2 (v :: vs) H2 (mv.trans mv2) R2 ⟨v, vs, rfl, RD.move mv2 _ _ hv, hvs⟩) k⟩) q⟩
theorem ros_nil : PA X [] (tOs G B fun env vh Q => Q [] env vh) := pa_nil.imp fun σ H Q ⟨T, ρ, env, vh, R, w⟩ => w ρ [] H Mv.refl R rfl
theorem OpVs.move {Z Z' : Addr → Prop} {ρ ρ' : List Addr} {H H' : Hp} {σ : L2.St} (m : Mv Z ρ H Z' ρ' H') : ∀ {os : List Op} {vs : List V}, OpVs G Z ρ H σ os vs → OpVs G Z' ρ' H' σ os vs
  | [], vs, h => h
  | o :: os, vs, h => by
    obtain ⟨v, r, e, h1, h2⟩ := h
    exact ⟨v, r, e, h1.move m, OpVs.move m h2⟩
theorem ros_cons {e : Expr} {es : List Expr} {w : VE → VH → (Op → VE → VH → Prop) → Prop} {ws : VE → VH → (List Op → VE → VH → Prop) → Prop} (m1 : ∀ env vh (Q Q' : Op → VE → VH → Prop), (∀ x e h, Q x e h → Q' x e h) → w env vh Q → w env vh Q') (m2 : ∀ env vh (Q Q' : List Op → VE → VH → Prop), (∀ x e h, Q x e h → Q' x e h) → ws env vh Q → ws env vh Q')
    (h1 : PE X e (tO G B w)) (h2 : PA X es (tOs G B ws)) (hs : starEach (e :: es) X.env = (false, eval e X.env) :: starEach es X.env) :
    PA X (e :: es) (tOs G B fun env vh Q => w env vh fun x e1 h1 => ws e1 h1 fun xs e2 h2 => Q (x :: xs) e2 h2) :=
  (pa_cons h1 h2 hs).imp fun σ H Q ⟨T, ρ, env, vh, R, q⟩ => ⟨T, ρ, env, vh, R, m1 _ _ _ _ (fun x e1 h1 k ρ1 v H1 mv R1 ov =>
    ⟨T, ρ1, e1, h1, R1, m2 _ _ _ _ (fun xs e2 h2 k ρ2 vs H2 mv2 R2 ovs => k ρ2 (v :: vs) H2 (mv.trans mv2) R2 ⟨v, vs, rfl, ov.move mv2, ovs⟩) k⟩) q⟩
theorem re_tup {es : List Expr} {x1 : Nat} {pos : Pos} {ws : VE → VH → (List D → VE → VH → Prop) → Prop} (m : ∀ env vh (Q Q' : List D → VE → VH → Prop), (∀ x e h, Q x e h → Q' x e h) → ws env vh Q → ws env vh Q') (h : PA X es (tL G B ws)) :
    PE X (.Tuple es x1 pos) (tD G B fun env vh Q => ws env vh fun ds e1 h1 => ds.length ≤ 16777216 ∧ fin false (.v (.tup ds)) e1 h1 Q) :=
  (pe_tup h).imp fun σ H Q ⟨T, ρ, env, vh, R, w⟩ => ⟨T, ρ, env, vh, R, m _ _ _ _ (fun ds e1 h1 ⟨hz, k⟩ ρ' vs H' mv R' hv => ⟨by rw [sizeLine_eq, ← hv.length]; exact hz, fun p hp => k ρ' _ _ (Res.of_out mv R' (out_tup hp hv))⟩) w⟩
theorem re_lst {es : List Expr} {pos : Pos} {ws : VE → VH → (List D → VE → VH → Prop) → Prop} (m : ∀ env vh (Q Q' : List D → VE → VH → Prop), (∀ x e h, Q x e h → Q' x e h) → ws env vh Q → ws env vh Q') (h : PA X es (tL G B ws)) :
    PE X (.List es pos) (tD G B fun env vh Q => ws env vh fun ds e1 h1 => ds.length ≤ 16777216 ∧ fin false (.fr ds) e1 h1 Q) :=
  (pe_lst h).imp fun σ H Q ⟨T, ρ, env, vh, R, w⟩ => ⟨T, ρ, env, vh, R, m _ _ _ _ (fun ds e1 h1 ⟨hz, k⟩ ρ' vs H' mv R' hv => ⟨by rw [sizeLine_eq, ← hv.length]; exact hz, fun p hp => k ρ' _ _ (Res.of_out mv R' (out_lst hp hv))⟩) w⟩

/-! ### calls -/
theorem re_blt (o : XOk X G B K Φ Γ fs) (hc : hotN ∉ fs) {f : Bf} {x : Str} {e : Expr} {es : List Expr} {p pos : Pos} {ws : VE → VH → (List Op → VE → VH → Prop) → Prop} (m : ∀ env vh (Q Q' : List Op → VE → VH → Prop), (∀ x e h, Q x e h → Q' x e h) → ws env vh Q → ws env vh Q')
    (h : PA X (e :: es) (tOs G B ws)) (hx : x = bltN f) (hg : Gl X x) (he : starEach (e :: es) X.env = (false, eval e X.env) :: starEach es X.env) (hpl : (backTo pos (starEach es X.env)).any (·.1) = false) :
    PE X (.Call (.Name x p) (e :: es) [] pos) (tD G B fun env vh Q => ws env vh fun xs e1 h1 => ∃ ds, ldAll e1 h1 xs = some ds ∧ wpBlt f ds fun z => fin false z e1 h1 Q) := by
  have fin_ : ∀ {t0 : TE}, t0 = tCB (fun xs H Q => ∃ Z ρ ds, RWs G Z ρ H ds xs ∧ wpBlt f ds fun z => ∀ v H', OutV G Z ρ H z v H' → Q v H') (tOs G B ws) → ∀ σ H Q, tD G B (fun env vh Q => ws env vh fun xs e1 h1 => ∃ ds, ldAll e1 h1 xs = some ds ∧ wpBlt f ds fun z => fin false z e1 h1 Q) σ H Q → t0 σ H Q := by
    rintro t0 rfl σ H Q ⟨T, ρ, env, vh, R, w⟩
    exact ⟨T, ρ, env, vh, R, m _ _ _ _ (fun xs e1 h1 ⟨ds, ed, k⟩ ρ' vs H' mv R' hv => ⟨_, ρ', ds, OpVs.rw R' hv ed, wpBlt_mono (fun z k v H1 out => k ρ' v H1 (Res.of_out mv R' out)) k⟩) w⟩
  have hm : X.mg x = none := o.bl x (by rw [hx]; cases f <;> decide +kernel)
  subst hx
  cases f with
  | len => exact (pe_callB (call_d o.hK (o.calm hc) .len) hg hm (by decide +kernel) h (by decide +kernel) (by decide +kernel) he hpl).imp (fin_ rfl)
  | int => exact (pe_callTy (call_d o.hK (o.calm hc) .int) hg hm (by decide +kernel) h (by decide +kernel) (by decide +kernel) he hpl).imp (fin_ rfl)
  | bool => exact (pe_callTy (call_d o.hK (o.calm hc) .bool) hg hm (by decide +kernel) h (by decide +kernel) (by decide +kernel) he hpl).imp (fin_ rfl)
  | str => exact (pe_callTy (call_d o.hK (o.calm hc) .str) hg hm (by decide +kernel) h (by decide +kernel) (by decide +kernel) he hpl).imp (fin_ rfl)
  | tuple => exact (pe_callTy (call_d o.hK (o.calm hc) .tuple) hg hm (by decide +kernel) h (by decide +kernel) (by decide +kernel) he hpl).imp (fin_ rfl)
  | list => exact (pe_callTy (call_d o.hK (o.calm hc) .list) hg hm (by decide +kernel) h (by decide +kernel) (by decide +kernel) he hpl).imp (fin_ rfl)
  | abs => exact (pe_callB (call_d o.hK (o.calm hc) .abs) hg hm (by decide +kernel) h (by decide +kernel) (by decide +kernel) he hpl).imp (fin_ rfl)
  | min2 => exact (pe_callB (call_d o.hK (o.calm hc) .min2) hg hm (by decide +kernel) h (by decide +kernel) (by decide +kernel) he hpl).imp (fin_ rfl)
  | max2 => exact (pe_callB (call_d o.hK (o.calm hc) .max2) hg hm (by decide +kernel) h (by decide +kernel) (by decide +kernel) he hpl).imp (fin_ rfl)
  | sum => exact (pe_callB (call_d o.hK (o.calm hc) .sum) hg hm (by decide +kernel) h (by decide +kernel) (by decide +kernel) he hpl).imp (fin_ rfl)
  | all => exact (pe_callB (call_d o.hK (o.calm hc) .all) hg hm (by decide +kernel) h (by decide +kernel) (by decide +kernel) he hpl).imp (fin_ rfl)
  | any => exact (pe_callB (call_d o.hK (o.calm hc) .any) hg hm (by decide +kernel) h (by decide +kernel) (by decide +kernel) he hpl).imp (fin_ rfl)
  | sorted => exact (pe_callB (call_d o.hK (o.calm hc) .sorted) hg hm (by decide +kernel) h (by decide +kernel) (by decide +kernel) he hpl).imp (fin_ rfl)
  | min1 => exact (pe_callB (call_d o.hK (o.calm hc) .min1) hg hm (by decide +kernel) h (by decide +kernel) (by decide +kernel) he hpl).imp (fin_ rfl)
  | max1 => exact (pe_callB (call_d o.hK (o.calm hc) .max1) hg hm (by decide +kernel) h (by decide +kernel) (by decide +kernel) he hpl).imp (fin_ rfl)

theorem res_of_f {x : DV} {v : V} {ρ' : List Addr} {vh' : VH} {H' : Hp} (R : Rel G B T ρ env vh σ H) (r : ResF G (B.callee T ρ env σ H) x v ρ' vh' H') : Res G B T ρ env σ H x v ρ' env vh' H' := by
  cases x with
  | v d =>
    obtain ⟨S, h⟩ := r
    have m := R.backMv S
    have S2 := R.back S
    rw [Rel.backZ (B := B) (H := H) (H' := H')] at h
    exact ⟨m, S2, h⟩
  | fr ds =>
    obtain ⟨a, vs, e, h1, S, h⟩ := r
    have m := R.backMv S
    have S2 := R.back S
    rw [Rel.backZ (B := B) (H := H) (H' := H')] at h
    exact ⟨a, vs, e, h1, m, S2, h⟩
/-- the heart of a call -/
theorem call_hw {sp : VSp} {ds : List D} {vs : List V} {Q : VK} {Kx : XP} {QQ : DV → VH → Prop} (R : Rel G B T ρ env vh σ H) (h : RDs G (ZZ B.F T ρ env σ) ρ H ds vs)
    (w : sp.run ds vh fun o h2 => match o with
      | .ok x => QQ x h2
      | .exc c xs => Kx c xs env h2) (f : ∀ x h2, QQ x h2 → ∀ ρ' v H', Res G B T ρ env σ H x v ρ' env h2 H' → Q v H') : spV G sp vs H Q (WE (WK G B Kx) σ) := by
  have hh : RDs G (ZZ (B.callee T ρ env σ H).F [] ρ [] []) ρ H ds vs := by rw [calleeZ]; exact h
  refine ⟨(B.callee T ρ env σ H).F, ρ, vh, ds, R.enter, hh, sp.mono _ _ _ _ (fun o h2 k => ?_) w⟩
  cases o with
  | ok x => exact fun ρ' v H' r => f x h2 k ρ' v H' (res_of_f R r)
  | exc c xs =>
    intro ρ' C d H' hc S hx
    have S2 := R.back S
    have hx2 : XF G (ZZ B.F ([] ++ T) ρ' env σ) ρ' H' (G.fl c) d xs := by rw [← Rel.backZ (B := B) (T := T) (ρ := ρ) (env := env) (σ := σ) (H := H) (H' := H')]; exact hx
    exact ⟨c, C, xs, [] ++ T, ρ', env, h2, hc, rfl, S2, hx2, k⟩
theorem pe_callS0 {k : Nat} {f : Addr} {fd : FuncData} {ps : List Str} {sp : Sp} {E : L2.St → XK} {x : Str} {p pos : Pos} (F : FnOk X.prog X.w X.K X.mg X.base (L2.CX X.prog X.w) k f fd ps sp) (hr : Room k X.A) (hg : Gl X x) (hm : X.mg x = some (.ref f)) (hk : PySem.W.keepIn X.K (.ref f) = true) (hb : Binds X.K fd ps []) (hx : ∀ σ, PassesAt (L2.CX X.prog X.w) X σ (E σ))
    (hdb : (x == ("__debug__" : Str)) = false) : PE X (.Call (.Name x p) [] [] pos) (tCallS sp E tNil) := by
  refine ⟨fun pins s σ H Q I h => ?_⟩
  refine wpAny_Call_Name_kw (ld_glob I hg hm ?_ hdb)
  exact PySem.W.callWith_K0 I.kIn hk (run_fnS (us := []) F hr hb (hx σ) I .nil h)
theorem re_call (o : XOk X G B K Φ Γ fs) {f : Str} {e : Expr} {es : List Expr} {p pos : Pos} {ws : VE → VH → (List D → VE → VH → Prop) → Prop} (m : ∀ env vh (Q Q' : List D → VE → VH → Prop), (∀ x e h, Q x e h → Q' x e h) → ws env vh Q → ws env vh Q')
    (h : PA X (e :: es) (tL G B ws)) (hf : f ∈ fs) (hn : okF f = true) (hg : Gl X f) (he : starEach (e :: es) X.env = (false, eval e X.env) :: starEach es X.env) (hpl : (backTo pos (starEach es X.env)).any (·.1) = false) :
    PE X (.Call (.Name f p) (e :: es) [] pos) (tD G B fun env vh Q => ws env vh fun ds e1 h1 => (Φ f).run ds h1 fun o h2 => match o with
      | .ok x => fin false x e1 h2 Q
      | .exc c xs => K c xs e1 h2) := by
  obtain ⟨a, fd, ps, k, hm, hk, hb, F, hr, hdb⟩ := o.fn f hf hn
  refine (pe_callS F hr hg hm hk hb (fun σ => passAt o.tk σ) h hdb he hpl).imp ?_
  rintro σ H Q ⟨T, ρ, env, vh, R, w⟩
  exact ⟨T, ρ, env, vh, R, m _ _ _ _ (fun ds e1 h1 z ρ1 vs H1 mv R1 hv => call_hw R1 hv z fun x h2 y ρ' v H' r => y ρ' v H' (Res.moved mv r)) w⟩
theorem re_call0 (o : XOk X G B K Φ Γ fs) {f : Str} {p pos : Pos} (hf : f ∈ fs) (hn : okF f = true) (hg : Gl X f) :
    PE X (.Call (.Name f p) [] [] pos) (tD G B fun env vh Q => (Φ f).run [] vh fun o h2 => match o with
      | .ok x => fin false x env h2 Q
      | .exc c xs => K c xs env h2) := by
  obtain ⟨a, fd, ps, k, hm, hk, hb, F, hr, hdb⟩ := o.fn f hf hn
  refine (pe_callS0 F hr hg hm hk hb (fun σ => passAt o.tk σ) hdb).imp ?_
  rintro σ H Q ⟨T, ρ, env, vh, R, w⟩
  exact call_hw R (ds := []) rfl w fun x h2 y ρ' v H' r => y ρ' v H' r

/-! ### attributes -/
theorem re_attr (o : XOk X G B K Φ Γ fs) {i : Nat} {f : Str} {e : Expr} {pos : Pos} (he : PE X e (tVar i)) (hb : ∀ n, attributeBase e n X.env (eval e X.env) = eval e X.env) :
    PE X (.Attribute e f pos) (tD G B fun env vh Q => wpE Φ Γ (.attr (.bor i) f) K false env vh Q) := by
  by_cases hc : hotN ∈ fs
  · exact (o.er hc i f e pos he hb).imp fun σ H Q ⟨T, ρ, env, vh, R, hs, d, e1, w⟩ => ⟨T, ρ, env, vh, R, d, e1, w⟩
  · refine ⟨fun pins s σ H Q I ⟨T, ρ, env, vh, R, hs, d, e1, w⟩ => ?_⟩
    have no : Γ "%a" = none := by
      cases q : Γ "%a" with
      | none => rfl
      | some x => exact absurd (o.ok hc _ _ q) (by decide +kernel)
    unfold wpAttr at w
    split at w
    · rw [no] at w
      exact absurd w.1 (by simp)
    · exact w.elim
/-! ### isinstance -/
theorem pa_tys (o : XOk X G B K Φ Γ fs) : ∀ (ns : List String) (es : List Expr), Paired (fun n e => ∃ p, e = Expr.Name (Str.ofString n) p ∧ okTy n = true ∧ Gl X (Str.ofString n)) ns es → PA X es (fun _ H Q => Q (ns.map V.ty) H)
  | [], _, .nil => pa_nil
  | n :: ns, _, .cons (b := e) h t => by
    obtain ⟨p, rfl, h2, h3⟩ := h
    have hm : X.mg (Str.ofString n) = none ∧ bootBuiltins (Str.ofString n) = some (.type n) ∧ (Str.ofString n) ≠ "__name__" ∧ ((Str.ofString n) == ("__debug__" : Str)) = false := by
      have hmem := okTy_mem h2
      have tb : ∀ x ∈ (["int", "bool", "str", "tuple", "list", "dict"] : List String), (Str.ofString x) ∈ bltNames ∧ bootBuiltins (Str.ofString x) = some (.type x) ∧ (Str.ofString x) ≠ "__name__" ∧ ((Str.ofString x) == ("__debug__" : Str)) = false := by decide +kernel
      obtain ⟨q1, q2, q3, q4⟩ := tb n hmem
      exact ⟨o.bl _ q1, q2, q3, q4⟩
    exact (pa_cons (pe_bltn (v := .ty n) (u := .type n) h3 hm.1 hm.2.1 rfl hm.2.2.1 hm.2.2.2) (pa_tys o ns _ t) rfl).imp fun σ H Q w => w
/-- the classes that isinstance is asked for -/
def tysOf : Expr → Option (List String)
  | .Name x _ => (["int", "bool", "str", "tuple", "list", "dict"] : List String).find? (fun n => Str.ofString n == x) |>.map fun n => [n]
  | _ => none
theorem OpV.ty (hK : X.K = G.K) (R : Rel G B T ρ env vh σ H) {x : Op} {v : V} {d : D} {n : String} (h : OpV G (ZZ B.F T ρ env σ) ρ H σ x v) (e : x.ld env vh = some d) (t : tyD d = some n) : TyX X.K H v (.type n) := RW.ty hK (h.rw R e) t
theorem paired_cls : ∀ ns : List String, Paired ClsV (ns.map V.ty) (ns.map Value.type)
  | [] => .nil
  | n :: ns => .cons (.ty n) (paired_cls ns)
theorem re_isi1 (o : XOk X G B K Φ Γ fs) {a : Expr} {n : String} {p p2 pos : Pos} {wa : VE → VH → (Op → VE → VH → Prop) → Prop} (ma : ∀ env vh (Q Q' : Op → VE → VH → Prop), (∀ x e h, Q x e h → Q' x e h) → wa env vh Q → wa env vh Q')
    (ha : PE X a (tO G B wa)) (hg : Gl X "isinstance") (hgn : Gl X (Str.ofString n)) (hn : okTy n = true) (he : starEach [a, .Name (Str.ofString n) p2] X.env = (false, eval a X.env) :: starEach [.Name (Str.ofString n) p2] X.env) :
    PE X (.Call (.Name "isinstance" p) [a, .Name (Str.ofString n) p2] [] pos) (tD G B fun env vh Q => wa env vh fun x e1 h1 => ∃ d m, x.ld e1 h1 = some d ∧ tyD d = some m ∧ [n].all okTy = true ∧ fin false (.v (.bl ([n].any (isTy m)))) e1 h1 Q) := by
  have pa : PA X [a, .Name (Str.ofString n) p2] (tCons (tO G B wa) (fun _ H Q => Q ([n].map V.ty) H)) := pa_cons ha (pa_tys o [n] [_] (.cons ⟨p2, rfl, hn, hgn⟩ .nil)) he
  refine (pe_callB call_isi hg (o.bl _ (by decide +kernel)) (by decide +kernel) pa (by decide +kernel) (by decide +kernel) he rfl).imp ?_
  rintro σ H Q ⟨T, ρ, env, vh, R, w⟩
  refine ⟨T, ρ, env, vh, R, ma _ _ _ _ (fun x e1 h1 ⟨d, m, q1, q2, q3, q4⟩ ρ' v H' mv R' ov => ?_) w⟩
  refine ⟨v, .ty n, .type m, .type n, _, rfl, .ty n, ov.ty o.hK R' q1 q2, kit_is q2 hn, ?_⟩
  have e : [n].any (isTy m) = isTy m n := by simp
  rw [e] at q4
  exact q4 ρ' _ H' ⟨mv, R', rfl⟩
theorem re_isiT (o : XOk X G B K Φ Γ fs) {a : Expr} {ns : List String} {es : List Expr} {k : Nat} {p p2 pos : Pos} {wa : VE → VH → (Op → VE → VH → Prop) → Prop} (ma : ∀ env vh (Q Q' : Op → VE → VH → Prop), (∀ x e h, Q x e h → Q' x e h) → wa env vh Q → wa env vh Q')
    (ha : PE X a (tO G B wa)) (hg : Gl X "isinstance") (hes : Paired (fun n e => ∃ p, e = Expr.Name (Str.ofString n) p ∧ okTy n = true ∧ Gl X (Str.ofString n)) ns es) (hl : ns.length ≤ 1000)
    (he : starEach [a, .Tuple es k p2] X.env = (false, eval a X.env) :: starEach [.Tuple es k p2] X.env) :
    PE X (.Call (.Name "isinstance" p) [a, .Tuple es k p2] [] pos) (tD G B fun env vh Q => wa env vh fun x e1 h1 => ∃ d m, x.ld e1 h1 = some d ∧ tyD d = some m ∧ ns.all okTy = true ∧ fin false (.v (.bl (ns.any (isTy m)))) e1 h1 Q) := by
  have pa : PA X [a, .Tuple es k p2] (tCons (tO G B wa) (tCons (tTup fun _ H Q => Q (ns.map V.ty) H) tNil)) := pa_cons ha (pa_cons (pe_tup (pa_tys o ns es hes)) pa_nil rfl) he
  refine (pe_callB call_isiT hg (o.bl _ (by decide +kernel)) (by decide +kernel) pa (by decide +kernel) (by decide +kernel) he rfl).imp ?_
  rintro σ H Q ⟨T, ρ, env, vh, R, w⟩
  refine ⟨T, ρ, env, vh, R, ma _ _ _ _ (fun x e1 h1 ⟨d, m, q1, q2, q3, q4⟩ ρ' v H' mv R' ov => ?_) w⟩
  refine ⟨by rw [List.length_map, sizeLine_eq]; omega, fun p hp => ?_⟩
  have R2 := R'.grow (same_new (o := .tup (ns.map V.ty)) hp)
  have ov2 := ov.move (Mv.same (same_new (o := .tup (ns.map V.ty)) hp))
  refine ⟨v, p, ns.map V.ty, .type m, ns.map Value.type, _, rfl, upd_same, paired_cls ns, ov2.ty o.hK R2 q1 q2, kit_any q2 q3, ?_⟩
  exact q4 ρ' _ _ ⟨mv.trans (Mv.same (same_new hp)), R2, rfl⟩
end
end R

set_option autoImplicit false
namespace R
open PySem PySem.Spec PyProof.Rows L2
/-! ## R5: targets, what is gone through, comprehensions -/
section
variable {X : Cx} {G : Wd} {B : Base} {T ρ : List Addr} {env : VE} {vh : VH} {σ : L2.St} {H : Hp}
/-! ### targets -/
def gNames : List Nat → TGs
  | [] => gNil
  | i :: is => gCons (gName i) (gNames is)
def gOf (K : PySem.W.Frag) : Tg → TG
  | .one i => gName i
  | .many is => gTup K is.length (gNames is)
/-- the slots that a target writes, one after another -/
def setAllS (σ : L2.St) : List Nat → List V → L2.St
  | i :: is, v :: vs => setAllS (σ.set i (some v)) is vs
  | _, _ => σ
def tgIx : Tg → List Nat
  | .one i => [i]
  | .many is => is
/-- how a bound state came to be -/
inductive Set1 : List Nat → VE → L2.St → VE → L2.St → Prop where
  | nil {env : VE} {σ : L2.St} {is : List Nat} : Set1 is env σ env σ
  | cons {env env2 : VE} {σ σ2 : L2.St} {i : Nat} {is : List Nat} {d : D} {v : V} (hi : i ∈ is) (t : Set1 is (env.set i (.val d)) (σ.set i (some v)) env2 σ2) : Set1 is env σ env2 σ2
theorem Set1.weak {is js : List Nat} {env env2 : VE} {σ σ2 : L2.St} (h : Set1 is env σ env2 σ2) (s : ∀ i, i ∈ is → i ∈ js) : Set1 js env σ env2 σ2 := by
  induction h with
  | nil => exact .nil
  | cons hi _ ih => exact .cons (s _ hi) (ih s)
theorem setValMv {i : Nat} {d : D} {v : V} (R : Rel G B T ρ env vh σ H) : Mv (ZZ B.F T ρ env σ) ρ H (ZZ B.F T ρ (env.set i (.val d)) (σ.set i (some v))) ρ H := Mv.less fun a z => by
  rcases z with z | z | z | ⟨j, z⟩
  · exact .inl z
  · exact .inr (.inl z)
  · exact .inr (.inr (.inl z))
  · rcases Own.of_set z with ⟨_, ds, e, _⟩ | ⟨_, q⟩
    · cases e
    · exact .inr (.inr (.inr ⟨j, q⟩))
theorem names_bind : ∀ {is : List Nat} {ds : List D} {vs : List V} {env env2 : VE} {σ : L2.St} {Q : L2.St → Hp → Prop}, Rel G B T ρ env vh σ H → RDs G (ZZ B.F T ρ env σ) ρ H ds vs → setAllE env is ds = some env2 →
    (∀ σ2, Rel G B T ρ env2 vh σ2 H → Set1 is env σ env2 σ2 → Mv (ZZ B.F T ρ env σ) ρ H (ZZ B.F T ρ env2 σ2) ρ H → Q σ2 H) → gNames is vs σ H Q
  | [], [], vs, env, env2, σ, Q, R, h, e, k => by
    cases e
    cases (show vs = [] from h)
    exact ⟨rfl, k σ R .nil Mv.refl⟩
  | i :: is, d :: ds, vs, env, env2, σ, Q, R, h, e, k => by
    obtain ⟨v, r, rfl, h1, h2⟩ := h
    have m := setValMv (i := i) (d := d) (v := v) R
    exact ⟨v, r, rfl, names_bind (R.setVal h1) (RDs.move m _ _ h2) e fun σ2 R2 s2 m2 => k σ2 R2 (.cons (by simp) (s2.weak fun j hj => List.mem_cons_of_mem _ hj)) (m.trans m2)⟩
  | [], _ :: _, _, _, _, _, _, _, _, e, _ => by cases e
  | _ :: _, [], _, _, _, _, _, _, _, e, _ => by cases e
theorem setAllE_length : ∀ {is : List Nat} {ds : List D} {env env2 : VE}, setAllE env is ds = some env2 → ds.length = is.length
  | [], [], _, _, _ => rfl
  | i :: is, d :: ds, env, env2, e => by rw [List.length_cons, List.length_cons, setAllE_length (is := is) e]
  | [], _ :: _, _, _, e => by cases e
  | _ :: _, [], _, _, e => by cases e
theorem bind_ok {tg : Tg} {d : D} {v : V} {env2 : VE} {Q : L2.St → Hp → Prop} (R : Rel G B T ρ env vh σ H) (h : RD G (ZZ B.F T ρ env σ) ρ H d v) (e : bindT tg d env = some env2)
    (k : ∀ σ2, Rel G B T ρ env2 vh σ2 H → Set1 (tgIx tg) env σ env2 σ2 → Mv (ZZ B.F T ρ env σ) ρ H (ZZ B.F T ρ env2 σ2) ρ H → Q σ2 H) : gOf G.K tg v σ H Q := by
  cases tg with
  | one i =>
    cases e
    exact k _ (R.setVal h) (.cons (by simp [tgIx]) .nil) (setValMv R)
  | many is =>
    cases d with
    | tup ds =>
      obtain ⟨a, vs, rfl, h1, h2⟩ := h
      refine ⟨a, vs, rfl, h1, ?_, names_bind R h2 e k⟩
      rw [← h2.length]
      exact setAllE_length e
    | _ => cases e

/-! ### iterators -/
/-- what an iterator yields, as data -/
structure Wk0 (G : Wd) (J : It) (Z0 : Addr → Prop) (ρ0 : List Addr) (H0 : Hp) (items : List D) : Prop where
  go : ∀ i Z ρ H, Mv Z0 ρ0 H0 Z ρ H → i < items.length → J.go i H
  stop : ∀ Z ρ H, Mv Z0 ρ0 H0 Z ρ H → J.stop items.length H
  yld : ∀ i Z ρ H x H', Mv Z0 ρ0 H0 Z ρ H → i < items.length → J.yld i H x H' → ∃ d, items[i]? = some d ∧ Same H H' ∧ RD G Z ρ H' d x
/-- the shared objects are as they should -/
def ObAt (G : Wd) (Z : Addr → Prop) (ρ : List Addr) (H : Hp) (h : VH) : Prop := ∀ (n : Nat) (o : VO) (a : Addr), h[n]? = some o → ρ[n]? = some a → RO G Z ρ H a o
structure Wk (G : Wd) (J : It) (Z0 : Addr → Prop) (ρ0 : List Addr) (H0 : Hp) (st : VH → Prop) (items : List D) : Prop where
  go : ∀ i Z ρ H h, Mv Z0 ρ0 H0 Z ρ H → ObAt G Z ρ H h → st h → i < items.length → J.go i H
  stop : ∀ Z ρ H h, Mv Z0 ρ0 H0 Z ρ H → ObAt G Z ρ H h → st h → J.stop items.length H
  yld : ∀ i Z ρ H h x H', Mv Z0 ρ0 H0 Z ρ H → ObAt G Z ρ H h → st h → i < items.length → J.yld i H x H' → ∃ d, items[i]? = some d ∧ Same H H' ∧ RD G Z ρ H' d x
theorem Wk0.up {G : Wd} {J : It} {Z0 : Addr → Prop} {ρ0 : List Addr} {H0 : Hp} {st : VH → Prop} {items : List D} (w : Wk0 G J Z0 ρ0 H0 items) : Wk G J Z0 ρ0 H0 st items :=
  ⟨fun i Z ρ H _ m _ _ => w.go i Z ρ H m, fun Z ρ H _ m _ _ => w.stop Z ρ H m, fun i Z ρ H _ x H' m _ _ => w.yld i Z ρ H x H' m⟩
def iD (G : Wd) (B : Base) (w : VE → VH → (List D → (VH → Prop) → VE → VH → Prop) → Prop) : TI := fun σ H R => ∃ T ρ env vh, Rel G B T ρ env vh σ H ∧ w env vh fun items st e1 h1 =>
  ∀ ρ' H' J, Mv (ZZ B.F T ρ env σ) ρ H (ZZ B.F T ρ' e1 σ) ρ' H' → Rel G B T ρ' e1 h1 σ H' → Wk G J (ZZ B.F T ρ' e1 σ) ρ' H' st items → R J H'
theorem wk_list {a : Addr} {vs : List V} {items : List D} {Z0 : Addr → Prop} {ρ0 : List Addr} {H0 : Hp} (hq : ∀ Z ρ H, Mv Z0 ρ0 H0 Z ρ H → SqL G.K H a vs) (h : RDs G Z0 ρ0 H0 items vs) : Wk0 G (Itl G.K a) Z0 ρ0 H0 items where
  go := fun i Z ρ H m hi => by
    rw [h.length] at hi
    exact ⟨vs, vs[i], hq Z ρ H m, by simp [hi]⟩
  stop := fun Z ρ H m => ⟨vs, hq Z ρ H m, by rw [h.length]; exact Nat.le_refl _⟩
  yld := fun i Z ρ H x H' m hi y => by
    obtain ⟨e, y⟩ := y
    subst e
    obtain ⟨d, h1, h2⟩ := (RDs.move m _ _ h).getV (y vs (hq Z ρ H' m))
    exact ⟨d, h1, Same.refl _, h2⟩
theorem wk_tup {a : Addr} {vs : List V} {items : List D} {Z0 : Addr → Prop} {ρ0 : List Addr} {H0 : Hp} (hq : SqT G.K H0 a vs) (h : RDs G Z0 ρ0 H0 items vs) : Wk0 G (Itt G.K a) Z0 ρ0 H0 items where
  go := fun i Z ρ H m hi => by
    rw [h.length] at hi
    exact ⟨vs, vs[i], m.sqt hq, by simp [hi]⟩
  stop := fun Z ρ H m => ⟨vs, m.sqt hq, by rw [h.length]; exact Nat.le_refl _⟩
  yld := fun i Z ρ H x H' m hi y => by
    obtain ⟨e, y⟩ := y
    subst e
    obtain ⟨d, h1, h2⟩ := (RDs.move m _ _ h).getV (y vs (m.sqt hq))
    exact ⟨d, h1, Same.refl _, h2⟩
theorem wk_range {lo : Int} {n : Nat} {Z0 : Addr → Prop} {ρ0 : List Addr} {H0 : Hp} {f : Nat → D} (hf : ∀ i : Nat, f i = .int (lo + i)) : Wk0 G (Itr lo n) Z0 ρ0 H0 ((List.range n).map f) where
  go := fun i Z ρ H m hi => by
    rw [List.length_map, List.length_range] at hi
    exact hi
  stop := fun Z ρ H m => by simp [Itr]
  yld := fun i Z ρ H x H' m hi y => by
    obtain ⟨e, y⟩ := y
    subst e y
    simp at hi
    exact ⟨f i, by simp [hi], Same.refl _, by rw [hf]; rfl⟩
theorem wk_str {x : Str} {Z0 : Addr → Prop} {ρ0 : List Addr} {H0 : Hp} : Wk0 G (Its x) Z0 ρ0 H0 (x.cps.toList.map fun c => D.str ⟨#[c]⟩) where
  go := fun i Z ρ H m hi => by
    rw [List.length_map, Array.length_toList] at hi
    exact hi
  stop := fun Z ρ H m => by simp [Its]
  yld := fun i Z ρ H y H' m hi q => by
    obtain ⟨e, c, hc, rfl⟩ := q
    subst e
    exact ⟨.str ⟨#[c]⟩, by simp [hc], Same.refl _, rfl⟩
theorem ri_seq {tg e : Expr} {w : VE → VH → QE → Prop} (hK : X.K = G.K) (mono : ∀ env vh (Q Q' : QE), (∀ x e h, Q x e h → Q' x e h) → w env vh Q → w env vh Q') (he : PE X e (tD G B w)) :
    PI X tg e (iD G B fun env vh Q => w env vh fun x e1 h1 => ∃ items, itemsV .seq h1 [x.d] = some items ∧ Q items (stl .seq [x.d] h1) e1 h1) := by
  refine ⟨fun pins s σ H R I ⟨T, ρ, env, vh, Rl, q⟩ => ?_⟩
  have hz : tD G B w σ H (fun v H1 => (∃ x, v = .str x ∧ R (Its x) H1) ∨ ∃ a, v = .ref a ∧ ((∃ xs, SqL X.K H1 a xs ∧ R (Itl X.K a) H1) ∨ (∃ xs, SqT X.K H1 a xs ∧ R (Itt X.K a) H1))) := by
    refine ⟨T, ρ, env, vh, Rl, mono _ _ _ _ (fun x e1 h1 ⟨items, ei, k⟩ ρ' v H' r => ?_) q⟩
    obtain ⟨m, R', hv⟩ := r.d
    cases hd : x.d with
    | tup xs =>
      rw [hd] at ei hv
      cases ei
      obtain ⟨a, vs, rfl, h1, h2⟩ := hv
      exact .inr ⟨a, rfl, .inr ⟨vs, by rw [hK]; exact h1, by rw [hK]; exact k ρ' H' _ m R' (wk_tup h1 h2).up⟩⟩
    | lst xs =>
      rw [hd] at ei hv
      cases ei
      obtain ⟨a, vs, rfl, nz, h1, h2⟩ := hv
      exact .inr ⟨a, rfl, .inl ⟨vs, .of h1, by rw [hK]; exact k ρ' H' _ m R' (wk_list (fun Z ρ H m => .of (m.keep a _ nz h1).2) h2).up⟩⟩
    | scr xs =>
      rw [hd] at ei hv
      cases ei
      obtain ⟨a, rfl, h1⟩ := hv
      exact .inr ⟨a, rfl, .inl ⟨_, by rw [hK]; exact h1.sq, by rw [hK]; exact k ρ' H' _ m R' (wk_list (fun Z ρ H m => (m.sqv h1).sq) (RDs.ints _)).up⟩⟩
    | str y =>
      rw [hd] at ei hv
      cases ei
      exact .inl ⟨y, hv, k ρ' H' _ m R' wk_str.up⟩
    | _ => rw [hd] at ei; cases ei
  refine thn (he.run pins s σ H _ I hz) fun v s1 ⟨x, H1, I1, r1, q1⟩ => ?_
  rcases q1 with ⟨y, e, q⟩ | ⟨a, e, q1⟩
  · subst e
    obtain ⟨t, rfl⟩ := r1
    cases ha : y.cps.all (· < 128)
    · exact wpAny_pyIter_wide ha (pi_one (tk := s1.toks) I1 _ (turn_str _ y t "str_iterator" (.inr rfl)) ⟨_, Heap.get?_push_size _ rfl, rfl, rfl⟩ q)
    · exact wpAny_pyIter_ascii ha (pi_one (tk := s1.toks) I1 _ (turn_str _ y t "str_ascii_iterator" (.inl rfl)) ⟨_, Heap.get?_push_size _ rfl, rfl, rfl⟩ q)
  subst e
  cases r1
  rcases q1 with ⟨xs, hq, q⟩ | ⟨xs, hq, q⟩
  · obtain ⟨its, rv, p, hz⟩ := I1.list hq
    refine wpAny_pyIter_list p.isList ?_
    refine ⟨s1.heap.objs.size, [s1.heap.objs.size], _, _, H1, rfl, I1.kept (t' := s1.toks) fun b o e => Heap.get?_push_of_some _ e, turn_list a _, ⟨_, Heap.get?_push_size _ rfl, rfl, rfl⟩, fun b hb => ?_, q⟩
    have e : b = s1.heap.objs.size := by simpa using hb
    subst e
    exact I1.fpOk (Nat.le_refl _) (I1.hok.fresh (Nat.le_refl _))
  · obtain ⟨its, rv, p, hz⟩ := I1.tuple hq
    refine wpAny_pyIter_tuple (show s1.heap.IsTuple a its.toArray from p) ?_
    refine ⟨s1.heap.objs.size, [s1.heap.objs.size], _, _, H1, rfl, I1.kept (t' := s1.toks) fun b o e => Heap.get?_push_of_some _ e, turn_tuple a _, ⟨_, Heap.get?_push_size _ rfl, rfl, rfl⟩, fun b hb => ?_, q⟩
    have e : b = s1.heap.objs.size := by simpa using hb
    subst e
    exact I1.fpOk (Nat.le_refl _) (I1.hok.fresh (Nat.le_refl _))
/-- a list that is gone through, as it stands at each turn -/
def LsAt (G : Wd) (st : VH → Prop) (Z0 : Addr → Prop) (ρ0 : List Addr) (H0 : Hp) (a : Addr) (xs : List D) : Prop := ∀ Z ρ H h, Mv Z0 ρ0 H0 Z ρ H → ObAt G Z ρ H h → st h → ∃ vs, SqL G.K H a vs ∧ RDs G Z ρ H xs vs
theorem LsAt.ref {st : VH → Prop} {Z0 : Addr → Prop} {ρ0 : List Addr} {H0 : Hp} {n : Nat} {a : Addr} {xs : List D} (ha : ρ0[n]? = some a) (hs : ∀ h, st h → h[n]? = some (.lst xs)) : LsAt G st Z0 ρ0 H0 a xs := fun Z ρ H h m ob s => by
  obtain ⟨vs, h1, h2⟩ := ob n _ a (hs h s) (m.pre n a ha)
  exact ⟨vs, .of h1, h2⟩
theorem LsAt.dat {st : VH → Prop} {Z0 : Addr → Prop} {ρ0 : List Addr} {H0 : Hp} {a : Addr} {xs : List D} {vs : List V} (nz : ¬ Z0 a) (h1 : H0 a = some (.lst vs)) (h2 : RDs G Z0 ρ0 H0 xs vs) : LsAt G st Z0 ρ0 H0 a xs := fun Z ρ H h m ob s => ⟨vs, .of (m.keep a _ nz h1).2, RDs.move m _ _ h2⟩
theorem wk_listS {st : VH → Prop} {a : Addr} {items : List D} {Z0 : Addr → Prop} {ρ0 : List Addr} {H0 : Hp} (l : LsAt G st Z0 ρ0 H0 a items) : Wk G (Itl G.K a) Z0 ρ0 H0 st items where
  go := fun i Z ρ H h m ob s hi => by
    obtain ⟨vs, h1, h2⟩ := l Z ρ H h m ob s
    rw [h2.length] at hi
    exact ⟨vs, vs[i], h1, by simp [hi]⟩
  stop := fun Z ρ H h m ob s => by
    obtain ⟨vs, h1, h2⟩ := l Z ρ H h m ob s
    exact ⟨vs, h1, by rw [h2.length]; exact Nat.le_refl _⟩
  yld := fun i Z ρ H h x H' m ob s hi y => by
    obtain ⟨e, y⟩ := y
    subst e
    obtain ⟨vs, h1, h2⟩ := l Z ρ H' h m ob s
    obtain ⟨d, h3, h4⟩ := h2.getV (y vs h1)
    exact ⟨d, h3, Same.refl _, h4⟩
theorem ri_seqS {tg e : Expr} {w : VE → VH → QE → Prop} (hK : X.K = G.K) (mono : ∀ env vh (Q Q' : QE), (∀ x e h, Q x e h → Q' x e h) → w env vh Q → w env vh Q') (he : PE X e (tD G B w)) :
    PI X tg e (iD G B fun env vh Q => w env vh fun x e1 h1 => ∃ items, itemsV .seqS h1 [x.d] = some items ∧ Q items (stl .seqS [x.d] h1) e1 h1) := by
  refine ⟨fun pins s σ H R I ⟨T, ρ, env, vh, Rl, q⟩ => ?_⟩
  have hz : tD G B w σ H (fun v H1 => (∃ x, v = .str x ∧ R (Its x) H1) ∨ ∃ a, v = .ref a ∧ ((∃ xs, SqL X.K H1 a xs ∧ R (Itl X.K a) H1) ∨ (∃ xs, SqT X.K H1 a xs ∧ R (Itt X.K a) H1))) := by
    refine ⟨T, ρ, env, vh, Rl, mono _ _ _ _ (fun x e1 h1 ⟨items, ei, k⟩ ρ' v H' r => ?_) q⟩
    obtain ⟨m, R', hv⟩ := r.d
    cases hd : x.d with
    | ref n =>
      rw [hd] at ei hv
      obtain ⟨a, ha, rfl⟩ := hv
      have ei : itemsD .seq [drf h1 (.ref n)] = some items := ei
      unfold drf at ei
      dsimp only at ei
      split at ei
      · rename_i xs hn
        cases ei
        obtain ⟨vs, hH, hvs⟩ := R'.ob n _ a hn ha
        exact .inr ⟨a, rfl, .inl ⟨vs, .of hH, by rw [hK]; exact k ρ' H' _ m R' (wk_listS (LsAt.ref ha fun h s => (s n (by rw [hd]; exact List.mem_singleton.mpr rfl)).trans hn))⟩⟩
      · cases ei
    | tup xs =>
      rw [hd] at ei hv
      cases ei
      obtain ⟨a, vs, rfl, h1, h2⟩ := hv
      exact .inr ⟨a, rfl, .inr ⟨vs, by rw [hK]; exact h1, by rw [hK]; exact k ρ' H' _ m R' (wk_tup h1 h2).up⟩⟩
    | lst xs =>
      rw [hd] at ei hv
      cases ei
      obtain ⟨a, vs, rfl, nz, h1, h2⟩ := hv
      exact .inr ⟨a, rfl, .inl ⟨vs, .of h1, by rw [hK]; exact k ρ' H' _ m R' (wk_list (fun Z ρ H m => .of (m.keep a _ nz h1).2) h2).up⟩⟩
    | scr xs =>
      rw [hd] at ei hv
      cases ei
      obtain ⟨a, rfl, h1⟩ := hv
      exact .inr ⟨a, rfl, .inl ⟨_, by rw [hK]; exact h1.sq, by rw [hK]; exact k ρ' H' _ m R' (wk_list (fun Z ρ H m => (m.sqv h1).sq) (RDs.ints _)).up⟩⟩
    | str y =>
      rw [hd] at ei hv
      cases ei
      exact .inl ⟨y, hv, k ρ' H' _ m R' wk_str.up⟩
    | _ => rw [hd] at ei; cases ei
  refine thn (he.run pins s σ H _ I hz) fun v s1 ⟨x, H1, I1, r1, q1⟩ => ?_
  rcases q1 with ⟨y, e, q⟩ | ⟨a, e, q1⟩
  · subst e
    obtain ⟨t, rfl⟩ := r1
    cases ha : y.cps.all (· < 128)
    · exact wpAny_pyIter_wide ha (pi_one (tk := s1.toks) I1 _ (turn_str _ y t "str_iterator" (.inr rfl)) ⟨_, Heap.get?_push_size _ rfl, rfl, rfl⟩ q)
    · exact wpAny_pyIter_ascii ha (pi_one (tk := s1.toks) I1 _ (turn_str _ y t "str_ascii_iterator" (.inl rfl)) ⟨_, Heap.get?_push_size _ rfl, rfl, rfl⟩ q)
  subst e
  cases r1
  rcases q1 with ⟨xs, hq, q⟩ | ⟨xs, hq, q⟩
  · obtain ⟨its, rv, p, hz⟩ := I1.list hq
    refine wpAny_pyIter_list p.isList ?_
    refine ⟨s1.heap.objs.size, [s1.heap.objs.size], _, _, H1, rfl, I1.kept (t' := s1.toks) fun b o e => Heap.get?_push_of_some _ e, turn_list a _, ⟨_, Heap.get?_push_size _ rfl, rfl, rfl⟩, fun b hb => ?_, q⟩
    have e : b = s1.heap.objs.size := by simpa using hb
    subst e
    exact I1.fpOk (Nat.le_refl _) (I1.hok.fresh (Nat.le_refl _))
  · obtain ⟨its, rv, p, hz⟩ := I1.tuple hq
    refine wpAny_pyIter_tuple (show s1.heap.IsTuple a its.toArray from p) ?_
    refine ⟨s1.heap.objs.size, [s1.heap.objs.size], _, _, H1, rfl, I1.kept (t' := s1.toks) fun b o e => Heap.get?_push_of_some _ e, turn_tuple a _, ⟨_, Heap.get?_push_size _ rfl, rfl, rfl⟩, fun b hb => ?_, q⟩
    have e : b = s1.heap.objs.size := by simpa using hb
    subst e
    exact I1.fpOk (Nat.le_refl _) (I1.hok.fresh (Nat.le_refl _))
theorem pi_imp {tg e : Expr} {t t' : TI} (h : PI X tg e t) (f : ∀ σ H R, t' σ H R → t σ H R) : PI X tg e t' := ⟨fun pins s σ H R I hw => h.run pins s σ H R I (f σ H R hw)⟩
theorem items_rng1 {ds items : List D} (h : itemsD .rng1 ds = some items) : ∃ n : Int, ds = [.int n] ∧ -(2 ^ 62) ≤ n ∧ n < 2 ^ 62 ∧ items = (List.range n.toNat).map fun (i : Nat) => D.int (i : Int) := by
  match ds, h with
  | [.int n], h =>
    have h : (if -(2 ^ 62) ≤ n ∧ n < 2 ^ 62 then some ((List.range n.toNat).map fun (i : Nat) => D.int (i : Int)) else none) = some items := h
    split at h
    · rename_i hc
      cases h
      exact ⟨n, rfl, hc.1, hc.2, rfl⟩
    · cases h
theorem items_rng2 {ds items : List D} (h : itemsD .rng2 ds = some items) : ∃ a b : Int, ds = [.int a, .int b] ∧ (-(2 ^ 62) ≤ a ∧ a < 2 ^ 62 ∧ -(2 ^ 62) ≤ b ∧ b < 2 ^ 62) ∧ items = (List.range (b - a).toNat).map fun (i : Nat) => D.int (a + (i : Int)) := by
  match ds, h with
  | [.int a, .int b], h =>
    have h : (if -(2 ^ 62) ≤ a ∧ a < 2 ^ 62 ∧ -(2 ^ 62) ≤ b ∧ b < 2 ^ 62 then some ((List.range (b - a).toNat).map fun (i : Nat) => D.int (a + (i : Int))) else none) = some items := h
    split at h
    · rename_i hc
      cases h
      exact ⟨a, b, rfl, hc, rfl⟩
    · cases h
theorem ri_rng1 {tg a : Expr} {p pos : Pos} {ws : VE → VH → (List D → VE → VH → Prop) → Prop} (m : ∀ env vh (Q Q' : List D → VE → VH → Prop), (∀ x e h, Q x e h → Q' x e h) → ws env vh Q → ws env vh Q') (ha : PA X [a] (tL G B ws))
    (hg : Gl X "range") (hm : X.mg "range" = none) (hs : starEach [a] X.env = [(false, eval a X.env)]) : PI X tg (.Call (.Name "range" p) [a] [] pos) (iD G B fun env vh Q => ws env vh fun ds e1 h1 => ∃ items, itemsV .rng1 h1 ds = some items ∧ Q items (stl .rng1 ds h1) e1 h1) := by
  refine pi_imp (pi_range1 hg hm ha hs) ?_
  rintro σ H R ⟨T, ρ, env, vh, Rl, q⟩
  refine ⟨T, ρ, env, vh, Rl, m _ _ _ _ (fun ds e1 h1 ⟨items, ei, k⟩ ρ' vs H' mv R' hv => ?_) q⟩
  obtain ⟨n, rfl, b1, b2, rfl⟩ := items_rng1 ei
  obtain ⟨v, r, rfl, h1, h2⟩ := hv
  cases (show r = [] from h2)
  cases (show v = .int n from h1)
  exact ⟨n, rfl, b1, b2, k ρ' H' _ mv R' (wk_range fun i => by rw [Int.zero_add]).up⟩
theorem ri_rng2 {tg a b : Expr} {p pos : Pos} {ws : VE → VH → (List D → VE → VH → Prop) → Prop} (m : ∀ env vh (Q Q' : List D → VE → VH → Prop), (∀ x e h, Q x e h → Q' x e h) → ws env vh Q → ws env vh Q') (ha : PA X [a, b] (tL G B ws))
    (hg : Gl X "range") (hm : X.mg "range" = none) (hs : starEach [a, b] X.env = [(false, eval a X.env), (false, eval b X.env)]) (hs2 : starEach [b] X.env = [(false, eval b X.env)]) : PI X tg (.Call (.Name "range" p) [a, b] [] pos) (iD G B fun env vh Q => ws env vh fun ds e1 h1 => ∃ items, itemsV .rng2 h1 ds = some items ∧ Q items (stl .rng2 ds h1) e1 h1) := by
  refine pi_imp (pi_range2 hg hm ha hs hs2) ?_
  rintro σ H R ⟨T, ρ, env, vh, Rl, q⟩
  refine ⟨T, ρ, env, vh, Rl, m _ _ _ _ (fun ds e1 h1 ⟨items, ei, k⟩ ρ' vs H' mv R' hv => ?_) q⟩
  obtain ⟨i, j, rfl, hc, rfl⟩ := items_rng2 ei
  obtain ⟨v, r, rfl, h1, h2⟩ := hv
  obtain ⟨w, r, rfl, h3, h4⟩ := h2
  cases (show r = [] from h4)
  cases (show v = .int i from h1)
  cases (show w = .int j from h3)
  exact ⟨i, j, rfl, hc, k ρ' H' _ mv R' (wk_range fun i => rfl).up⟩
theorem items_rng3 {ds items : List D} (h : itemsD .rng3 ds = some items) : ∃ a b : Int, ds = [.int a, .int b, .int (-1)] ∧ (-(2 ^ 62) ≤ a ∧ a < 2 ^ 62 ∧ -(2 ^ 62) ≤ b ∧ b < 2 ^ 62) ∧ items = (List.range (a - b).toNat).map fun (i : Nat) => D.int (a - (i : Int)) := by
  match ds, h with
  | [.int a, .int b, .int c], h =>
    have h : (if c = -1 ∧ -(2 ^ 62) ≤ a ∧ a < 2 ^ 62 ∧ -(2 ^ 62) ≤ b ∧ b < 2 ^ 62 then some ((List.range (a - b).toNat).map fun (i : Nat) => D.int (a - (i : Int))) else none) = some items := h
    split at h
    · rename_i hc
      cases h
      obtain ⟨rfl, hc⟩ := hc
      exact ⟨a, b, rfl, hc, rfl⟩
    · cases h
theorem wk_rangeC {lo c : Int} {n : Nat} {Z0 : Addr → Prop} {ρ0 : List Addr} {H0 : Hp} {f : Nat → D} (hf : ∀ i : Nat, f i = .int (lo + (i : Nat) * c)) : Wk0 G (Itc lo c n) Z0 ρ0 H0 ((List.range n).map f) where
  go := fun i Z ρ H m hi => by
    rw [List.length_map, List.length_range] at hi
    exact hi
  stop := fun Z ρ H m => by simp [Itc]
  yld := fun i Z ρ H x H' m hi y => by
    obtain ⟨e, y⟩ := y
    subst e y
    simp at hi
    exact ⟨f i, by simp [hi], Same.refl _, by rw [hf]; rfl⟩
theorem ri_rng3 {tg a b c : Expr} {p pos : Pos} {ws : VE → VH → (List D → VE → VH → Prop) → Prop} (m : ∀ env vh (Q Q' : List D → VE → VH → Prop), (∀ x e h, Q x e h → Q' x e h) → ws env vh Q → ws env vh Q') (ha : PA X [a, b, c] (tL G B ws))
    (hg : Gl X "range") (hm : X.mg "range" = none) (hs : starEach [a, b, c] X.env = (false, eval a X.env) :: starEach [b, c] X.env) (hpl : (backTo pos (starEach [b, c] X.env)).any (·.1) = false) :
    PI X tg (.Call (.Name "range" p) [a, b, c] [] pos) (iD G B fun env vh Q => ws env vh fun ds e1 h1 => ∃ items, itemsV .rng3 h1 ds = some items ∧ Q items (stl .rng3 ds h1) e1 h1) := by
  refine pi_imp (pi_range3 hg hm ha hs hpl) ?_
  rintro σ H R ⟨T, ρ, env, vh, Rl, q⟩
  refine ⟨T, ρ, env, vh, Rl, m _ _ _ _ (fun ds e1 h1 ⟨items, ei, k⟩ ρ' vs H' mv R' hv => ?_) q⟩
  obtain ⟨i, j, rfl, hc, rfl⟩ := items_rng3 ei
  obtain ⟨v, r, rfl, h1, h2⟩ := hv
  obtain ⟨w, r, rfl, h3, h4⟩ := h2
  obtain ⟨u, r, rfl, h5, h6⟩ := h4
  cases (show r = [] from h6)
  cases (show v = .int i from h1)
  cases (show w = .int j from h3)
  cases (show u = .int (-1) from h5)
  exact ⟨i, j, -1, _, rfl, RgC.neg hc.1 hc.2.1 hc.2.2.1 hc.2.2.2, k ρ' H' _ mv R' (wk_rangeC fun i => by rw [Int.mul_neg, Int.mul_one]; rfl).up⟩
/-! zip, enumerate -/
theorem rd_pair {Z : Addr → Prop} {ρ : List Addr} {H : Hp} {t : Addr} {x y : V} {dx dy : D} (ht : H t = none) (hx : RD G Z ρ H dx x) (hy : RD G Z ρ H dy y) : Same H (upd H t (.tup [x, y])) ∧ RD G Z ρ (upd H t (.tup [x, y])) (.tup [dx, dy]) (.ref t) := by
  have s := same_new (o := .tup [x, y]) ht
  exact ⟨s, t, [x, y], rfl, .inl (.inl upd_same), x, [y], rfl, RD.move (Mv.same s) _ _ hx, y, [], rfl, RD.move (Mv.same s) _ _ hy, rfl⟩
theorem RDs.zip {Z : Addr → Prop} {ρ : List Addr} {H : Hp} {i : Nat} {xs ys : List D} {vs ws : List V} {x y : V} (h1 : RDs G Z ρ H xs vs) (h2 : RDs G Z ρ H ys ws) (e1 : vs[i]? = some x) (e2 : ws[i]? = some y) :
    ∃ dx dy, (List.zipWith (fun x y => D.tup [x, y]) xs ys)[i]? = some (.tup [dx, dy]) ∧ RD G Z ρ H dx x ∧ RD G Z ρ H dy y := by
  obtain ⟨dx, q1, r1⟩ := h1.getV e1
  obtain ⟨dy, q2, r2⟩ := h2.getV e2
  exact ⟨dx, dy, by rw [List.getElem?_zipWith, q1, q2], r1, r2⟩
theorem wk_zipL {a b : Addr} {vs ws : List V} {xs ys : List D} {Z0 : Addr → Prop} {ρ0 : List Addr} {H0 : Hp} (hq : ∀ Z ρ H, Mv Z0 ρ0 H0 Z ρ H → SqL G.K H a vs) (hq2 : ∀ Z ρ H, Mv Z0 ρ0 H0 Z ρ H → SqL G.K H b ws) (h : RDs G Z0 ρ0 H0 xs vs) (h2 : RDs G Z0 ρ0 H0 ys ws) :
    Wk0 G (Itz G.K a b) Z0 ρ0 H0 (List.zipWith (fun x y => D.tup [x, y]) xs ys) where
  go := fun i Z ρ H m hi => by
    rw [List.length_zipWith, h.length, h2.length] at hi
    exact ⟨vs, ws, vs[i]'(by omega), ws[i]'(by omega), hq Z ρ H m, hq2 Z ρ H m, by simp, by simp⟩
  stop := fun Z ρ H m => ⟨vs, ws, hq Z ρ H m, hq2 Z ρ H m, by rw [List.length_zipWith, h.length, h2.length]; omega⟩
  yld := fun i Z ρ H v H' m hi y => by
    obtain ⟨t, x, y, rfl, ht, rfl, hx, hy⟩ := y
    obtain ⟨dx, dy, e, r1, r2⟩ := (RDs.move m _ _ h).zip (RDs.move m _ _ h2) (hx vs (hq Z ρ H m)) (hy ws (hq2 Z ρ H m))
    obtain ⟨s, r⟩ := rd_pair ht r1 r2
    exact ⟨_, e, s, r⟩
theorem wk_zipT {a b : Addr} {vs ws : List V} {xs ys : List D} {Z0 : Addr → Prop} {ρ0 : List Addr} {H0 : Hp} (hq : SqT G.K H0 a vs) (hq2 : SqT G.K H0 b ws) (h : RDs G Z0 ρ0 H0 xs vs) (h2 : RDs G Z0 ρ0 H0 ys ws) :
    Wk0 G (RZ.ItzT G.K a b) Z0 ρ0 H0 (List.zipWith (fun x y => D.tup [x, y]) xs ys) where
  go := fun i Z ρ H m hi => by
    rw [List.length_zipWith, h.length, h2.length] at hi
    exact ⟨vs, ws, vs[i]'(by omega), ws[i]'(by omega), m.sqt hq, m.sqt hq2, by simp, by simp⟩
  stop := fun Z ρ H m => ⟨vs, ws, m.sqt hq, m.sqt hq2, by rw [List.length_zipWith, h.length, h2.length]; omega⟩
  yld := fun i Z ρ H v H' m hi y => by
    obtain ⟨t, x, y, rfl, ht, rfl, hx, hy⟩ := y
    obtain ⟨dx, dy, e, r1, r2⟩ := (RDs.move m _ _ h).zip (RDs.move m _ _ h2) (hx vs (m.sqt hq)) (hy ws (m.sqt hq2))
    obtain ⟨s, r⟩ := rd_pair ht r1 r2
    exact ⟨_, e, s, r⟩
theorem ri_zip (hK : X.K = G.K) {a b : Expr} {p pos tpos : Pos} {elts : List Expr} {kk : Nat} {ws : VE → VH → (List D → VE → VH → Prop) → Prop} (m : ∀ env vh (Q Q' : List D → VE → VH → Prop), (∀ x e h, Q x e h → Q' x e h) → ws env vh Q → ws env vh Q') (ha : PA X [a, b] (tL G B ws))
    (hg : Gl X "zip") (hm : X.mg "zip" = none) (hs : starEach [a, b] X.env = (false, eval a X.env) :: starEach [b] X.env) (hpl : (backTo pos (starEach [b] X.env)).any (·.1) = false) :
    PI X (.Tuple elts kk tpos) (.Call (.Name "zip" p) [a, b] [] pos) (iD G B fun env vh Q => ws env vh fun ds e1 h1 => ∃ items, itemsV .zip h1 ds = some items ∧ Q items (stl .zip ds h1) e1 h1) := by
  refine pi_imp (RZ.pi_zipA hg hm ha hs hpl) ?_
  rintro σ H R ⟨T, ρ, env, vh, Rl, q⟩
  refine ⟨T, ρ, env, vh, Rl, m _ _ _ _ (fun ds e1 h1 ⟨items, ei, k⟩ ρ' vs H' mv R' hv => ?_) q⟩
  match ds, ei, hv with
  | [.lst xs, .lst ys], ei, ⟨v, r, e1, ⟨a, us, e2, nz1, u1, u2⟩, w, r2, e3, ⟨b, ws, e4, nz2, u3, u4⟩, e5⟩ =>
    cases ei
    cases (show r2 = [] from e5)
    subst e4 e3 e2 e1
    refine ⟨a, b, us, ws, rfl, .inl ⟨.of u1, .of u3, ?_⟩⟩
    rw [hK]
    exact k ρ' H' _ mv R' (wk_zipL (fun Z ρ H m => .of (m.keep a _ nz1 u1).2) (fun Z ρ H m => .of (m.keep b _ nz2 u3).2) u2 u4).up
  | [.tup xs, .tup ys], ei, ⟨v, r, e1, ⟨a, us, e2, u1, u2⟩, w, r2, e3, ⟨b, ws, e4, u3, u4⟩, e5⟩ =>
    cases ei
    cases (show r2 = [] from e5)
    subst e4 e3 e2 e1
    refine ⟨a, b, us, ws, rfl, .inr ⟨by rw [hK]; exact u1, by rw [hK]; exact u3, ?_⟩⟩
    rw [hK]
    exact k ρ' H' _ mv R' (wk_zipT u1 u3 u2 u4).up
theorem wk_zipS {st : VH → Prop} {a b : Addr} {xs ys : List D} {Z0 : Addr → Prop} {ρ0 : List Addr} {H0 : Hp} (l : LsAt G st Z0 ρ0 H0 a xs) (l2 : LsAt G st Z0 ρ0 H0 b ys) :
    Wk G (Itz G.K a b) Z0 ρ0 H0 st (List.zipWith (fun x y => D.tup [x, y]) xs ys) where
  go := fun i Z ρ H h m ob s hi => by
    obtain ⟨vs, h1, h2⟩ := l Z ρ H h m ob s
    obtain ⟨ws, h3, h4⟩ := l2 Z ρ H h m ob s
    rw [List.length_zipWith, h2.length, h4.length] at hi
    exact ⟨vs, ws, vs[i]'(by omega), ws[i]'(by omega), h1, h3, by simp, by simp⟩
  stop := fun Z ρ H h m ob s => by
    obtain ⟨vs, h1, h2⟩ := l Z ρ H h m ob s
    obtain ⟨ws, h3, h4⟩ := l2 Z ρ H h m ob s
    exact ⟨vs, ws, h1, h3, by rw [List.length_zipWith, h2.length, h4.length]; omega⟩
  yld := fun i Z ρ H h v H' m ob s hi y => by
    obtain ⟨vs, h1, h2⟩ := l Z ρ H h m ob s
    obtain ⟨ws, h3, h4⟩ := l2 Z ρ H h m ob s
    obtain ⟨t, x, y, rfl, ht, rfl, hx, hy⟩ := y
    obtain ⟨dx, dy, e, r1, r2⟩ := h2.zip h4 (hx vs h1) (hy ws h3)
    obtain ⟨s, r⟩ := rd_pair ht r1 r2
    exact ⟨_, e, s, r⟩
/-- a list, shared or data, at the start -/
theorem ls_at {T ρ : List Addr} {env : VE} {vh : VH} {σ : L2.St} {H : Hp} {k : Ik} {ds : List D} {d : D} {v : V} {xs : List D} (hs : ∀ h, stl k ds vh h → ∀ n, D.ref n ∈ ds → h[n]? = vh[n]?) (R : Rel G B T ρ env vh σ H) (hd : d ∈ ds) (h : RD G (ZZ B.F T ρ env σ) ρ H d v) (e : drf vh d = .lst xs) :
    ∃ a vs, v = .ref a ∧ SqL G.K H a vs ∧ RDs G (ZZ B.F T ρ env σ) ρ H xs vs ∧ LsAt G (stl k ds vh) (ZZ B.F T ρ env σ) ρ H a xs := by
  unfold drf at e
  split at e
  · rename_i n
    split at e
    · rename_i ys hn
      cases e
      obtain ⟨a, ha, rfl⟩ := h
      obtain ⟨vs, hH, hvs⟩ := R.ob n _ a hn ha
      exact ⟨a, vs, rfl, .of hH, hvs, LsAt.ref ha fun h s => (hs h s n hd).trans hn⟩
    · cases e
  · subst e
    obtain ⟨a, vs, rfl, nz, h1, h2⟩ := h
    exact ⟨a, vs, rfl, .of h1, h2, LsAt.dat nz h1 h2⟩
theorem ri_zipS (hK : X.K = G.K) {a b : Expr} {p pos tpos : Pos} {elts : List Expr} {kk : Nat} {ws : VE → VH → (List D → VE → VH → Prop) → Prop} (m : ∀ env vh (Q Q' : List D → VE → VH → Prop), (∀ x e h, Q x e h → Q' x e h) → ws env vh Q → ws env vh Q') (ha : PA X [a, b] (tL G B ws))
    (hg : Gl X "zip") (hm : X.mg "zip" = none) (hs : starEach [a, b] X.env = (false, eval a X.env) :: starEach [b] X.env) (hpl : (backTo pos (starEach [b] X.env)).any (·.1) = false) :
    PI X (.Tuple elts kk tpos) (.Call (.Name "zip" p) [a, b] [] pos) (iD G B fun env vh Q => ws env vh fun ds e1 h1 => ∃ items, itemsV .zipS h1 ds = some items ∧ Q items (stl .zipS ds h1) e1 h1) := by
  refine pi_imp (RZ.pi_zipA hg hm ha hs hpl) ?_
  rintro σ H R ⟨T, ρ, env, vh, Rl, q⟩
  refine ⟨T, ρ, env, vh, Rl, m _ _ _ _ (fun ds e1 h1 ⟨items, ei, k⟩ ρ' vs H' mv R' hv => ?_) q⟩
  obtain ⟨d, e, rfl⟩ : ∃ d e, ds = [d, e] := by
    rcases ds with _ | ⟨d, _ | ⟨e, _ | ⟨f, r⟩⟩⟩
    · cases ei
    · exact absurd ei (by simp [itemsV, itemsD])
    · exact ⟨d, e, rfl⟩
    · exact absurd ei (by simp [itemsV, itemsD])
  · obtain ⟨v, r, q1, hd, w, r2, q2, he, q3⟩ := hv
    cases (show r2 = [] from q3)
    subst q2 q1
    have ei : itemsD .zip [drf h1 d, drf h1 e] = some items := ei
    cases g1 : drf h1 d with
    | lst xs =>
      cases g2 : drf h1 e with
      | lst ys =>
        rw [g1, g2] at ei
        cases ei
        obtain ⟨a, us, rfl, u1, u2, l1⟩ := ls_at (k := .zipS) (ds := [d, e]) (fun h s => s) R' (by simp) hd g1
        obtain ⟨b, ws, rfl, u3, u4, l2⟩ := ls_at (k := .zipS) (ds := [d, e]) (fun h s => s) R' (by simp) he g2
        refine ⟨a, b, us, ws, rfl, .inl ⟨by rw [hK]; exact u1, by rw [hK]; exact u3, ?_⟩⟩
        rw [hK]
        exact k ρ' H' _ mv R' (wk_zipS l1 l2)
      | _ => rw [g1, g2] at ei; cases ei
    | tup xs =>
      cases g2 : drf h1 e with
      | tup ys =>
        rw [g1, g2] at ei
        cases ei
        have f1 : d = .tup xs := by
          unfold drf at g1
          split at g1
          · split at g1 <;> cases g1
          · exact g1
        have f2 : e = .tup ys := by
          unfold drf at g2
          split at g2
          · split at g2 <;> cases g2
          · exact g2
        subst f1 f2
        obtain ⟨a, us, rfl, u1, u2⟩ := hd
        obtain ⟨b, ws, rfl, u3, u4⟩ := he
        refine ⟨a, b, us, ws, rfl, .inr ⟨by rw [hK]; exact u1, by rw [hK]; exact u3, ?_⟩⟩
        rw [hK]
        exact k ρ' H' _ mv R' (wk_zipT u1 u3 u2 u4).up
      | _ => rw [g1, g2] at ei; cases ei
    | _ => rw [g1] at ei; cases ei
end
end R

set_option autoImplicit false
namespace R
open PySem PySem.Spec PyProof.Rows L2
/-! ## R5c: list comprehensions -/
section
variable {X : Cx} {G : Wd} {B : Base} {T ρ : List Addr} {env : VE} {vh : VH} {σ : L2.St} {H : Hp} {D : Addr}
/-- the base of a turn: D the list that is made -/
def Base.wth (B : Base) (D : Addr) (T ρ : List Addr) (env : VE) (σ : L2.St) (H : Hp) : Base := ⟨fun a => B.F a ∨ a = D, MZ T ρ env σ, H, ρ⟩
theorem wthZ {T0 ρ0 : List Addr} {env0 : VE} {σ0 : L2.St} {H0 : Hp} : ZZ (B.wth D T0 ρ0 env0 σ0 H0).F T ρ env σ = ZZ B.F (D :: T) ρ env σ := funext fun a => propext ⟨fun z => (by
    rcases z with (z | z) | z | z
    · exact .inl z
    · exact .inr (.inl (by rw [show a = D from z]; exact List.mem_cons_self))
    · exact .inr (.inl (List.mem_cons_of_mem _ z))
    · exact .inr (.inr z)), fun z => (by
    rcases z with z | z | z
    · exact .inl (.inl z)
    · rcases List.mem_cons.mp z with e | z
      · exact .inl (.inr e)
      · exact .inr (.inl z)
    · exact .inr (.inr z))⟩
theorem mzCons {a : Addr} (z : MZ T ρ env σ a) : MZ (D :: T) ρ env σ a := z.imp (List.mem_cons_of_mem _) id
theorem Rel.notD (R : Rel G B (D :: T) ρ env vh σ H) : ¬ MZ T ρ env σ D := by
  rintro (z | z | ⟨i, z⟩)
  · exact (List.nodup_cons.mp R.tn).1 z
  · exact R.tr D List.mem_cons_self z
  · exact (R.ot i D z).1 List.mem_cons_self
theorem Rel.inD (R : Rel G B (D :: T) ρ env vh σ H) : Rel G (B.wth D T ρ env σ H) T ρ env vh σ H := by
  refine ⟨R.vl, R.rn, (List.nodup_cons.mp R.tn).2, fun a h => R.tr a (List.mem_cons_of_mem _ h), fun i a h => ⟨fun z => (R.ot i a h).1 (List.mem_cons_of_mem _ z), (R.ot i a h).2⟩, R.oi, fun a f z => ?_, fun a z => ?_, fun n o a h1 h2 => ?_, R.sl, fun i s h => ?_, fun _ _ h _ => h, fun _ _ h => h, fun _ z => .inl z, fun _ _ h => h⟩
  · rcases f with f | f
    · exact R.fm a f (mzCons z)
    · cases f
      exact R.notD z
  · rw [wthZ] at z
    exact R.tk a z
  · rw [wthZ]
    exact R.ob n o a h1 h2
  · rw [wthZ]
    exact R.st i s h
theorem Rel.outD {ρ' : List Addr} {env' : VE} {vh' : VH} {σ' : L2.St} {H' : Hp} (R : Rel G B (D :: T) ρ env vh σ H) (S : Rel G (B.wth D T ρ env σ H) T ρ' env' vh' σ' H') :
    Rel G B (D :: T) ρ' env' vh' σ' H' ∧ Mv (ZZ B.F (D :: T) ρ env σ) ρ H (ZZ B.F (D :: T) ρ' env' σ') ρ' H' ∧ H' D = H D := by
  have sD : ¬ MZ T ρ' env' σ' D := S.fm D (.inr rfl)
  have back : ∀ a, H a = none → B.mu a ∨ B.H0 a = none := fun a q => by
    by_cases hm : B.mu a
    · exact .inl hm
    · cases e : B.H0 a with
      | none => exact .inr rfl
      | some u =>
        have := R.kp a u e hm
        rw [q] at this
        cases this
  refine ⟨⟨S.vl, S.rn, List.nodup_cons.mpr ⟨(List.nodup_cons.mp R.tn).1, S.tn⟩, fun a h => ?_, fun i a h => ⟨fun z => ?_, (S.ot i a h).2⟩, S.oi, fun a f z => ?_, fun a z => ?_, fun n o a h1 h2 => ?_, S.sl, fun i s h => ?_, fun a u h nm => ?_, fun a xs h => S.tp a xs (R.tp a xs h), fun a z => ?_, fun n a h => S.pr n a (R.pr n a h)⟩, ⟨S.pr, fun a u nz h => ⟨fun z => ?_, ?_⟩, S.tp⟩, ?_⟩
  · rcases List.mem_cons.mp h with e | h
    · cases e
      exact fun z => sD (.inr (.inl z))
    · exact S.tr a h
  · rcases List.mem_cons.mp z with e | z
    · cases e
      exact sD (.inr (.inr ⟨i, h⟩))
    · exact (S.ot i a h).1 z
  · rcases z with z | z
    · rcases List.mem_cons.mp z with e | z
      · cases e
        exact R.fm D f (.inl List.mem_cons_self)
      · exact S.fm a (.inl f) (.inl z)
    · exact S.fm a (.inl f) (.inr z)
  · rw [← wthZ (T0 := T) (ρ0 := ρ) (env0 := env) (σ0 := σ) (H0 := H)] at z
    exact S.tk a z
  · rw [← wthZ (T0 := T) (ρ0 := ρ) (env0 := env) (σ0 := σ) (H0 := H)]
    exact S.ob n o a h1 h2
  · rw [← wthZ (T0 := T) (ρ0 := ρ) (env0 := env) (σ0 := σ) (H0 := H)]
    exact S.st i s h
  · exact S.kp a u (R.kp a u h nm) fun z => (R.zn a (mzCons z)).elim nm fun q => (by rw [h] at q; cases q)
  · rcases z with z | z
    · rcases List.mem_cons.mp z with e | z
      · cases e
        exact R.zn D (.inl List.mem_cons_self)
      · rcases S.zn a (.inl z) with q | q
        · exact R.zn a (mzCons q)
        · exact back a q
    · rcases S.zn a (.inr z) with q | q
      · exact R.zn a (mzCons q)
      · exact back a q
  · rw [← wthZ (T0 := T) (ρ0 := ρ) (env0 := env) (σ0 := σ) (H0 := H)] at z
    rcases z with (z | z) | z
    · exact nz (.inl z)
    · exact nz (.inr (.inl (by rw [show a = D from z]; exact List.mem_cons_self)))
    · rcases S.zn a z with q | q
      · exact nz (.inr (mzCons q))
      · have q : H a = none := q
        rw [h] at q
        cases q
  · exact S.kp a u h fun z => nz (.inr (mzCons z))
  · obtain ⟨u, hu, _⟩ := R.tk D (.inr (.inl List.mem_cons_self))
    exact (S.kp D u hu R.notD).trans hu.symm

/-! ### names forgotten and bound -/
theorem wipeE_length (env : VE) : ∀ is : List Nat, (wipeE env is).length = env.length
  | [] => rfl
  | i :: is => by unfold wipeE; rw [List.length_set, wipeE_length env is]
theorem wipeE_out {env : VE} {i : Nat} : ∀ {is : List Nat}, i ∉ is → (wipeE env is)[i]? = env[i]?
  | [], _ => rfl
  | j :: is, h => by
    unfold wipeE
    rw [List.getElem?_set_ne (fun e => h (by rw [← e]; exact List.mem_cons_self)), wipeE_out fun z => h (List.mem_cons_of_mem _ z)]
theorem wipeE_in {env : VE} {i : Nat} {s : Slot} : ∀ {is : List Nat}, i ∈ is → (wipeE env is)[i]? = some s → s = .no
  | j :: is, h, e => by
    unfold wipeE at e
    rcases set_getE e with ⟨_, e⟩ | ⟨ne, e⟩
    · exact e
    · exact wipeE_in ((List.mem_cons.mp h).resolve_left ne) e
theorem wipe_out {σ : L2.St} {i : Nat} : ∀ {is : List Nat}, i ∉ is → (wipe σ is)[i]? = σ[i]?
  | [], _ => rfl
  | j :: is, h => by
    unfold wipe
    rw [List.getElem?_set_ne (fun e => h (by rw [← e]; exact List.mem_cons_self)), wipe_out fun z => h (List.mem_cons_of_mem _ z)]
theorem wipe_in {σ : L2.St} {i : Nat} : ∀ {is : List Nat}, i ∈ is → i < σ.length → (wipe σ is)[i]? = some none
  | j :: is, h, hi => by
    unfold wipe
    by_cases e : j = i
    · subst e
      exact List.getElem?_set_self (by rw [wipe_length]; exact hi)
    · rw [List.getElem?_set_ne e]
      exact wipe_in ((List.mem_cons.mp h).resolve_left (Ne.symm e)) hi
theorem noOwn_in {env : VE} {i : Nat} {ds : List R.D} : ∀ {is : List Nat}, noOwn env is → i ∈ is → env[i]? ≠ some (.own ds)
  | j :: is, h, hi, e => by
    rcases List.mem_cons.mp hi with q | q
    · subst q
      have h1 := h.1
      rw [e] at h1
      exact h1
    · exact noOwn_in h.2 q e
/-- outside is, all is as it was; within, nothing is held alone -/
structure Cl (is : List Nat) (env : VE) (σ : L2.St) (env2 : VE) (σ2 : L2.St) : Prop where
  le : env2.length = env.length
  ls : σ2.length = σ.length
  out : ∀ i, i ∉ is → env2[i]? = env[i]? ∧ σ2[i]? = σ[i]?
  inn : ∀ i, i ∈ is → ∀ ds, env2[i]? ≠ some (.own ds)
theorem Set1.cl {is js : List Nat} {env0 env env2 : VE} {σ0 σ σ2 : L2.St} (h : Set1 is env σ env2 σ2) (s : ∀ i, i ∈ is → i ∈ js) : Cl js env0 σ0 env σ → Cl js env0 σ0 env2 σ2 := by
  induction h with
  | nil => exact id
  | @cons env env2 σ σ2 i is d v hi _ ih =>
    refine fun c => ih s ⟨by rw [List.length_set]; exact c.le, by rw [List.length_set]; exact c.ls, fun j hj => ?_, fun j hj ds e => ?_⟩
    · have ne : i ≠ j := fun e => hj (by rw [← e]; exact s i hi)
      rw [List.getElem?_set_ne ne, List.getElem?_set_ne ne]
      exact c.out j hj
    · rcases set_getE e with ⟨_, e⟩ | ⟨_, e⟩
      · cases e
      · exact c.inn j hj ds e
theorem wipe_cl {is : List Nat} : Cl is env σ (wipeE env is) (wipe σ is) :=
  ⟨wipeE_length _ _, wipe_length _ _, fun i hi => ⟨wipeE_out hi, wipe_out hi⟩, fun i hi ds e => by have := wipeE_in hi e; cases this⟩
theorem Cl.own {is : List Nat} {env2 : VE} {σ2 : L2.St} (c : Cl is env σ env2 σ2) (no : noOwn env is) {a : Addr} {i : Nat} : Own env2 σ2 a i ↔ Own env σ a i := by
  constructor
  · rintro ⟨ds, h1, h2⟩
    by_cases hi : i ∈ is
    · exact absurd h1 (c.inn i hi ds)
    · obtain ⟨q1, q2⟩ := c.out i hi
      exact ⟨ds, q1 ▸ h1, q2 ▸ h2⟩
  · rintro ⟨ds, h1, h2⟩
    by_cases hi : i ∈ is
    · exact absurd h1 (noOwn_in no hi)
    · obtain ⟨q1, q2⟩ := c.out i hi
      exact ⟨ds, q1.trans h1, q2.trans h2⟩
theorem Cl.zz {is : List Nat} {env2 : VE} {σ2 : L2.St} (c : Cl is env σ env2 σ2) (no : noOwn env is) {F : Addr → Prop} : ZZ F T ρ env2 σ2 = ZZ F T ρ env σ := funext fun a => propext
  ⟨fun z => z.imp id (Or.imp id (Or.imp id fun ⟨i, h⟩ => ⟨i, (c.own no).mp h⟩)), fun z => z.imp id (Or.imp id (Or.imp id fun ⟨i, h⟩ => ⟨i, (c.own no).mpr h⟩))⟩
theorem Cl.wipe {is : List Nat} {env2 : VE} {σ2 : L2.St} (c : Cl is env σ env2 σ2) : wipe σ2 is = wipe σ is := by
  apply List.ext_getElem?
  intro i
  by_cases hi : i ∈ is
  · by_cases hl : i < σ.length
    · rw [wipe_in hi hl, wipe_in hi (by rw [c.ls]; exact hl)]
    · rw [List.getElem?_eq_none (by rw [wipe_length, c.ls]; omega), List.getElem?_eq_none (by rw [wipe_length]; omega)]
  · rw [wipe_out hi, wipe_out hi, (c.out i hi).2]
theorem Rel.wipeR {is : List Nat} (R : Rel G B T ρ env vh σ H) : Rel G B T ρ (wipeE env is) vh (wipe σ is) H := by
  have hO : ∀ i a, Own (wipeE env is) (wipe σ is) a i → Own env σ a i := fun i a ⟨ds, h1, h2⟩ => by
    by_cases hi : i ∈ is
    · have := wipeE_in hi h1
      cases this
    · exact ⟨ds, (wipeE_out hi) ▸ h1, (wipe_out hi) ▸ h2⟩
  refine R.weak (fun _ h => h) R.tn (fun i a h => hO i a h) (by rw [wipeE_length, wipe_length]; exact R.sl) fun i s h => ?_
  by_cases hi : i ∈ is
  · cases wipeE_in hi h
    trivial
  · rw [wipe_out hi]
    rw [wipeE_out hi] at h
    exact (R.st i s h).move (Mv.less fun b z => z.imp id (Or.imp id (Or.imp id fun ⟨j, z⟩ => ⟨j, hO j b z⟩))) fun _ _ _ _ => rfl
/-- behind a turn -/
theorem Rel.unset {is : List Nat} {ρ' : List Addr} {env2 : VE} {vh' : VH} {σ2 : L2.St} {H' : Hp} (R : Rel G B T ρ env vh σ H) (c : Cl is env σ env2 σ2) (no : noOwn env is) (S : Rel G B T ρ' env2 vh' σ2 H')
    (m : Mv (ZZ B.F T ρ env σ) ρ H (ZZ B.F T ρ' env2 σ2) ρ' H') : Rel G B T ρ' env vh' σ H' := by
  refine S.weak (fun _ h => h) S.tn (fun i a h => (c.own no).mpr h) R.sl fun i s h => ?_
  rw [← c.zz no (T := T) (ρ := ρ') (F := B.F)]
  have q := R.st i s h
  cases s with
  | no => trivial
  | val d =>
    obtain ⟨v, h1, h2⟩ := q
    exact ⟨v, h1, RD.move m _ _ h2⟩
  | own ds =>
    have hi : i ∉ is := fun z => noOwn_in no z h
    obtain ⟨q1, q2⟩ := c.out i hi
    have z := S.st i _ (q1.trans h)
    rw [q2] at z
    exact z
theorem Rel.tmpUpd {u : HO} (R : Rel G B (D :: T) ρ env vh σ H) (mu : Mt u) : Rel G B (D :: T) ρ env vh σ (upd H D u) := by
  obtain ⟨o, e, mo⟩ := R.tk D (.inr (.inl List.mem_cons_self))
  refine R.write (.inl List.mem_cons_self) e mo mu rfl rfl (fun _ _ => Iff.rfl) (fun n o a h1 h2 => ⟨fun _ => h1, fun z => ?_⟩) (fun i s h => .inl ⟨h, fun ds es z => ?_⟩)
  · cases z
    exact absurd (List.mem_of_getElem? h2) (R.tr D List.mem_cons_self)
  · subst es
    exact (R.ot i D ⟨ds, h, z⟩).1 List.mem_cons_self

/-! ### the comprehension -/
def tW (G : Wd) (w : VE → VH → (Bool → VH → Prop) → Prop) : TT := fun σ H Q => ∃ B T ρ env vh, Rel G B T ρ env vh σ H ∧ w env vh fun b h1 => ∀ ρ' H', Mv (ZZ B.F T ρ env σ) ρ H (ZZ B.F T ρ' env σ) ρ' H' → Rel G B T ρ' env h1 σ H' → Q b H'
def tDx (G : Wd) (w : VE → VH → QE → Prop) : TE := fun σ H Q => ∃ B, tD G B w σ H Q
theorem pe_all {e : Expr} {w : VE → VH → QE → Prop} (h : ∀ B, PE X e (tD G B w)) : PE X e (tDx G w) := ⟨fun pins s σ H Q I ⟨B, z⟩ => (h B).run pins s σ H Q I z⟩
theorem pts_w0 : PTs X [] (tW G fun env vh Q => Q true vh) := ⟨fun pins s σ H Q I ⟨B, T, ρ, env, vh, R, z⟩ => pts_nil.run pins s σ H Q I (z ρ H Mv.refl R)⟩
theorem pts_w1 {c : Expr} {w : VE → VH → QE → Prop} (mono : ∀ env vh (Q Q' : QE), (∀ x e h, Q x e h → Q' x e h) → w env vh Q → w env vh Q') (h : ∀ B, PT X c (tB G B w)) :
    PTs X [c] (tW G fun env vh Q => w env vh fun x e1 h1 => e1 = env ∧ ∃ k, x = .v (.bl k) ∧ Q k h1) := ⟨fun pins s σ H Q I ⟨B, T, ρ, env, vh, R, z⟩ => (pts_one (h B)).run pins s σ H Q I ⟨T, ρ, env, vh, R, mono _ _ _ _ (fun x e1 h1 ⟨ee, k, ex, y⟩ => ⟨k, ex, fun ρ' H' m R' => by
  subst ee
  exact y ρ' H' m R'⟩) z⟩⟩

theorem lc_sound {own : List (Str × Nat)} {tgI : Tg} {wi : VE → VH → (List R.D → (VH → Prop) → VE → VH → Prop) → Prop} {wt : VE → VH → (Bool → VH → Prop) → Prop} {we : VE → VH → QE → Prop}
    (mi : ∀ env vh (Q Q' : List R.D → (VH → Prop) → VE → VH → Prop), (∀ x s e h, Q x s e h → Q' x s e h) → wi env vh Q → wi env vh Q') (mt : ∀ env vh (Q Q' : Bool → VH → Prop), (∀ x h, Q x h → Q' x h) → wt env vh Q → wt env vh Q') (me : ∀ env vh (Q Q' : QE), (∀ x e h, Q x e h → Q' x e h) → we env vh Q → we env vh Q')
    (hsub : ∀ i, i ∈ tgIx tgI → i ∈ own.map (·.2)) :
    ∀ σ H Q, tD G B (fun env vh Q => wi env vh fun items st e1 h1 => noOwn e1 (own.map (·.2)) ∧ lcGo (fun d h R => st h ∧ ∃ e2, bindT tgI d (wipeE e1 (own.map (·.2))) = some e2 ∧ wt e2 h fun b h3 => ifP b (we e2 h3 fun x e4 h4 => e4 = e2 ∧ R (some x.d) h4) (R none h3)) items h1 [] fun acc h2 => st h2 ∧ Q (.fr acc) e1 h2) σ H Q →
      tLc (iD G B wi) (gOf G.K tgI) (tW G wt) (tDx G we) (own.map (·.2)) σ H Q := by
  generalize own.map (·.2) = is at hsub ⊢
  rintro σ H Q ⟨T, ρ, env, vh, R0, w⟩
  refine ⟨T, ρ, env, vh, R0, mi _ _ _ _ (fun items st e1 h1 ⟨no, go⟩ ρ1 H1 J m1 R1 wk => ?_) w⟩
  intro D hD
  generalize hQQ : (fun (acc : List R.D) (h2 : VH) => st h2 ∧ ∀ (ρ' : List Addr) (v : V) (H' : Hp), Res G B T ρ env σ H (.fr acc) v ρ' e1 h2 H' → Q v H') = QQ at go
  generalize hturn : (fun (d : R.D) (h : VH) (R : Option R.D → VH → Prop) => st h ∧ ∃ e2, bindT tgI d (wipeE e1 is) = some e2 ∧ wt e2 h fun b h3 => ifP b (we e2 h3 fun x e4 h4 => e4 = e2 ∧ R (some x.d) h4) (R none h3)) = turn at go
  have hm0 : Mv (ZZ B.F T ρ1 e1 σ) ρ1 H1 (ZZ B.F (D :: T) ρ1 e1 σ) ρ1 (upd H1 D (.lst [])) := Mv.fresh (same_new hD) fun b z => by
      rcases z with z | z | z
      · exact .inl (.inl z)
      · rcases List.mem_cons.mp z with e | z
        · exact .inr (by rw [e]; exact hD)
        · exact .inl (.inr (.inl z))
      · exact .inl (.inr (.inr z))
  let Pv : Nat → Hp → Prop := fun i H => ∃ ρ' h vs acc, H D = some (.lst vs) ∧ RDs G (ZZ B.F (D :: T) ρ' e1 σ) ρ' H acc vs ∧ Rel G B (D :: T) ρ' e1 h σ H ∧ Mv (ZZ B.F T ρ1 e1 σ) ρ1 H1 (ZZ B.F (D :: T) ρ' e1 σ) ρ' H ∧ lcGo turn (items.drop i) h acc QQ
  refine ⟨fun i m H => m = items.length - i ∧ i ≤ items.length ∧ Pv i H, ⟨items.length, by simp, Nat.zero_le _, ρ1, h1, [], [], upd_same, rfl, R1.tmp hD trivial, hm0, go⟩, ?_⟩
  rintro i m H2 ⟨rfl, hil, ρ', h, vs, acc, hD', hacc, R', m', go'⟩
  by_cases hlt : i < items.length
  · have hdrop0 : items.drop i = items[i] :: items.drop (i + 1) := List.drop_eq_getElem_cons hlt
    have hst : st h := by
      rw [hdrop0] at go'
      subst hturn
      exact go'.1
    refine .inr ⟨wk.go i _ ρ' H2 h m' R'.ob hst hlt, Pv (i + 1), fun H' p' => ⟨items.length - (i + 1), by omega, rfl, hlt, p'⟩, fun x H3 y => ?_⟩
    obtain ⟨d, hd, sm, hx⟩ := wk.yld i _ ρ' H2 h x H3 m' R'.ob hst hlt y
    have hdrop : items.drop i = d :: items.drop (i + 1) := by
      rw [List.drop_eq_getElem_cons hlt]
      rw [List.getElem?_eq_getElem hlt] at hd
      rw [Option.some.inj hd]
    rw [hdrop] at go'
    subst hturn
    obtain ⟨_, e2, hb, tw⟩ := go'
    have Rg := R'.grow sm
    have mg : Mv (ZZ B.F (D :: T) ρ' e1 σ) ρ' H2 (ZZ B.F (D :: T) ρ' e1 σ) ρ' H3 := Mv.same sm
    have Ri := Rg.inD
    have Rw := Ri.wipeR (is := is)
    have hx2 : RD G (ZZ (B.wth D T ρ' e1 σ H3).F T ρ' (wipeE e1 is) (L2.wipe σ is)) ρ' H3 d x := by
      rw [wipe_cl.zz no, wthZ]
      exact hx
    refine bind_ok Rw hx2 hb fun σ2 R4 s2 m4 => ?_
    have c : Cl is e1 σ e2 σ2 := s2.cl hsub wipe_cl
    have m4' : Mv (ZZ (B.wth D T ρ' e1 σ H3).F T ρ' e1 σ) ρ' H3 (ZZ (B.wth D T ρ' e1 σ H3).F T ρ' e2 σ2) ρ' H3 := by
      rw [wipe_cl.zz no] at m4
      exact m4
    refine ⟨c.wipe, ⟨_, T, ρ', e2, h, R4, mt _ _ _ _ (fun b h3 z ρ3 H4 m5 R5 => ?_) tw⟩⟩
    cases b with
    | false =>
      refine L2.iteF ?_
      obtain ⟨S, mm, eD⟩ := Rg.outD (Ri.unset c no R5 (m4'.trans m5))
      have mm2 := mg.trans mm
      exact ⟨ρ3, h3, vs, acc, eD.trans (sm _ _ hD'), RDs.move mm2 _ _ hacc, S, m'.trans mm2, z⟩
    | true =>
      refine L2.iteT ⟨_, T, ρ3, e2, h3, R5, me _ _ _ _ (fun y e4 h4 ⟨ee, zq⟩ ρ6 v H6 r => ?_) z⟩
      subst ee
      obtain ⟨m6, R6, hv⟩ := r.d
      obtain ⟨S, mm, eD⟩ := Rg.outD (Ri.unset c no R6 ((m4'.trans m5).trans m6))
      have mm2 := mg.trans mm
      have hv2 : RD G (ZZ B.F (D :: T) ρ6 e1 σ) ρ6 H6 y.d v := by
        rw [c.zz no, wthZ] at hv
        exact hv
      have eD2 : H6 D = some (.lst vs) := eD.trans (sm _ _ hD')
      have hz : D ∈ D :: T := List.mem_cons_self
      have mu : Mv (ZZ B.F (D :: T) ρ6 e1 σ) ρ6 H6 (ZZ B.F (D :: T) ρ6 e1 σ) ρ6 (upd H6 D (.lst (vs ++ [v]))) := Mv.upd (.inr (.inl hz)) eD2 trivial
      refine ⟨vs, eD2, ?_, ρ6, h4, vs ++ [v], acc ++ [y.d], upd_same, ?_, S.tmpUpd trivial, (m'.trans mm2).trans mu, zq.2⟩
      · rw [sizeLine_eq, ← hacc.length]
        exact zq.1
      · exact RDs.append (RDs.move (mm2.trans mu) _ _ hacc) (.one (RD.move mu _ _ hv2))
  · have e : i = items.length := by omega
    subst e
    rw [List.drop_length] at go'
    subst hQQ
    refine .inl ⟨wk.stop _ ρ' H2 h m' R'.ob go'.1, ?_⟩
    exact go'.2 ρ' (.ref D) H2 ⟨D, vs, rfl, hD', m1.trans m', R', hacc⟩
theorem re_lc {K : XP} {Φ : Fns} {Γ : Cns} {fs : List Str} (o : XOk X G B K Φ Γ fs) (hc : hotN ∉ fs) {elt tg iter : Expr} {ifs : List Expr} {scope : Scope} {own : List (Str × Nat)} {pos : Pos} {tgI : Tg} {wi : VE → VH → (List R.D → (VH → Prop) → VE → VH → Prop) → Prop} {wt : VE → VH → (Bool → VH → Prop) → Prop} {we : VE → VH → QE → Prop}
    (mi : ∀ env vh (Q Q' : List R.D → (VH → Prop) → VE → VH → Prop), (∀ x s e h, Q x s e h → Q' x s e h) → wi env vh Q → wi env vh Q') (mt : ∀ env vh (Q Q' : Bool → VH → Prop), (∀ x h, Q x h → Q' x h) → wt env vh Q → wt env vh Q') (me : ∀ env vh (Q Q' : QE), (∀ x e h, Q x e h → Q' x e h) → we env vh Q → we env vh Q')
    (hi : PI X tg iter (iD G B wi)) (ok : BlkOk X.N X.env.scope scope own)
    (hg : ∀ (s : Shared) (H : Hp) (C : Addr) (cl : List (Str × Addr)) (fp : List Addr), PG (X.blk s H scope (compEnvC scope cl C X.env) fp) tg (gOf G.K tgI)) (ht : ∀ (s : Shared) (H : Hp) (C : Addr) (cl : List (Str × Addr)) (fp : List Addr), PTs (X.blk s H scope (compEnvC scope cl C X.env) fp) ifs (tW G wt))
    (he : ∀ (s : Shared) (H : Hp) (C : Addr) (cl : List (Str × Addr)) (fp : List Addr), PE (X.blk s H scope (compEnvC scope cl C X.env) fp) elt (tDx G we)) (hs : ∀ x, foldedSetIterable iter X.env x = pure x) (hsub : ∀ i, i ∈ tgIx tgI → i ∈ own.map (·.2)) :
    PE X (.ListComp elt [⟨tg, iter, ifs, 0⟩] scope pos) (tD G B (fun env vh Q => wi env vh fun items st e1 h1 => noOwn e1 (own.map (·.2)) ∧ lcGo (fun d h R => st h ∧ ∃ e2, bindT tgI d (wipeE e1 (own.map (·.2))) = some e2 ∧ wt e2 h fun b h3 => ifP b (we e2 h3 fun x e4 h4 => e4 = e2 ∧ R (some x.d) h4) (R none h3)) items h1 [] fun acc h2 => st h2 ∧ Q (.fr acc) e1 h2)) :=
  (pe_lc (o.calm hc) o.nd hi ok hg ht he hs).imp (lc_sound mi mt me hsub)
end
end R

set_option autoImplicit false
namespace R
open PySem PySem.Spec PyProof.Rows L2
/-! ## R5d: dicts that are written out -/
section
variable {X : Cx} {G : Wd} {B : Base} {T ρ : List Addr} {env : VE} {vh : VH} {σ : L2.St} {H : Hp}
variable {K : XP} {Φ : Fns} {Γ : Cns} {fs : List Str}
theorem XOk.any (o : XOk X G B K Φ Γ fs) (hc : hotN ∉ fs) (B' : Base) : XOk X G B' (fun _ _ _ _ => False) Φ Γ fs :=
  ⟨o.hK, o.calm, o.nd, o.hu, fun u s' x => by
    obtain ⟨a, B1, sI, pins, σ, H, cls, d, e, I, nb, up, sky, na, os, ag, w⟩ := x
    obtain ⟨_, _, _, _, _, _, _, _, _, _, _, k⟩ := w
    exact k.elim, o.fn, o.cn, o.bl, o.mt, o.mkC, o.ic, o.rm, o.ok, fun h => absurd h hc⟩
theorem mergeK_new : ∀ (more kvs : List (Key × V)), ((kvs ++ more).map (·.1)).Nodup → L2.mergeK kvs more = kvs ++ more
  | [], kvs, _ => by rw [List.append_nil]; rfl
  | p :: r, kvs, h => by
    have hv : valV kvs p.1 = none := by
      have e := valV_any p.1 kvs
      cases hq : valV kvs p.1 with
      | none => rfl
      | some z =>
        rw [hq, Option.isSome_some, List.any_eq_true] at e
        obtain ⟨q, hm, hd⟩ := e
        have hd := of_decide_eq_true hd
        rw [List.map_append, List.map_cons] at h
        have := (List.nodup_append.mp h).2.2 q.1 (List.mem_map_of_mem hm) p.1 List.mem_cons_self
        exact absurd hd this
    show L2.mergeK (putK kvs p.1 p.2) r = _
    rw [putK_new p.2 hv, mergeK_new r (kvs ++ [(p.1, p.2)]) (by rw [List.append_assoc]; exact h), List.append_assoc]
    rfl
def keyE : Expr → Option Key
  | .Constant (.str x) _ _ => some (.inr x)
  | .Constant (.int i) _ _ => some (.inl i)
  | _ => none
def keysOf : List (Option Expr) → Option (List Key)
  | [] => some []
  | some e :: r => match keyE e, keysOf r with
    | some k, some ks => some (k :: ks)
    | _, _ => none
  | _ => none
theorem keyE_ok {X : Cx} {e : Expr} {k : Key} (h : keyE e = some k) : PE X e (tC (kV k)) := by
  unfold keyE at h
  split at h
  · cases h; exact pe_str
  · cases h; exact pe_int
  · cases h
abbrev noK : XP := fun _ _ _ _ => False
def trsOf (G : Wd) (Φ : Fns) (Γ : Cns) : List Key → List E → List (TE × TE)
  | k :: ks, ir :: irs => (tC (kV k), tDx G (wpE Φ Γ ir noK false)) :: trsOf G Φ Γ ks irs
  | _, _ => []
theorem pps_ok {pos : Pos} : ∀ {keys : List (Option Expr)} {values : List Expr} {ks : List Key} {irs : List E}, keysOf keys = some ks → Paired (fun e ir => ∀ B', PE X e (tD G B' (wpE Φ Γ ir noK false))) values irs → keys.length = values.length →
    PPs X pos keys values (trsOf G Φ Γ ks irs)
  | [], values, ks, irs, hk, hv, hl => by
    cases hk
    cases hv with
    | nil => exact pps_nil
    | cons _ _ => cases hl
  | k :: keys, values, ks, irs, hk, hv, hl => by
    unfold keysOf at hk
    split at hk
    · rename_i e; cases e
    · rename_i e0 r e
      cases e
      split at hk
      · rename_i k' ks' h0 h1
        cases hk
        cases hv with
        | nil => cases hl
        | cons h t => exact pps_cons (keyE_ok h0) (pe_all h) (pps_ok h1 t (by simpa using hl))
      · cases hk
    · cases hk
theorem tPairs_ok : ∀ (ks : List Key) (irs : List E) {ρ : List Addr} {env : VE} {vh : VH} {H : Hp} {QQ : List D → VE → VH → Prop} {P : List (V × V) → Hp → Prop}, Rel G B T ρ env vh σ H → ks.length = irs.length → wpEs Φ Γ irs noK env vh QQ →
    (∀ ds e1 h1 ρ' vs H', QQ ds e1 h1 → Mv (ZZ B.F T ρ env σ) ρ H (ZZ B.F T ρ' e1 σ) ρ' H' → Rel G B T ρ' e1 h1 σ H' → RDs G (ZZ B.F T ρ' e1 σ) ρ' H' ds vs → P (List.zipWith (fun k v => (kV k, v)) ks vs) H') → tPairs (trsOf G Φ Γ ks irs) σ H P
  | [], [], ρ, env, vh, H, QQ, P, R, hl, w, f => f [] env vh ρ [] H w Mv.refl R rfl
  | k :: ks, [], ρ, env, vh, H, QQ, P, R, hl, w, f => by cases hl
  | [], ir :: irs, ρ, env, vh, H, QQ, P, R, hl, w, f => by cases hl
  | k :: ks, ir :: irs, ρ, env, vh, H, QQ, P, R, hl, w, f => by
    show tDx G (wpE Φ Γ ir noK false) σ H fun y H2 => tPairs (trsOf G Φ Γ ks irs) σ H2 fun ps H3 => P ((kV k, y) :: ps) H3
    refine ⟨B, T, ρ, env, vh, R, wpE_mono ir noK false _ _ _ _ (fun x e1 h1 w1 ρ1 v H1 r => ?_) w⟩
    obtain ⟨m1, R1, hv⟩ := r.d
    exact tPairs_ok ks irs R1 (by simpa using hl) w1 fun ds e2 h2 ρ2 vs H2 q m2 R2 hvs => f (x.d :: ds) e2 h2 ρ2 (v :: vs) H2 q (m1.trans m2) R2 ⟨v, vs, rfl, RD.move m2 _ _ hv, hvs⟩
theorem zip_keys : ∀ (ks : List Key) (vs : List V), List.zipWith (fun k v => (kV k, v)) ks vs = (List.zipWith (fun (k : Key) v => (k, v)) ks vs).map fun kv => (kV kv.1, kv.2)
  | [], _ => rfl
  | _ :: _, [] => rfl
  | k :: ks, v :: vs => by
    simp only [List.zipWith_cons_cons, List.map_cons]
    rw [zip_keys ks vs]
theorem zip_fst : ∀ (ks : List Key) (vs : List V), ks.length = vs.length → (List.zipWith (fun (k : Key) v => (k, v)) ks vs).map (·.1) = ks
  | [], [], _ => rfl
  | [], _ :: _, h => by cases h
  | _ :: _, [], h => by cases h
  | k :: ks, v :: vs, h => by
    simp only [List.zipWith_cons_cons, List.map_cons]
    rw [zip_fst ks vs (by simpa using h)]
theorem zip_snd : ∀ (ks : List Key) (vs : List V), ks.length = vs.length → (List.zipWith (fun (k : Key) v => (k, v)) ks vs).map (·.2) = vs
  | [], [], _ => rfl
  | [], _ :: _, h => by cases h
  | _ :: _, [], h => by cases h
  | k :: ks, v :: vs, h => by
    simp only [List.zipWith_cons_cons, List.map_cons]
    rw [zip_snd ks vs (by simpa using h)]
theorem Rel.notZ {p : Addr} (R : Rel G B (p :: T) ρ env vh σ H) : ¬ ZZ B.F T ρ env σ p := by
  rintro (z | z | z | ⟨i, z⟩)
  · exact R.fm p z (.inl List.mem_cons_self)
  · exact (List.nodup_cons.mp R.tn).1 z
  · exact R.tr p List.mem_cons_self z
  · exact (R.ot i p z).1 List.mem_cons_self
theorem re_dct {keys : List (Option Expr)} {values : List Expr} {pos : Pos} {ks : List Key} {irs : List E} (hk : keysOf keys = some ks) (hv : Paired (fun e ir => ∀ B', PE X e (tD G B' (wpE Φ Γ ir noK false))) values irs)
    (hall : keys.all (·.isSome) = true) (hl : keys.length = values.length) (hl2 : ks.length = irs.length) (h15 : keys.length ≤ 15) :
    PE X (.Dict keys values pos) (tD G B fun env vh Q => wpE Φ Γ (.dct ks irs) K false env vh Q) := by
  by_cases h0 : keys = []
  · subst h0
    cases hk
    have : values = [] := List.length_eq_zero_iff.mp hl.symm
    subst this
    have : irs = [] := List.length_eq_zero_iff.mp hl2.symm
    subst this
    refine pe_dnewK.imp fun σ H Q ⟨T, ρ, env, vh, R, w⟩ => fun p hp => ?_
    have R1 := R.tmp hp (o := .dK []) trivial
    refine w.2 ρ _ _ ⟨Mv.fresh (same_new hp) fun b z => .inl z, R1.dropT, p, [], [], rfl, R1.notZ, upd_same, rfl, rfl, rfl⟩
  · refine (pe_disp (pps_ok hk hv hl) hall hl h0 h15).imp fun σ H Q ⟨T, ρ, env, vh, R, w⟩ => fun p hp => ?_
    have R1 := R.tmp hp (o := .dK []) trivial
    have m0 : Mv (ZZ B.F T ρ env σ) ρ H (ZZ B.F (p :: T) ρ env σ) ρ (upd H p (.dK [])) := Mv.fresh (same_new hp) fun b z => by
      rcases z with z | z | z
      · exact .inl (.inl z)
      · rcases List.mem_cons.mp z with e | z
        · exact .inr (by rw [e]; exact hp)
        · exact .inl (.inr (.inl z))
      · exact .inl (.inr (.inr z))
    refine tPairs_ok ks irs R1.inD hl2 w fun ds e1 h1 ρ' vs H' q m R2 hvs => ?_
    obtain ⟨S, mm, eD⟩ := R1.outD R2
    rw [wthZ] at hvs
    have hlen : ks.length = vs.length := q.1.1.trans hvs.length
    have eD2 : H' p = some (.dK []) := eD.trans upd_same
    refine ⟨eD2, List.zipWith (fun (k : Key) v => (k, v)) ks vs, zip_keys ks vs, by rw [List.length_zipWith]; have := q.1.2.1; omega, ?_⟩
    have hnd : ((([] : List (Key × V)) ++ List.zipWith (fun (k : Key) v => (k, v)) ks vs).map Prod.fst).Nodup := by
      rw [List.nil_append, zip_fst ks vs hlen]
      exact q.1.2.2
    rw [mergeK_new _ _ hnd, List.nil_append]
    have S2 := S.tmpUpd (u := .dK (List.zipWith (fun (k : Key) v => (k, v)) ks vs)) trivial
    have mu : Mv (ZZ B.F (p :: T) ρ' e1 σ) ρ' H' (ZZ B.F (p :: T) ρ' e1 σ) ρ' (upd H' p (.dK (List.zipWith (fun (k : Key) v => (k, v)) ks vs))) := Mv.upd (.inr (.inl List.mem_cons_self)) eD2 trivial
    have md : Mv (ZZ B.F (p :: T) ρ' e1 σ) ρ' (upd H' p (.dK (List.zipWith (fun (k : Key) v => (k, v)) ks vs))) (ZZ B.F T ρ' e1 σ) ρ' (upd H' p (.dK (List.zipWith (fun (k : Key) v => (k, v)) ks vs))) := Mv.less fun b z => by
      rcases z with z | z | z
      · exact .inl z
      · exact .inr (.inl (List.mem_cons_of_mem _ z))
      · exact .inr (.inr z)
    refine q.2 ρ' _ _ ⟨((m0.trans mm).trans mu).trans md, S2.dropT, p, _, vs, rfl, S2.notZ, upd_same, zip_fst ks vs hlen, zip_snd ks vs hlen, RDs.move (mu.trans md) _ _ hvs⟩
end
end R

set_option autoImplicit false
namespace R
open PySem PySem.Spec PyProof.Rows L2
/-! ## R5m: instances: attributes, methods, new ones; lists that are shared from the start -/
section
variable {G : Wd} {B : Base} {T ρ : List Addr} {env : VE} {vh : VH} {σ : L2.St} {H : Hp}
/-! ### attributes -/
theorem fld_look {Z : Addr → Prop} {f : Str} : ∀ {ws : List (Str × V)} {xs : List D} {d : D}, RDs G Z ρ H xs (ws.map (·.2)) → fldD f (ws.map (·.1)) xs = some d → ∃ v, ws.lookup f = some v ∧ RD G Z ρ H d v
  | [], xs, d, h, e => by cases xs <;> cases e
  | (n, v) :: ws, [], d, h, e => by cases e
  | (n, v) :: ws, x :: xs, d, h, e => by
    obtain ⟨v', r, e1, h1, h2⟩ := h
    obtain ⟨rfl, rfl⟩ := List.cons.inj e1
    have e : (if n = f then some x else fldD f (ws.map (·.1)) xs) = some d := e
    by_cases q : n = f
    · rw [if_pos q] at e
      cases e
      refine ⟨v, ?_, h1⟩
      rw [List.lookup_cons, beq_iff_eq.mpr q.symm]
    · rw [if_neg q] at e
      obtain ⟨u, h3, h4⟩ := fld_look h2 e
      refine ⟨u, ?_, h4⟩
      rw [List.lookup_cons, beq_eq_false_iff_ne.mpr (fun z => q z.symm)]
      exact h3
theorem look_none {f : Str} : ∀ {ws : List (Str × V)}, f ∉ ws.map (·.1) → ws.lookup f = none
  | [], h => rfl
  | (n, v) :: ws, h => by
    rw [List.map_cons, List.mem_cons, not_or] at h
    rw [List.lookup_cons, beq_eq_false_iff_ne.mpr h.1]
    exact look_none h.2
theorem putF_names {f : Str} {v : V} : ∀ {ws : List (Str × V)}, (putF f v ws).map (·.1) = putN f (ws.map (·.1))
  | [] => rfl
  | (n, x) :: ws => by
    show ((if n = f then (n, v) :: ws else (n, x) :: putF f v ws) : List (Str × V)).map (·.1) = if n = f then n :: ws.map (·.1) else n :: putN f (ws.map (·.1))
    by_cases q : n = f
    · rw [if_pos q, if_pos q]
      rfl
    · rw [if_neg q, if_neg q, List.map_cons, putF_names]
theorem putF_vals {Z : Addr → Prop} {f : Str} {d : D} {v : V} (hd : RD G Z ρ H d v) : ∀ {ws : List (Str × V)} {xs : List D}, RDs G Z ρ H xs (ws.map (·.2)) → RDs G Z ρ H (putX f d (ws.map (·.1)) xs) ((putF f v ws).map (·.2))
  | [], xs, h => by
    cases xs with
    | nil => exact ⟨v, [], rfl, hd, rfl⟩
    | cons x xs =>
      obtain ⟨v', r, e1, h1, h2⟩ := h
      cases e1
  | (n, x) :: ws, [], h => by
    cases (show (x :: ws.map (·.2)) = [] from h)
  | (n, x) :: ws, y :: xs, h => by
    obtain ⟨v', r, e1, h1, h2⟩ := h
    obtain ⟨rfl, rfl⟩ := List.cons.inj e1
    show RDs G Z ρ H (if n = f then d :: xs else y :: putX f d (ws.map (·.1)) xs) (((if n = f then (n, v) :: ws else (n, x) :: putF f v ws) : List (Str × V)).map (·.2))
    by_cases q : n = f
    · rw [if_pos q, if_pos q]
      exact ⟨v, _, rfl, hd, h2⟩
    · rw [if_neg q, if_neg q]
      exact ⟨x, _, rfl, h1, putF_vals hd h2⟩
/-- an operand that is an instance -/
theorem op_ins (R : Rel G B T ρ env vh σ H) {o : Op} {v : V} {n : Nat} {c : Str} {ns : List Str} {xs : List D} (h : OpV G (ZZ B.F T ρ env σ) ρ H σ o v) (e : o.raw env = some (.ref n)) (hn : vh[n]? = some (.ins c ns xs)) :
    ∃ a C dx ws, v = .ref a ∧ ρ[n]? = some a ∧ G.ci c = some C ∧ H a = some (.ins C dx ws) ∧ ws.map (·.1) = ns ∧ RDs G (ZZ B.F T ρ env σ) ρ H xs (ws.map (·.2)) := by
  have hr : RD G (ZZ B.F T ρ env σ) ρ H (.ref n) v := by
    cases o with
    | dat x =>
      cases e
      exact h
    | slt i =>
      unfold Op.raw at e
      dsimp only at e
      split at e
      · rename_i d hd
        cases e
        obtain ⟨v', e1, e2⟩ := R.st i _ hd
        have h : σ[i]? = some (some v) := h
        rw [h] at e1
        cases e1
        exact e2
      · cases e
  obtain ⟨a, ha, rfl⟩ := hr
  obtain ⟨C, dx, ws, vs, hC, hH, e1, e2, h2⟩ := R.ob n _ a hn ha
  subst e2
  exact ⟨a, C, dx, ws, rfl, ha, hC, hH, e1, h2⟩
theorem shareMv {a : Addr} : Mv (ZZ B.F (a :: T) ρ env σ) ρ H (ZZ B.F T (ρ ++ [a]) env σ) (ρ ++ [a]) H :=
  ⟨fun n x h => by rw [List.getElem?_append_left (List.getElem?_eq_some_iff.mp h).1]; exact h, fun b u nz h => ⟨fun z => nz (by
    rcases z with z | z | z | z
    · exact .inl z
    · exact .inr (.inl (List.mem_cons_of_mem _ z))
    · rcases List.mem_append.mp z with z | z
      · exact .inr (.inr (.inl z))
      · rw [List.mem_singleton] at z
        subst z
        exact .inr (.inl List.mem_cons_self)
    · exact .inr (.inr (.inr z))), h⟩, fun _ _ h => h⟩
end
section
variable {X : Cx} {G : Wd} {B : Base} {K : XP} {Φ : Fns} {Γ : Cns} {fs : List Str} {T ρ : List Addr} {env : VE} {vh : VH} {σ : L2.St} {H : Hp}
/-- a new list that is shared from the start -/
theorem re_shr {e : Expr} {we : VE → VH → QE → Prop} (me : ∀ env vh (Q Q' : QE), (∀ x e h, Q x e h → Q' x e h) → we env vh Q → we env vh Q') (h : PE X e (tD G B we)) :
    PE X e (tD G B fun env vh Q => we env vh fun x e1 h1 => ∃ ds, x = .fr ds ∧ fin false (.v (.ref h1.length)) e1 (h1 ++ [.lst ds]) Q) :=
  h.imp fun σ H Q ⟨T, ρ, env, vh, R, w⟩ => ⟨T, ρ, env, vh, R, me _ _ _ _ (fun x e1 h1 ⟨ds, ex, k⟩ ρ' v H' r => by
    subst ex
    obtain ⟨a, vs, rfl, hH, m, R', hv⟩ := r
    have S := R'.share (o := .lst ds) ⟨vs, hH, hv⟩
    exact k (ρ' ++ [a]) (.ref a) H' ⟨m.trans shareMv, S, a, by rw [R'.vl]; simp, rfl⟩) w⟩
/-- o.f -/
theorem re_fld (o : XOk X G B K Φ Γ fs) {e : Expr} {f : Str} {pos : Pos} {wa : VE → VH → (Op → VE → VH → Prop) → Prop} (ma : ∀ env vh (Q Q' : Op → VE → VH → Prop), (∀ x e h, Q x e h → Q' x e h) → wa env vh Q → wa env vh Q')
    (h : PE X e (tO G B wa)) (hb : attributeBase e f X.env (eval e X.env) = eval e X.env) (hf : pfN f ∈ fs) :
    PE X (.Attribute e f pos) (tD G B fun env vh Q => wa env vh fun x e1 h1 => ∃ n c ns xs, x.raw e1 = some (.ref n) ∧ h1[n]? = some (.ins c ns xs) ∧ ∃ y, fldD f ns xs = some y ∧ fin false (.v y) e1 h1 Q) :=
  (pe_fld h hb).imp fun σ H Q ⟨T, ρ, env, vh, R, w⟩ => ⟨T, ρ, env, vh, R, ma _ _ _ _ (fun x e1 h1 ⟨n, c, ns, xs, r, hn, y, hy, k⟩ ρ' v H' m R' ov => by
    obtain ⟨a, C, dx, ws, rfl, ha, hC, hH, e1, h2⟩ := op_ins R' ov r hn
    subst e1
    obtain ⟨u, l, hu⟩ := fld_look h2 hy
    obtain ⟨cl, na⟩ := o.ic f hf c C hC
    exact ⟨a, C, dx, ws, u, rfl, hH, cl, na, l, k ρ' u H' ⟨m, R', hu⟩⟩) w⟩
/-- o.m(..): the class, the method by what stands there -/
def tMethD (X : Cx) (m : Str) (E : L2.St → XK) (ta : TE) (t : TA) : TE := fun σ H Q => ta σ H fun x H1 => ∃ (a C dx : Addr) (ws : List (Str × V)) (f : Addr) (fd : FuncData) (ps : List Str) (k : Nat) (sp : Sp), x = .ref a ∧ H1 a = some (.ins C dx ws) ∧ ws.lookup m = none ∧ Cls X.K C ∧ Meth X.K C m f ∧
  FnOk X.prog X.w X.K X.mg X.base (L2.CX X.prog X.w) k f fd ps sp ∧ Room k X.A ∧ Binds X.K fd ps [] ∧ t σ H1 fun vs H2 => sp (x :: vs) H2 Q (E σ)
theorem pe_methD {E : L2.St → XK} {o e : Expr} {es : List Expr} {m : Str} {apos pos : Pos} {ta : TE} {t : TA} {pl : Sem Bool} (he : PE X o ta) (hx : ∀ σ, PassesAt (L2.CX X.prog X.w) X σ (E σ)) (ha : PA X (e :: es) t)
    (hst : starEach (e :: es) X.env = (false, eval e X.env) :: starEach es X.env) (hpl : (backTo pos (starEach es X.env)).any (·.1) = false)
    (ht : eval (.Call (.Attribute o m apos) (e :: es) [] pos) X.env = (do
      let ov ← eval o X.env
      standAt apos.atName
      let (f, first) ← holding [ov] (getMethod ov m pl)
      callWith pos f first (backTo pos (starEach (e :: es) X.env)) (backToKw pos (keywordEach [] X.env)))) :
    PE X (.Call (.Attribute o m apos) (e :: es) [] pos) (tMethD X m E ta t) := by
  refine ⟨fun pins s σ H Q I h => ?_⟩
  refine PySem.W.methodCall_KW (pl := pl) (thn (he.run pins s σ H _ I h) fun u s1 ⟨x, H1, I1, rx, a, C, dx, ws, f, fd, ps, k, sp, ex, ea, l, c, hm, F, hr, hb, q⟩ => ?_) ht
  subst ex
  obtain rfl : u = Value.ref a := rx
  refine getmeth_ok I1 ea c hm l ?_
  refine PySem.W.callWith_K (first := [.ref a]) (h₀ := X.base) I.ok.mod.kin hm.kp (thn (ha.run pos pins s1 σ H1 _ I1 q) fun us s2 ⟨vs, H2, I2, r, q2⟩ => ⟨I2.kIn, ?_⟩) hst hpl
  exact run_fnS (us := .ref a :: us) (vs := .ref a :: vs) F hr hb (hx σ) I2 (.cons rfl r) q2
theorem pe_methD0 {E : L2.St → XK} {o : Expr} {m : Str} {apos pos : Pos} {ta : TE} {pl : Sem Bool} (he : PE X o ta) (hx : ∀ σ, PassesAt (L2.CX X.prog X.w) X σ (E σ))
    (ht : eval (.Call (.Attribute o m apos) [] [] pos) X.env = (do
      let ov ← eval o X.env
      standAt apos.atName
      let (f, first) ← holding [ov] (getMethod ov m pl)
      callWith pos f first (backTo pos (starEach [] X.env)) (backToKw pos (keywordEach [] X.env)))) :
    PE X (.Call (.Attribute o m apos) [] [] pos) (tMethD X m E ta tNil) := by
  refine ⟨fun pins s σ H Q I h => ?_⟩
  refine PySem.W.methodCall_KW (pl := pl) (thn (he.run pins s σ H _ I h) fun u s1 ⟨x, H1, I1, rx, a, C, dx, ws, f, fd, ps, k, sp, ex, ea, l, c, hm, F, hr, hb, q⟩ => ?_) ht
  subst ex
  obtain rfl : u = Value.ref a := rx
  refine getmeth_ok I1 ea c hm l ?_
  exact PySem.W.callWith_K0 (first := [.ref a]) I1.kIn hm.kp (run_fnS (us := [.ref a]) (vs := [.ref a]) F hr hb (hx σ) I1 (.cons rfl .nil) q)
theorem meth_tree {o : Expr} {m : Str} {apos pos : Pos} {es : List Expr} {env : Env} (hb : attributeBase o m env (eval o env) = eval o env) (hs : es.all (fun e => match e with
      | .Starred _ _ => false
      | _ => true) = true) (hl : es.length ≤ 20) (hp : (apos.endLine == pos.line) = true) : ∃ pl : Sem Bool, eval (.Call (.Attribute o m apos) es [] pos) env = (do
      let ov ← eval o env
      standAt apos.atName
      let (f, first) ← holding [ov] (getMethod ov m pl)
      callWith pos f first (backTo pos (starEach es env)) (backToKw pos (keywordEach [] env))) := by
  have ha : (backTo pos (starEach es env)).all (!·.1) = true := by
    clear hl
    induction es with
    | nil => rfl
    | cons e es ih =>
      rw [List.all_cons, Bool.and_eq_true] at hs
      have q := ih hs.2
      cases e <;> first
        | exact absurd hs.1 Bool.false_ne_true
        | (show ((!false) && (backTo pos (starEach es env)).all (!·.1)) = true
           rw [q]
           rfl)
  have hf : methodCallForm (es.length + ([] : List Keyword).length) (backTo pos (starEach es env)) (backToKw pos (keywordEach [] env)) = true := by
    unfold methodCallForm
    rw [ha]
    show (true && true && decide (es.length + 0 + 0 < 30)) = true
    rw [decide_eq_true (by omega)]
    rfl
  have hq : methodCallPos true o env apos pos = pure pos := by
    unfold methodCallPos
    simp [hp]
  refine ⟨(do return (← importBound o env).getD true), ?_⟩
  rw [arm_eval_Call, hb]
  unfold methodCall
  rw [hf, hq]
  rfl
theorem re_meth (o : XOk X G B K Φ Γ fs) {r e : Expr} {es : List Expr} {m : Str} {apos pos : Pos} {wa : VE → VH → (Op → VE → VH → Prop) → Prop} {ws : VE → VH → (List D → VE → VH → Prop) → Prop}
    (ma : ∀ env vh (Q Q' : Op → VE → VH → Prop), (∀ x e h, Q x e h → Q' x e h) → wa env vh Q → wa env vh Q') (ms : ∀ env vh (Q Q' : List D → VE → VH → Prop), (∀ x e h, Q x e h → Q' x e h) → ws env vh Q → ws env vh Q')
    (he : PE X r (tO G B wa)) (ha : PA X (e :: es) (tL G B ws)) (hf : pmN m ∈ fs) (hst : starEach (e :: es) X.env = (false, eval e X.env) :: starEach es X.env) (hpl : (backTo pos (starEach es X.env)).any (·.1) = false)
    (ht : ∃ pl : Sem Bool, eval (.Call (.Attribute r m apos) (e :: es) [] pos) X.env = (do
      let ov ← eval r X.env
      standAt apos.atName
      let (f, first) ← holding [ov] (getMethod ov m pl)
      callWith pos f first (backTo pos (starEach (e :: es) X.env)) (backToKw pos (keywordEach [] X.env)))) :
    PE X (.Call (.Attribute r m apos) (e :: es) [] pos) (tD G B fun env vh Q => wa env vh fun x e1 h1 => ∃ n c ns xs, x.raw e1 = some (.ref n) ∧ h1[n]? = some (.ins c ns xs) ∧ (m ∉ ns ∧ (Φ (mN c m)).ex) ∧ ws e1 h1 fun ds e2 h2 => (Φ (mN c m)).run (.ref n :: ds) h2 fun o h3 => match o with
      | .ok x => fin false x e2 h3 Q
      | .exc c xs => K c xs e2 h3) := by
  obtain ⟨pl, ht⟩ := ht
  refine (pe_methD (pl := pl) he (fun σ => passAt o.tk σ) ha hst hpl ht).imp ?_
  rintro σ H Q ⟨T, ρ, env, vh, R, w⟩
  refine ⟨T, ρ, env, vh, R, ma _ _ _ _ (fun x e1 h1 ⟨n, c, ns, xs, hr, hn, ⟨hm, hx⟩, k⟩ ρ1 v H1 mv R1 ov => ?_) w⟩
  obtain ⟨a, C, dx, fw, rfl, hpa, hC, hH, en, hv⟩ := op_ins R1 ov hr hn
  subst en
  obtain ⟨f, fd, ps, lv, cl, me, hb, F, rm⟩ := o.mt m hf c C hC hx
  refine ⟨a, C, dx, fw, f, fd, ps, lv, _, rfl, hH, look_none hm, cl, me, F, rm, hb, T, ρ1, e1, h1, R1, ms _ _ _ _ (fun ds e2 h2 z ρ2 vs H2 mv2 R2 hv2 => ?_) k⟩
  have hd : RDs G (ZZ B.F T ρ2 e2 σ) ρ2 H2 (.ref n :: ds) (.ref a :: vs) := ⟨.ref a, vs, rfl, ⟨a, mv2.pre n a hpa, rfl⟩, hv2⟩
  exact call_hw R2 hd z fun x h2 y ρ' v H' r => y ρ' v H' (Res.moved (mv.trans mv2) r)
theorem re_meth0 (o : XOk X G B K Φ Γ fs) {r : Expr} {m : Str} {apos pos : Pos} {wa : VE → VH → (Op → VE → VH → Prop) → Prop}
    (ma : ∀ env vh (Q Q' : Op → VE → VH → Prop), (∀ x e h, Q x e h → Q' x e h) → wa env vh Q → wa env vh Q') (he : PE X r (tO G B wa)) (hf : pmN m ∈ fs)
    (ht : ∃ pl : Sem Bool, eval (.Call (.Attribute r m apos) [] [] pos) X.env = (do
      let ov ← eval r X.env
      standAt apos.atName
      let (f, first) ← holding [ov] (getMethod ov m pl)
      callWith pos f first (backTo pos (starEach [] X.env)) (backToKw pos (keywordEach [] X.env)))) :
    PE X (.Call (.Attribute r m apos) [] [] pos) (tD G B fun env vh Q => wa env vh fun x e1 h1 => ∃ n c ns xs, x.raw e1 = some (.ref n) ∧ h1[n]? = some (.ins c ns xs) ∧ (m ∉ ns ∧ (Φ (mN c m)).ex) ∧ (Φ (mN c m)).run [.ref n] h1 fun o h3 => match o with
      | .ok x => fin false x e1 h3 Q
      | .exc c xs => K c xs e1 h3) := by
  obtain ⟨pl, ht⟩ := ht
  refine (pe_methD0 (pl := pl) he (fun σ => passAt o.tk σ) ht).imp ?_
  rintro σ H Q ⟨T, ρ, env, vh, R, w⟩
  refine ⟨T, ρ, env, vh, R, ma _ _ _ _ (fun x e1 h1 ⟨n, c, ns, xs, hr, hn, ⟨hm, hx⟩, k⟩ ρ1 v H1 mv R1 ov => ?_) w⟩
  obtain ⟨a, C, dx, fw, rfl, hpa, hC, hH, en, hv⟩ := op_ins R1 ov hr hn
  subst en
  obtain ⟨f, fd, ps, lv, cl, me, hb, F, rm⟩ := o.mt m hf c C hC hx
  refine ⟨a, C, dx, fw, f, fd, ps, lv, _, rfl, hH, look_none hm, cl, me, F, rm, hb, ?_⟩
  have hd : RDs G (ZZ B.F T ρ1 e1 σ) ρ1 H1 [.ref n] [.ref a] := ⟨.ref a, [], rfl, ⟨a, hpa, rfl⟩, rfl⟩
  exact call_hw R1 hd k fun x h2 y ρ' v H' r => y ρ' v H' (Res.moved mv r)
/-! ### new instances -/
def tMakeD (C : Addr) (sp : Sp) (E : L2.St → XK) (t : TA) : TE := fun σ H Q => t σ H fun vs H1 => ∀ x dx, H1 x = none → H1 dx = none → dx ≠ x →
  sp (.ref x :: vs) (upd (upd H1 dx (.own x)) x (.ins C dx [])) (fun v H2 => v = .non ∧ Q (.ref x) H2) (E σ)
theorem run_makeS {k : Nat} {f C : Addr} {fd : FuncData} {ps : List Str} {sp : Sp} {E : L2.St → XK} {pins : List (Addr × Obj)} {σ : L2.St} {H : Hp} {s : Shared} {Q : VK} {us : List Value} {vs : List V} (M : Mk X.K C f) (F : FnOk X.prog X.w X.K X.mg X.base (L2.CX X.prog X.w) k f fd ps sp) (hr : Room (k + 1) X.A) (hb : Binds X.K fd ps [])
    (hx : ∀ σ, PassesAt (L2.CX X.prog X.w) X σ (E σ)) (I : Inv X pins σ H s) (r : Vals vs us)
    (h : ∀ x dx, H x = none → H dx = none → dx ≠ x → sp (.ref x :: vs) (upd (upd H dx (.own x)) x (.ins C dx [])) (fun v H2 => v = .non ∧ Q (.ref x) H2) (E σ)) :
    wpAny (model X.prog X.w) X.A (call (.ref C) us) (EP X pins σ Q) X.xe s := by
  have hq := h (s.heap.objs.size + 1) s.heap.objs.size (I.hok.fresh (Nat.le_succ _)) (I.hok.fresh (Nat.le_refl _)) (Nat.ne_of_lt (Nat.lt_succ_self _))
  have I2 := Inv.made (C := C) I
  have r2 : Vals (V.ref (s.heap.objs.size + 1) :: vs) (Value.ref (s.heap.objs.size + 1) :: us) := .cons rfl r
  have hl : (Value.ref (s.heap.objs.size + 1) :: us).length = ps.length := by
    have e := r2.length
    rw [F.len _ _ _ _ hq] at e
    exact e.symm
  have b := hb _ (Value.ref (s.heap.objs.size + 1) :: us) I2.kIn (by rw [List.append_nil]; exact hl)
  rw [List.append_nil] at b
  refine wpAny_call (make_map (f := f) I.kIn M.makes M.init (beq_iff_eq.mp M.fn) (codeAny_mono (F.run _ X.stack _ _ ⟨Value.ref (s.heap.objs.size + 1) :: us, []⟩ (Value.ref (s.heap.objs.size + 1) :: us) _ _ (E σ) (hr.make C us [])
    (I2.env0.make C us []) b r2 hq) fun r s' hq' => ?_))
  cases r with
  | error e => exact hx σ pins _ _ e s' I2 hq'
  | ok fl =>
    cases fl with
    | ret u =>
      obtain ⟨v, H', I3, rv, ev, q3⟩ := I2.after hq'
      subst ev
      exact ⟨rv, ⟨V.ref (s.heap.objs.size + 1), H', I3, rfl, q3⟩⟩
    | next => exact False.elim hq'
    | brk => exact False.elim hq'
    | cont => exact False.elim hq'
theorem pe_makeS {k : Nat} {f C : Addr} {fd : FuncData} {ps : List Str} {sp : Sp} {E : L2.St → XK} {x : Str} {p pos : Pos} {e : Expr} {es : List Expr} {t : TA} (M : Mk X.K C f) (F : FnOk X.prog X.w X.K X.mg X.base (L2.CX X.prog X.w) k f fd ps sp) (hr : Room (k + 1) X.A) (hg : Gl X x) (hm : X.mg x = some (.ref C)) (hb : Binds X.K fd ps [])
    (hx : ∀ σ, PassesAt (L2.CX X.prog X.w) X σ (E σ)) (ha : PA X (e :: es) t) (hdb : (x == ("__debug__" : Str)) = false) (he : starEach (e :: es) X.env = (false, eval e X.env) :: starEach es X.env) (hpl : (backTo pos (starEach es X.env)).any (·.1) = false) :
    PE X (.Call (.Name x p) (e :: es) [] pos) (tMakeD C sp E t) := by
  refine ⟨fun pins s σ H Q I h => ?_⟩
  refine wpAny_Call_Name_kw (ld_glob I hg hm ?_ hdb)
  refine PySem.W.callWith_K (h₀ := X.base) I.ok.mod.kin M.kp (thn (ha.run pos pins s σ H _ I h) fun us s1 ⟨vs, H1, I1, r, q⟩ => ⟨I1.kIn, ?_⟩) he hpl
  exact run_makeS M F hr hb hx I1 r q
theorem pe_makeS0 {k : Nat} {f C : Addr} {fd : FuncData} {ps : List Str} {sp : Sp} {E : L2.St → XK} {x : Str} {p pos : Pos} (M : Mk X.K C f) (F : FnOk X.prog X.w X.K X.mg X.base (L2.CX X.prog X.w) k f fd ps sp) (hr : Room (k + 1) X.A) (hg : Gl X x) (hm : X.mg x = some (.ref C)) (hb : Binds X.K fd ps [])
    (hx : ∀ σ, PassesAt (L2.CX X.prog X.w) X σ (E σ)) (hdb : (x == ("__debug__" : Str)) = false) : PE X (.Call (.Name x p) [] [] pos) (tMakeD C sp E tNil) := by
  refine ⟨fun pins s σ H Q I h => ?_⟩
  refine wpAny_Call_Name_kw (ld_glob I hg hm ?_ hdb)
  exact PySem.W.callWith_K0 I.kIn M.kp (run_makeS (us := []) M F hr hb hx I .nil h)
/-- the heart of a new instance -/
theorem make_hw {sp : VSp} {c : Str} {C : Addr} {ds : List D} {vs : List V} {Q : VK} {Kx : XP} {QQ : VH → Prop} (R : Rel G B T ρ env vh σ H) (h : RDs G (ZZ B.F T ρ env σ) ρ H ds vs) (hC : G.ci c = some C)
    (w : sp.run (.ref vh.length :: ds) (vh ++ [.ins c [] []]) fun o h2 => match o with
      | .ok x => x = .v .non ∧ QQ h2
      | .exc c xs => Kx c xs env h2) (f : ∀ x h2, QQ h2 → ∀ ρ' H', Mv (ZZ B.F T ρ env σ) ρ H (ZZ B.F T ρ' env σ) ρ' H' → Rel G B T ρ' env h2 σ H' → ρ'[vh.length]? = some x → Q (.ref x) H') :
    ∀ x dx, H x = none → H dx = none → dx ≠ x → spV G sp (.ref x :: vs) (upd (upd H dx (.own x)) x (.ins C dx [])) (fun v H2 => v = .non ∧ Q (.ref x) H2) (WE (WK G B Kx) σ) := by
  intro x dx hx hdx ne
  have s1 : Same H (upd H dx (.own x)) := same_new hdx
  have hx1 : (upd H dx (.own x)) x = none := by rw [upd_ne (fun z => ne z.symm)]; exact hx
  have R1 := R.grow s1
  have R2 := R1.tmp (o := .ins C dx []) hx1 trivial
  have R3 := R2.share (o := .ins c [] []) ⟨C, dx, [], [], hC, upd_same, rfl, rfl, rfl⟩
  have m1 : Mv (ZZ B.F T ρ env σ) ρ H (ZZ B.F (x :: T) ρ env σ) ρ (upd (upd H dx (.own x)) x (.ins C dx [])) := (Mv.same s1).trans (Mv.fresh (same_new hx1) fun b z => by
    rcases z with z | z | z
    · exact .inl (.inl z)
    · rcases List.mem_cons.mp z with e | z
      · exact .inr (by rw [e]; exact hx1)
      · exact .inl (.inr (.inl z))
    · exact .inl (.inr (.inr z)))
  have m := m1.trans shareMv
  have hn : (ρ ++ [x])[vh.length]? = some x := by rw [R.vl]; simp
  have hd : RDs G (ZZ B.F T (ρ ++ [x]) env σ) (ρ ++ [x]) (upd (upd H dx (.own x)) x (.ins C dx [])) (.ref vh.length :: ds) (.ref x :: vs) := ⟨.ref x, vs, rfl, ⟨x, hn, rfl⟩, RDs.move m _ _ h⟩
  refine call_hw (Q := fun v H2 => v = .non ∧ Q (.ref x) H2) (QQ := fun z h2 => z = .v .non ∧ QQ h2) R3 hd w fun z h2 y ρ' v H' r => ?_
  obtain ⟨rfl, y⟩ := y
  obtain ⟨m2, R4, hv⟩ := r
  exact ⟨hv, f x h2 y ρ' H' (m.trans m2) R4 (m2.pre _ _ hn)⟩
theorem re_mk (o : XOk X G B K Φ Γ fs) {c : Str} {e : Expr} {es : List Expr} {p pos : Pos} {ws : VE → VH → (List D → VE → VH → Prop) → Prop} (m : ∀ env vh (Q Q' : List D → VE → VH → Prop), (∀ x e h, Q x e h → Q' x e h) → ws env vh Q → ws env vh Q')
    (h : PA X (e :: es) (tL G B ws)) (hf : pcN c ∈ fs) (hg : Gl X c) (he : starEach (e :: es) X.env = (false, eval e X.env) :: starEach es X.env) (hpl : (backTo pos (starEach es X.env)).any (·.1) = false) :
    PE X (.Call (.Name c p) (e :: es) [] pos) (tD G B fun env vh Q => ws env vh fun ds e1 h1 => (Φ (mN c "__init__")).run (.ref h1.length :: ds) (h1 ++ [.ins c [] []]) fun o h2 => match o with
      | .ok x => x = .v .non ∧ fin false (.v (.ref h1.length)) e1 h2 Q
      | .exc c xs => K c xs e1 h2) := by
  obtain ⟨C, a, fd, ps, k, hC, hm, M, hb, F, hr, hdb⟩ := o.mkC c hf
  refine (pe_makeS M F hr hg hm hb (fun σ => passAt o.tk σ) h hdb he hpl).imp ?_
  rintro σ H Q ⟨T, ρ, env, vh, R, w⟩
  exact ⟨T, ρ, env, vh, R, m _ _ _ _ (fun ds e1 h1 z ρ1 vs H1 mv R1 hv => make_hw R1 hv hC z fun x h2 y ρ' H' mv2 R2 hx => y ρ' (.ref x) H' ⟨mv.trans mv2, R2, x, hx, rfl⟩) w⟩
theorem re_mk0 (o : XOk X G B K Φ Γ fs) {c : Str} {p pos : Pos} (hf : pcN c ∈ fs) (hg : Gl X c) :
    PE X (.Call (.Name c p) [] [] pos) (tD G B fun env vh Q => (Φ (mN c "__init__")).run [.ref vh.length] (vh ++ [.ins c [] []]) fun o h2 => match o with
      | .ok x => x = .v .non ∧ fin false (.v (.ref vh.length)) env h2 Q
      | .exc c xs => K c xs env h2) := by
  obtain ⟨C, a, fd, ps, k, hC, hm, M, hb, F, hr, hdb⟩ := o.mkC c hf
  refine (pe_makeS0 M F hr hg hm hb (fun σ => passAt o.tk σ) hdb).imp ?_
  rintro σ H Q ⟨T, ρ, env, vh, R, w⟩
  exact make_hw (ds := []) R rfl hC w fun x h2 y ρ' H' mv2 R2 hx => y ρ' (.ref x) H' ⟨mv2, R2, x, hx, rfl⟩
end
end R

set_option autoImplicit false
namespace R
open PySem PySem.Spec PyProof.Rows L2
/-! ## RS: statements and what they come to -/
inductive S where
  | pass | brk | cont | retN
  | set (i : Nat) (e : E) | setO (i : Nat) (e : E) | setS (i : Nat) (e : E)
  | par (i j : Nat) (a b : E)
  | unp (is : List Nat) (e : E)
  | aug (i : Nat) (op : Operator) (e : E)
  | sidx (o i e : E)
  | app (o e : E) | ext (o e : E) | fset (o : E) (f : Str) (e : E) | faug (o : E) (f : Str) (op : Operator) (e : E)
  | ret (e : E) | retO (i : Nat) | expr (e : E)
  | cond (c : E) (a b : List S)
  | forS (tg : Tg) (k : Ik) (es : List E) (body : List S)
  | whl (c : E) (body : List S)
  | raise (c : Str) (es : List E)
  | tryS (tb : List (Str × List Str × List Str)) (body : List S) (cs : List (Str × Option Nat)) (sus : List (List S))
  | never

structure VEnds where
  nx : VE → VH → Prop
  rt : DV → VH → Prop
  bk : VE → VH → Prop
  ct : VE → VH → Prop

def wpAug (op : Operator) (c d : D) (Q : D → Prop) : Prop := match op, c, d with
  | .Add, .int i, .int j => Q (.int (i + j))
  | .Sub, .int i, .int j => Q (.int (i - j))
  | _, _, _ => False
/-- o[k] = x -/
def setSh (n : Nat) (k x : D) (vh : VH) (Q : VH → Prop) : Prop := match vh[n]?, k with
  | some (.lst xs), .int j => ∃ m, ixN xs.length j = some m ∧ Q (vh.set n (.lst (xs.set m x)))
  | _, _ => False
def wpSet (o : Op) (k x : D) (env : VE) (vh : VH) (Q : VE → VH → Prop) : Prop := match o with
  | .dat (.ref n) => setSh n k x vh (Q env)
  | .dat _ => False
  | .slt i => match env[i]?, k with
    | some (.val (.ref n)), _ => setSh n k x vh (Q env)
    | some (.own xs), .int j => ∃ m, ixN xs.length j = some m ∧ Q (env.set i (.own (xs.set m x))) vh
    | _, _ => False
/-- o is a list that may be written -/
def isLs (o : Op) (env : VE) (vh : VH) : Prop := match o with
  | .dat (.ref n) => ∃ xs, vh[n]? = some (.lst xs)
  | .dat _ => False
  | .slt i => match env[i]? with
    | some (.val (.ref n)) => ∃ xs, vh[n]? = some (.lst xs)
    | some (.own xs) => True
    | _ => False
/-- o.append(x) -/
def appSh (n : Nat) (x : D) (vh : VH) (Q : VH → Prop) : Prop := match vh[n]? with
  | some (.lst xs) => xs.length < 16777216 ∧ Q (vh.set n (.lst (xs ++ [x])))
  | _ => False
def wpApp (o : Op) (x : D) (env : VE) (vh : VH) (Q : VE → VH → Prop) : Prop := match o with
  | .dat (.ref n) => appSh n x vh (Q env)
  | .dat _ => False
  | .slt i => match env[i]? with
    | some (.val (.ref n)) => appSh n x vh (Q env)
    | some (.own xs) => xs.length < 16777216 ∧ Q (env.set i (.own (xs ++ [x]))) vh
    | _ => False
/-- o.extend(xs) -/
def seqD : D → Option (List D)
  | .tup xs => some xs
  | .lst xs => some xs
  | _ => none
def extSh (n : Nat) (ds : List D) (vh : VH) (Q : VH → Prop) : Prop := match vh[n]? with
  | some (.lst xs) => xs.length + ds.length ≤ 16777216 ∧ Q (vh.set n (.lst (xs ++ ds)))
  | _ => False
def wpExt (o : Op) (ds : List D) (env : VE) (vh : VH) (Q : VE → VH → Prop) : Prop := match o with
  | .dat (.ref n) => extSh n ds vh (Q env)
  | .dat _ => False
  | .slt i => match env[i]? with
    | some (.val (.ref n)) => extSh n ds vh (Q env)
    | some (.own xs) => xs.length + ds.length ≤ 16777216 ∧ Q (env.set i (.own (xs ++ ds))) vh
    | _ => False
def forGo (turn : D → (VE → VH → Prop) → VE → VH → Prop) : List D → VE → VH → (VE → VH → Prop) → Prop
  | [], env, vh, Q => Q env vh
  | d :: ds, env, vh, Q => turn d (fun e h => forGo turn ds e h Q) env vh

/-- the constants within an except suite: the exception, its class and those above, its fields -/
def errG (Γ : Cns) (ns anc : List Str) (xs : List D) (a : Addr) : Cns := fun y => if y = ("%a" : Str) then some (.adr a) else if y = ("%c" : Str) then some (.tup (anc.map .str)) else match (ns.zip xs).find? fun p => decide (eNm p.1 = y) with
  | some p => some p.2
  | none => Γ y
/-- the slot of a clause's name -/
@[reducible] def offE (o : Option Nat) (env : VE) : VE := match o with
  | none => env
  | some i => env.set i .no
@[reducible] def onE (o : Option Nat) (a : Addr) (env : VE) : VE := match o with
  | none => env
  | some i => env.set i (.val (.adr a))
@[reducible] def offV (o : Option Nat) (V : VEnds) : VEnds := { nx := fun e h => V.nx (offE o e) h, rt := V.rt, bk := fun e h => V.bk (offE o e) h, ct := fun e h => V.ct (offE o e) h }
def noX : XP := fun _ _ _ _ => False
mutual
def wpS (Φ : Fns) (Γ : Cns) : S → XP → VEnds → VE → VH → Prop
  | .pass, K, V, env, vh => V.nx env vh
  | .brk, K, V, env, vh => V.bk env vh
  | .cont, K, V, env, vh => V.ct env vh
  | .retN, K, V, env, vh => V.rt (.v .non) vh
  | .set i e, K, V, env, vh => wpE Φ Γ e K false env vh fun x e1 h1 => V.nx (e1.set i (.val x.d)) h1
  | .setO i e, K, V, env, vh => wpE Φ Γ e K false env vh fun x e1 h1 => match x with
    | .fr ds => V.nx (e1.set i (.own ds)) h1
    | .v _ => False
  | .setS i e, K, V, env, vh => wpE Φ Γ e K false env vh fun x e1 h1 => match x with
    | .fr ds => V.nx (e1.set i (.val (.ref h1.length))) (h1 ++ [.lst ds])
    | .v _ => False
  | .par i j a b, K, V, env, vh => wpEs Φ Γ [a, b] K env vh fun ds e1 h1 => match ds with
    | [x, y] => V.nx ((e1.set i (.val x)).set j (.val y)) h1
    | _ => False
  | .unp is e, K, V, env, vh => wpE Φ Γ e K false env vh fun x e1 h1 => ∃ e2, bindT (.many is) x.d e1 = some e2 ∧ V.nx e2 h1
  | .aug i op e, K, V, env, vh => match env[i]? with
    | some (.val c) => wpE Φ Γ e K false env vh fun y e1 h1 => wpAug op c y.d fun z => V.nx (e1.set i (.val z)) h1
    | _ => False
  | .sidx o i e, K, V, env, vh => wpE Φ Γ e K false env vh fun x e1 h1 => asO o (wpE Φ Γ o) K e1 h1 fun oo e2 h2 => wpE Φ Γ i K false e2 h2 fun ix e3 h3 => wpSet oo ix.d x.d e3 h3 V.nx
  | .app o e, K, V, env, vh => asO o (wpE Φ Γ o) K env vh fun oo e1 h1 => isLs oo e1 h1 ∧ wpE Φ Γ e K false e1 h1 fun x e2 h2 => wpApp oo x.d e2 h2 V.nx
  | .ext o e, K, V, env, vh => asO o (wpE Φ Γ o) K env vh fun oo e1 h1 => isLs oo e1 h1 ∧ wpE Φ Γ e K false e1 h1 fun x e2 h2 => ∃ ys, seqD x.d = some ys ∧ wpExt oo ys e2 h2 V.nx
  | .fset o f e, K, V, env, vh => wpE Φ Γ e K false env vh fun x e1 h1 => asO o (wpE Φ Γ o) K e1 h1 fun oo e2 h2 => ∃ n c ns xs, oo.raw e2 = some (.ref n) ∧ h2[n]? = some (.ins c ns xs) ∧ ns.length ≤ 100 ∧ V.nx e2 (h2.set n (.ins c (putN f ns) (putX f x.d ns xs)))
  | .faug o f op e, K, V, env, vh => asO o (wpE Φ Γ o) K env vh fun oo e1 h1 => ∃ n c ns xs, oo.raw e1 = some (.ref n) ∧ h1[n]? = some (.ins c ns xs) ∧ ∃ y, fldD f ns xs = some y ∧
      wpE Φ Γ e K false e1 h1 fun z e2 h2 => wpAug op y z.d fun r => ∃ ns2 xs2, h2[n]? = some (.ins c ns2 xs2) ∧ ns2.length ≤ 100 ∧ V.nx e2 (h2.set n (.ins c (putN f ns2) (putX f r ns2 xs2)))
  | .ret e, K, V, env, vh => wpE Φ Γ e K false env vh fun x e1 h1 => V.rt x h1
  | .retO i, K, V, env, vh => match env[i]? with
    | some (.own ds) => V.rt (.fr ds) vh
    | _ => False
  | .expr e, K, V, env, vh => wpE Φ Γ e K false env vh fun x e1 h1 => V.nx e1 h1
  | .cond c a b, K, V, env, vh => wpE Φ Γ c K true env vh fun x e1 h1 => match x with
    | .v (.bl k) => ifP k (wpB Φ Γ a K V e1 h1) (wpB Φ Γ b K V e1 h1)
    | _ => False
  | .forS tg k es body, K, V, env, vh => wpEs Φ Γ es K env vh fun ds e1 h1 => ∃ items, itemsV k h1 ds = some items ∧
      forGo (fun d N e h => stl k ds h1 h ∧ ∃ e2, bindT tg d e = some e2 ∧ wpB Φ Γ body K { V with nx := N, ct := N, bk := V.nx } e2 h) items e1 h1 fun e h => stl k ds h1 h ∧ V.nx e h
  | .whl c body, K, V, env, vh => ∃ I : Nat → VE → VH → Prop, (∃ n, I n env vh) ∧ ∀ n env vh, I n env vh → wpE Φ Γ c K true env vh fun x e1 h1 => match x with
    | .v (.bl k) => ifP k (wpB Φ Γ body K { V with nx := fun e h => ∃ m, m < n ∧ I m e h, ct := fun e h => ∃ m, m < n ∧ I m e h, bk := V.nx } e1 h1) (V.nx e1 h1)
    | _ => False
  | .raise c es, K, V, env, vh => wpEs Φ Γ es K env vh fun ds e1 h1 => K c ds e1 h1
  | .tryS tb body cs sus, K, V, env, vh => wpB Φ Γ body (fun c xs e h => match tb.lookup c with
      | some (ns, anc) => wpH Φ Γ ns anc xs cs sus (K c xs e h) V e h
      | none => False) V env vh
  | .never, K, V, env, vh => False
/-- what the clauses do -/
def wpH (Φ : Fns) (Γ : Cns) (ns anc : List Str) (xs : List D) : List (Str × Option Nat) → List (List S) → Prop → VEnds → VE → VH → Prop
  | [], _, P, V, env, vh => P
  | _ :: _, [], P, V, env, vh => False
  | (c, o) :: cs, su :: sus, P, V, env, vh => ifP (anc.contains c) (∀ a, wpB Φ (errG Γ ns anc xs a) su noX (offV o V) (onE o a env) vh) (wpH Φ Γ ns anc xs cs sus P V env vh)
def wpB (Φ : Fns) (Γ : Cns) : List S → XP → VEnds → VE → VH → Prop
  | [], K, V, env, vh => V.nx env vh
  | s :: ss, K, V, env, vh => wpS Φ Γ s K { V with nx := fun e h => wpB Φ Γ ss K V e h } env vh
end
end R

set_option autoImplicit false
namespace R
open PySem PySem.Spec PyProof.Rows L2
/-! ## REq: one text of the small language, or another -/
mutual
def eqE : E → E → Bool
  | .non, .non => true
  | .bl a0, .bl b0 => decide (a0 = b0)
  | .int a0, .int b0 => decide (a0 = b0)
  | .str a0, .str b0 => decide (a0 = b0)
  | .var a0, .var b0 => decide (a0 = b0)
  | .bor a0, .bor b0 => decide (a0 = b0)
  | .glo a0, .glo b0 => decide (a0 = b0)
  | .skip, .skip => true
  | .tup a0, .tup b0 => eqEs a0 b0
  | .lst a0, .lst b0 => eqEs a0 b0
  | .bin a0 a1 a2, .bin b0 b1 b2 => decide (a0 = b0) && eqE a1 b1 && eqE a2 b2
  | .neg a0, .neg b0 => eqE a0 b0
  | .cmp a0 a1 a2, .cmp b0 b1 b2 => decide (a0 = b0) && eqE a1 b1 && eqE a2 b2
  | .chain a0 a1 a2 a3 a4, .chain b0 b1 b2 b3 b4 => decide (a0 = b0) && decide (a1 = b1) && eqE a2 b2 && eqE a3 b3 && eqE a4 b4
  | .and a0 a1, .and b0 b1 => eqE a0 b0 && eqE a1 b1
  | .or a0 a1, .or b0 b1 => eqE a0 b0 && eqE a1 b1
  | .not a0, .not b0 => eqE a0 b0
  | .ite a0 a1 a2, .ite b0 b1 b2 => eqE a0 b0 && eqE a1 b1 && eqE a2 b2
  | .idx a0 a1, .idx b0 b1 => eqE a0 b0 && eqE a1 b1
  | .sli a0 a1 a2, .sli b0 b1 b2 => eqE a0 b0 && eqE a1 b1 && eqE a2 b2
  | .call a0 a1, .call b0 b1 => decide (a0 = b0) && eqEs a1 b1
  | .blt a0 a1, .blt b0 b1 => decide (a0 = b0) && eqEs a1 b1
  | .isi a0 a1, .isi b0 b1 => eqE a0 b0 && decide (a1 = b1)
  | .lc a0 a1 a2 a3 a4 a5, .lc b0 b1 b2 b3 b4 b5 => eqE a0 b0 && decide (a1 = b1) && decide (a2 = b2) && decide (a3 = b3) && eqEs a4 b4 && eqEs a5 b5
  | .attr a0 a1, .attr b0 b1 => eqE a0 b0 && decide (a1 = b1)
  | .dct a0 a1, .dct b0 b1 => decide (a0 = b0) && eqEs a1 b1
  | .fld a0 a1, .fld b0 b1 => eqE a0 b0 && decide (a1 = b1)
  | .meth a0 a1 a2, .meth b0 b1 b2 => eqE a0 b0 && decide (a1 = b1) && eqEs a2 b2
  | .mk a0 a1, .mk b0 b1 => decide (a0 = b0) && eqEs a1 b1
  | .shr a0, .shr b0 => eqE a0 b0
  | _, _ => false
def eqEs : List E → List E → Bool
  | [], [] => true
  | x :: xs, y :: ys => eqE x y && eqEs xs ys
  | _, _ => false
end
mutual
def eqS : S → S → Bool
  | .pass, .pass => true
  | .brk, .brk => true
  | .cont, .cont => true
  | .retN, .retN => true
  | .set a0 a1, .set b0 b1 => decide (a0 = b0) && eqE a1 b1
  | .setO a0 a1, .setO b0 b1 => decide (a0 = b0) && eqE a1 b1
  | .setS a0 a1, .setS b0 b1 => decide (a0 = b0) && eqE a1 b1
  | .par a0 a1 a2 a3, .par b0 b1 b2 b3 => decide (a0 = b0) && decide (a1 = b1) && eqE a2 b2 && eqE a3 b3
  | .unp a0 a1, .unp b0 b1 => decide (a0 = b0) && eqE a1 b1
  | .aug a0 a1 a2, .aug b0 b1 b2 => decide (a0 = b0) && decide (a1 = b1) && eqE a2 b2
  | .sidx a0 a1 a2, .sidx b0 b1 b2 => eqE a0 b0 && eqE a1 b1 && eqE a2 b2
  | .app a0 a1, .app b0 b1 => eqE a0 b0 && eqE a1 b1
  | .ext a0 a1, .ext b0 b1 => eqE a0 b0 && eqE a1 b1
  | .fset a0 a1 a2, .fset b0 b1 b2 => eqE a0 b0 && decide (a1 = b1) && eqE a2 b2
  | .faug a0 a1 a2 a3, .faug b0 b1 b2 b3 => eqE a0 b0 && decide (a1 = b1) && decide (a2 = b2) && eqE a3 b3
  | .ret a0, .ret b0 => eqE a0 b0
  | .retO a0, .retO b0 => decide (a0 = b0)
  | .expr a0, .expr b0 => eqE a0 b0
  | .cond a0 a1 a2, .cond b0 b1 b2 => eqE a0 b0 && eqSs a1 b1 && eqSs a2 b2
  | .forS a0 a1 a2 a3, .forS b0 b1 b2 b3 => decide (a0 = b0) && decide (a1 = b1) && eqEs a2 b2 && eqSs a3 b3
  | .whl a0 a1, .whl b0 b1 => eqE a0 b0 && eqSs a1 b1
  | .raise a0 a1, .raise b0 b1 => decide (a0 = b0) && eqEs a1 b1
  | .tryS a0 a1 a2 a3, .tryS b0 b1 b2 b3 => decide (a0 = b0) && eqSs a1 b1 && decide (a2 = b2) && eqSss a3 b3
  | .never, .never => true
  | _, _ => false
def eqSs : List S → List S → Bool
  | [], [] => true
  | x :: xs, y :: ys => eqS x y && eqSs xs ys
  | _, _ => false
def eqSss : List (List S) → List (List S) → Bool
  | [], [] => true
  | x :: xs, y :: ys => eqSs x y && eqSss xs ys
  | _, _ => false
end
mutual
theorem eqE_ok : ∀ (a b : E), eqE a b = true → a = b
  | .non, b, h => by
    cases b <;> first | rfl | cases h
  | .bl a0, b, h => by
    cases b with
    | bl b0 =>
      simp only [eqE, Bool.and_eq_true] at h
      have h0 := h
      have e0 := of_decide_eq_true h0
      rw [e0]
    | _ => cases h
  | .int a0, b, h => by
    cases b with
    | int b0 =>
      simp only [eqE, Bool.and_eq_true] at h
      have h0 := h
      have e0 := of_decide_eq_true h0
      rw [e0]
    | _ => cases h
  | .str a0, b, h => by
    cases b with
    | str b0 =>
      simp only [eqE, Bool.and_eq_true] at h
      have h0 := h
      have e0 := of_decide_eq_true h0
      rw [e0]
    | _ => cases h
  | .var a0, b, h => by
    cases b with
    | var b0 =>
      simp only [eqE, Bool.and_eq_true] at h
      have h0 := h
      have e0 := of_decide_eq_true h0
      rw [e0]
    | _ => cases h
  | .bor a0, b, h => by
    cases b with
    | bor b0 =>
      simp only [eqE, Bool.and_eq_true] at h
      have h0 := h
      have e0 := of_decide_eq_true h0
      rw [e0]
    | _ => cases h
  | .glo a0, b, h => by
    cases b with
    | glo b0 =>
      simp only [eqE, Bool.and_eq_true] at h
      have h0 := h
      have e0 := of_decide_eq_true h0
      rw [e0]
    | _ => cases h
  | .skip, b, h => by
    cases b <;> first | rfl | cases h
  | .tup a0, b, h => by
    cases b with
    | tup b0 =>
      simp only [eqE, Bool.and_eq_true] at h
      have h0 := h
      have e0 := eqEs_ok a0 b0 h0
      rw [e0]
    | _ => cases h
  | .lst a0, b, h => by
    cases b with
    | lst b0 =>
      simp only [eqE, Bool.and_eq_true] at h
      have h0 := h
      have e0 := eqEs_ok a0 b0 h0
      rw [e0]
    | _ => cases h
  | .bin a0 a1 a2, b, h => by
    cases b with
    | bin b0 b1 b2 =>
      simp only [eqE, Bool.and_eq_true] at h
      obtain ⟨⟨h0, h1⟩, h2⟩ := h
      have e0 := of_decide_eq_true h0
      have e1 := eqE_ok a1 b1 h1
      have e2 := eqE_ok a2 b2 h2
      rw [e0, e1, e2]
    | _ => cases h
  | .neg a0, b, h => by
    cases b with
    | neg b0 =>
      simp only [eqE, Bool.and_eq_true] at h
      have h0 := h
      have e0 := eqE_ok a0 b0 h0
      rw [e0]
    | _ => cases h
  | .cmp a0 a1 a2, b, h => by
    cases b with
    | cmp b0 b1 b2 =>
      simp only [eqE, Bool.and_eq_true] at h
      obtain ⟨⟨h0, h1⟩, h2⟩ := h
      have e0 := of_decide_eq_true h0
      have e1 := eqE_ok a1 b1 h1
      have e2 := eqE_ok a2 b2 h2
      rw [e0, e1, e2]
    | _ => cases h
  | .chain a0 a1 a2 a3 a4, b, h => by
    cases b with
    | chain b0 b1 b2 b3 b4 =>
      simp only [eqE, Bool.and_eq_true] at h
      obtain ⟨⟨⟨⟨h0, h1⟩, h2⟩, h3⟩, h4⟩ := h
      have e0 := of_decide_eq_true h0
      have e1 := of_decide_eq_true h1
      have e2 := eqE_ok a2 b2 h2
      have e3 := eqE_ok a3 b3 h3
      have e4 := eqE_ok a4 b4 h4
      rw [e0, e1, e2, e3, e4]
    | _ => cases h
  | .and a0 a1, b, h => by
    cases b with
    | and b0 b1 =>
      simp only [eqE, Bool.and_eq_true] at h
      obtain ⟨h0, h1⟩ := h
      have e0 := eqE_ok a0 b0 h0
      have e1 := eqE_ok a1 b1 h1
      rw [e0, e1]
    | _ => cases h
  | .or a0 a1, b, h => by
    cases b with
    | or b0 b1 =>
      simp only [eqE, Bool.and_eq_true] at h
      obtain ⟨h0, h1⟩ := h
      have e0 := eqE_ok a0 b0 h0
      have e1 := eqE_ok a1 b1 h1
      rw [e0, e1]
    | _ => cases h
  | .not a0, b, h => by
    cases b with
    | not b0 =>
      simp only [eqE, Bool.and_eq_true] at h
      have h0 := h
      have e0 := eqE_ok a0 b0 h0
      rw [e0]
    | _ => cases h
  | .ite a0 a1 a2, b, h => by
    cases b with
    | ite b0 b1 b2 =>
      simp only [eqE, Bool.and_eq_true] at h
      obtain ⟨⟨h0, h1⟩, h2⟩ := h
      have e0 := eqE_ok a0 b0 h0
      have e1 := eqE_ok a1 b1 h1
      have e2 := eqE_ok a2 b2 h2
      rw [e0, e1, e2]
    | _ => cases h
  | .idx a0 a1, b, h => by
    cases b with
    | idx b0 b1 =>
      simp only [eqE, Bool.and_eq_true] at h
      obtain ⟨h0, h1⟩ := h
      have e0 := eqE_ok a0 b0 h0
      have e1 := eqE_ok a1 b1 h1
      rw [e0, e1]
    | _ => cases h
  | .sli a0 a1 a2, b, h => by
    cases b with
    | sli b0 b1 b2 =>
      simp only [eqE, Bool.and_eq_true] at h
      obtain ⟨⟨h0, h1⟩, h2⟩ := h
      have e0 := eqE_ok a0 b0 h0
      have e1 := eqE_ok a1 b1 h1
      have e2 := eqE_ok a2 b2 h2
      rw [e0, e1, e2]
    | _ => cases h
  | .call a0 a1, b, h => by
    cases b with
    | call b0 b1 =>
      simp only [eqE, Bool.and_eq_true] at h
      obtain ⟨h0, h1⟩ := h
      have e0 := of_decide_eq_true h0
      have e1 := eqEs_ok a1 b1 h1
      rw [e0, e1]
    | _ => cases h
  | .blt a0 a1, b, h => by
    cases b with
    | blt b0 b1 =>
      simp only [eqE, Bool.and_eq_true] at h
      obtain ⟨h0, h1⟩ := h
      have e0 := of_decide_eq_true h0
      have e1 := eqEs_ok a1 b1 h1
      rw [e0, e1]
    | _ => cases h
  | .isi a0 a1, b, h => by
    cases b with
    | isi b0 b1 =>
      simp only [eqE, Bool.and_eq_true] at h
      obtain ⟨h0, h1⟩ := h
      have e0 := eqE_ok a0 b0 h0
      have e1 := of_decide_eq_true h1
      rw [e0, e1]
    | _ => cases h
  | .lc a0 a1 a2 a3 a4 a5, b, h => by
    cases b with
    | lc b0 b1 b2 b3 b4 b5 =>
      simp only [eqE, Bool.and_eq_true] at h
      obtain ⟨⟨⟨⟨⟨h0, h1⟩, h2⟩, h3⟩, h4⟩, h5⟩ := h
      have e0 := eqE_ok a0 b0 h0
      have e1 := of_decide_eq_true h1
      have e2 := of_decide_eq_true h2
      have e3 := of_decide_eq_true h3
      have e4 := eqEs_ok a4 b4 h4
      have e5 := eqEs_ok a5 b5 h5
      rw [e0, e1, e2, e3, e4, e5]
    | _ => cases h
  | .attr a0 a1, b, h => by
    cases b with
    | attr b0 b1 =>
      simp only [eqE, Bool.and_eq_true] at h
      obtain ⟨h0, h1⟩ := h
      have e0 := eqE_ok a0 b0 h0
      have e1 := of_decide_eq_true h1
      rw [e0, e1]
    | _ => cases h
  | .dct a0 a1, b, h => by
    cases b with
    | dct b0 b1 =>
      simp only [eqE, Bool.and_eq_true] at h
      obtain ⟨h0, h1⟩ := h
      have e0 := of_decide_eq_true h0
      have e1 := eqEs_ok a1 b1 h1
      rw [e0, e1]
    | _ => cases h
  | .fld a0 a1, b, h => by
    cases b with
    | fld b0 b1 =>
      simp only [eqE, Bool.and_eq_true] at h
      obtain ⟨h0, h1⟩ := h
      have e0 := eqE_ok a0 b0 h0
      have e1 := of_decide_eq_true h1
      rw [e0, e1]
    | _ => cases h
  | .meth a0 a1 a2, b, h => by
    cases b with
    | meth b0 b1 b2 =>
      simp only [eqE, Bool.and_eq_true] at h
      obtain ⟨⟨h0, h1⟩, h2⟩ := h
      have e0 := eqE_ok a0 b0 h0
      have e1 := of_decide_eq_true h1
      have e2 := eqEs_ok a2 b2 h2
      rw [e0, e1, e2]
    | _ => cases h
  | .mk a0 a1, b, h => by
    cases b with
    | mk b0 b1 =>
      simp only [eqE, Bool.and_eq_true] at h
      obtain ⟨h0, h1⟩ := h
      have e0 := of_decide_eq_true h0
      have e1 := eqEs_ok a1 b1 h1
      rw [e0, e1]
    | _ => cases h
  | .shr a0, b, h => by
    cases b with
    | shr b0 =>
      simp only [eqE, Bool.and_eq_true] at h
      have h0 := h
      have e0 := eqE_ok a0 b0 h0
      rw [e0]
    | _ => cases h
theorem eqEs_ok : ∀ (a b : List E), eqEs a b = true → a = b
  | [], b, h => by
    cases b <;> first | rfl | cases h
  | x :: xs, b, h => by
    cases b with
    | nil => cases h
    | cons y ys =>
      simp only [eqEs, Bool.and_eq_true] at h
      rw [eqE_ok x y h.1, eqEs_ok xs ys h.2]
end
mutual
theorem eqS_ok : ∀ (a b : S), eqS a b = true → a = b
  | .pass, b, h => by
    cases b <;> first | rfl | cases h
  | .brk, b, h => by
    cases b <;> first | rfl | cases h
  | .cont, b, h => by
    cases b <;> first | rfl | cases h
  | .retN, b, h => by
    cases b <;> first | rfl | cases h
  | .set a0 a1, b, h => by
    cases b with
    | set b0 b1 =>
      simp only [eqS, Bool.and_eq_true] at h
      obtain ⟨h0, h1⟩ := h
      have e0 := of_decide_eq_true h0
      have e1 := eqE_ok a1 b1 h1
      rw [e0, e1]
    | _ => cases h
  | .setO a0 a1, b, h => by
    cases b with
    | setO b0 b1 =>
      simp only [eqS, Bool.and_eq_true] at h
      obtain ⟨h0, h1⟩ := h
      have e0 := of_decide_eq_true h0
      have e1 := eqE_ok a1 b1 h1
      rw [e0, e1]
    | _ => cases h
  | .setS a0 a1, b, h => by
    cases b with
    | setS b0 b1 =>
      simp only [eqS, Bool.and_eq_true] at h
      obtain ⟨h0, h1⟩ := h
      have e0 := of_decide_eq_true h0
      have e1 := eqE_ok a1 b1 h1
      rw [e0, e1]
    | _ => cases h
  | .par a0 a1 a2 a3, b, h => by
    cases b with
    | par b0 b1 b2 b3 =>
      simp only [eqS, Bool.and_eq_true] at h
      obtain ⟨⟨⟨h0, h1⟩, h2⟩, h3⟩ := h
      have e0 := of_decide_eq_true h0
      have e1 := of_decide_eq_true h1
      have e2 := eqE_ok a2 b2 h2
      have e3 := eqE_ok a3 b3 h3
      rw [e0, e1, e2, e3]
    | _ => cases h
  | .unp a0 a1, b, h => by
    cases b with
    | unp b0 b1 =>
      simp only [eqS, Bool.and_eq_true] at h
      obtain ⟨h0, h1⟩ := h
      have e0 := of_decide_eq_true h0
      have e1 := eqE_ok a1 b1 h1
      rw [e0, e1]
    | _ => cases h
  | .aug a0 a1 a2, b, h => by
    cases b with
    | aug b0 b1 b2 =>
      simp only [eqS, Bool.and_eq_true] at h
      obtain ⟨⟨h0, h1⟩, h2⟩ := h
      have e0 := of_decide_eq_true h0
      have e1 := of_decide_eq_true h1
      have e2 := eqE_ok a2 b2 h2
      rw [e0, e1, e2]
    | _ => cases h
  | .sidx a0 a1 a2, b, h => by
    cases b with
    | sidx b0 b1 b2 =>
      simp only [eqS, Bool.and_eq_true] at h
      obtain ⟨⟨h0, h1⟩, h2⟩ := h
      have e0 := eqE_ok a0 b0 h0
      have e1 := eqE_ok a1 b1 h1
      have e2 := eqE_ok a2 b2 h2
      rw [e0, e1, e2]
    | _ => cases h
  | .app a0 a1, b, h => by
    cases b with
    | app b0 b1 =>
      simp only [eqS, Bool.and_eq_true] at h
      obtain ⟨h0, h1⟩ := h
      have e0 := eqE_ok a0 b0 h0
      have e1 := eqE_ok a1 b1 h1
      rw [e0, e1]
    | _ => cases h
  | .ext a0 a1, b, h => by
    cases b with
    | ext b0 b1 =>
      simp only [eqS, Bool.and_eq_true] at h
      obtain ⟨h0, h1⟩ := h
      have e0 := eqE_ok a0 b0 h0
      have e1 := eqE_ok a1 b1 h1
      rw [e0, e1]
    | _ => cases h
  | .fset a0 a1 a2, b, h => by
    cases b with
    | fset b0 b1 b2 =>
      simp only [eqS, Bool.and_eq_true] at h
      obtain ⟨⟨h0, h1⟩, h2⟩ := h
      have e0 := eqE_ok a0 b0 h0
      have e1 := of_decide_eq_true h1
      have e2 := eqE_ok a2 b2 h2
      rw [e0, e1, e2]
    | _ => cases h
  | .faug a0 a1 a2 a3, b, h => by
    cases b with
    | faug b0 b1 b2 b3 =>
      simp only [eqS, Bool.and_eq_true] at h
      obtain ⟨⟨⟨h0, h1⟩, h2⟩, h3⟩ := h
      have e0 := eqE_ok a0 b0 h0
      have e1 := of_decide_eq_true h1
      have e2 := of_decide_eq_true h2
      have e3 := eqE_ok a3 b3 h3
      rw [e0, e1, e2, e3]
    | _ => cases h
  | .ret a0, b, h => by
    cases b with
    | ret b0 =>
      simp only [eqS, Bool.and_eq_true] at h
      have h0 := h
      have e0 := eqE_ok a0 b0 h0
      rw [e0]
    | _ => cases h
  | .retO a0, b, h => by
    cases b with
    | retO b0 =>
      simp only [eqS, Bool.and_eq_true] at h
      have h0 := h
      have e0 := of_decide_eq_true h0
      rw [e0]
    | _ => cases h
  | .expr a0, b, h => by
    cases b with
    | expr b0 =>
      simp only [eqS, Bool.and_eq_true] at h
      have h0 := h
      have e0 := eqE_ok a0 b0 h0
      rw [e0]
    | _ => cases h
  | .cond a0 a1 a2, b, h => by
    cases b with
    | cond b0 b1 b2 =>
      simp only [eqS, Bool.and_eq_true] at h
      obtain ⟨⟨h0, h1⟩, h2⟩ := h
      have e0 := eqE_ok a0 b0 h0
      have e1 := eqSs_ok a1 b1 h1
      have e2 := eqSs_ok a2 b2 h2
      rw [e0, e1, e2]
    | _ => cases h
  | .forS a0 a1 a2 a3, b, h => by
    cases b with
    | forS b0 b1 b2 b3 =>
      simp only [eqS, Bool.and_eq_true] at h
      obtain ⟨⟨⟨h0, h1⟩, h2⟩, h3⟩ := h
      have e0 := of_decide_eq_true h0
      have e1 := of_decide_eq_true h1
      have e2 := eqEs_ok a2 b2 h2
      have e3 := eqSs_ok a3 b3 h3
      rw [e0, e1, e2, e3]
    | _ => cases h
  | .whl a0 a1, b, h => by
    cases b with
    | whl b0 b1 =>
      simp only [eqS, Bool.and_eq_true] at h
      obtain ⟨h0, h1⟩ := h
      have e0 := eqE_ok a0 b0 h0
      have e1 := eqSs_ok a1 b1 h1
      rw [e0, e1]
    | _ => cases h
  | .raise a0 a1, b, h => by
    cases b with
    | raise b0 b1 =>
      simp only [eqS, Bool.and_eq_true] at h
      obtain ⟨h0, h1⟩ := h
      have e0 := of_decide_eq_true h0
      have e1 := eqEs_ok a1 b1 h1
      rw [e0, e1]
    | _ => cases h
  | .tryS a0 a1 a2 a3, b, h => by
    cases b with
    | tryS b0 b1 b2 b3 =>
      simp only [eqS, Bool.and_eq_true] at h
      obtain ⟨⟨⟨h0, h1⟩, h2⟩, h3⟩ := h
      have e0 := of_decide_eq_true h0
      have e1 := eqSs_ok a1 b1 h1
      have e2 := of_decide_eq_true h2
      have e3 := eqSss_ok a3 b3 h3
      rw [e0, e1, e2, e3]
    | _ => cases h
  | .never, b, h => by
    cases b <;> first | rfl | cases h
theorem eqSs_ok : ∀ (a b : List S), eqSs a b = true → a = b
  | [], b, h => by
    cases b <;> first | rfl | cases h
  | x :: xs, b, h => by
    cases b with
    | nil => cases h
    | cons y ys =>
      simp only [eqSs, Bool.and_eq_true] at h
      rw [eqS_ok x y h.1, eqSs_ok xs ys h.2]
theorem eqSss_ok : ∀ (a b : List (List S)), eqSss a b = true → a = b
  | [], b, h => by
    cases b <;> first | rfl | cases h
  | x :: xs, b, h => by
    cases b with
    | nil => cases h
    | cons y ys =>
      simp only [eqSss, Bool.and_eq_true] at h
      rw [eqSs_ok x y h.1, eqSss_ok xs ys h.2]
end
def eqO (a : Option (List S)) (b : List S) : Bool := match a with
  | some a => eqSs a b
  | none => false
theorem eqO_ok {a : Option (List S)} {b : List S} (h : eqO a b = true) : a = some b := by
  cases a with
  | none => cases h
  | some a => rw [eqSs_ok a b h]
end R

set_option autoImplicit false
theorem _root_.L2.PS.imp {X : L2.Cx} {st : PySem.Stmt} {t t' : L2.TS} (h : L2.PS X st t) (f : ∀ D σ H, t' D σ H → t D σ H) : L2.PS X st t' := ⟨fun pins s σ H D I hw => h.run pins s σ H D I (f D σ H hw)⟩
theorem _root_.L2.PSs.imp {X : L2.Cx} {st : List PySem.Stmt} {t t' : L2.TS} (h : L2.PSs X st t) (f : ∀ D σ H, t' D σ H → t D σ H) : L2.PSs X st t' := ⟨fun pins s σ H D I hw => h.run pins s σ H D I (f D σ H hw)⟩
namespace R
open PySem PySem.Spec PyProof.Rows L2
/-! ## R6: rules for statements -/
/-- how the ends are met -/
structure VD (G : Wd) (B : Base) (V : VEnds) (D : Ends) : Prop where
  nx : ∀ ρ env vh σ H, Rel G B [] ρ env vh σ H → V.nx env vh → D.nx σ H
  rt : ∀ x v ρ vh H, ResF G B x v ρ vh H → V.rt x vh → D.rt v H
  bk : ∀ ρ env vh σ H, Rel G B [] ρ env vh σ H → V.bk env vh → D.bk σ H
  ct : ∀ ρ env vh σ H, Rel G B [] ρ env vh σ H → V.ct env vh → D.ct σ H
def tS (G : Wd) (B : Base) (w : VEnds → VE → VH → Prop) : TS := fun D σ H => ∃ ρ env vh V, Rel G B [] ρ env vh σ H ∧ VD G B V D ∧ w V env vh
/-- what a def's body is run in -/
structure SOk (X : Cx) (G : Wd) (B : Base) (K : XP) (Φ : Fns) (Γ : Cns) (fs : List Str) : Prop extends XOk X G B K Φ Γ fs where
  po : PassesOwn (model X.prog X.w) X.A X.env X.xe
  fnT : ∀ x, X.fn x = true
  stk : X.stack = X.env :: X.outer
  frm : X.env.frame = some X.env.locals
  exN : X.ex = []
section
variable {X : Cx} {G : Wd} {B : Base} {K : XP} {Φ : Fns} {Γ : Cns} {fs : List Str} {T ρ : List Addr} {env : VE} {vh : VH} {σ : L2.St} {H : Hp}
theorem SOk.now (o : SOk X G B K Φ Γ fs) (hc : hotN ∉ fs) (R : Rel G B T ρ env vh σ H) : SOk X G (B.now T ρ env σ H) K Φ Γ fs :=
  { o with er := fun h => absurd h hc, tk := o.tk.imp fun cls d σ' H' ⟨c, C, xs, T', ρ', env', vh', h1, h2, S, x, k⟩ => ⟨c, C, xs, T', ρ', env', vh', h1, h2, R.unbase S, x, k⟩ }
theorem ResF.unbase {x : DV} {v : V} {ρ' : List Addr} {vh' : VH} {H' : Hp} (R : Rel G B T ρ env vh σ H) (r : ResF G (B.now T ρ env σ H) x v ρ' vh' H') : ResF G B x v ρ' vh' H' := by
  cases x with
  | v d => exact ⟨R.unbase r.1, r.2⟩
  | fr ds =>
    obtain ⟨a, vs, e, h, S, h2⟩ := r
    exact ⟨a, vs, e, h, R.unbase S, h2⟩
theorem Res.ret {x : DV} {v : V} {ρ' : List Addr} {env' : VE} {vh' : VH} {H' : Hp} (r : Res G B [] ρ env σ H x v ρ' env' vh' H') : ResF G B x v ρ' vh' H' := by
  cases x with
  | v d =>
    obtain ⟨m, S, h⟩ := r
    exact ⟨S.ret, Rel.ret_d h⟩
  | fr ds =>
    obtain ⟨a, vs, e, h, m, S, h2⟩ := r
    exact ⟨a, vs, e, h, S.ret, Rel.ret_ds h2⟩

theorem rs_nil : PSs X [] (tS G B fun V env vh => V.nx env vh) := pss_nil.imp fun D σ H ⟨ρ, env, vh, V, R, vd, w⟩ => vd.nx _ _ _ _ _ R w
theorem rs_cons {st : Stmt} {rest : List Stmt} {w1 w2 : VEnds → VE → VH → Prop} (h1 : PS X st (tS G B w1)) (h2 : PSs X rest (tS G B w2)) : PSs X (st :: rest) (tS G B fun V env vh => w1 { V with nx := fun e h => w2 V e h } env vh) :=
  (pss_cons h1 h2).imp fun D σ H ⟨ρ, env, vh, V, R, vd, w⟩ => ⟨ρ, env, vh, { V with nx := fun e h => w2 V e h }, R, ⟨fun ρ' env' vh' σ' H' R' z => ⟨ρ', env', vh', V, R', vd, z⟩, vd.rt, vd.bk, vd.ct⟩, w⟩
theorem rs_pass {pos : Pos} : PS X (.Pass pos) (tS G B fun V env vh => V.nx env vh) := ps_pass.imp fun D σ H ⟨ρ, env, vh, V, R, vd, w⟩ => vd.nx _ _ _ _ _ R w
theorem rs_doc {x j pos pos'} : PS X (.Expr (.Constant (.str x) j pos) pos') (tS G B fun V env vh => V.nx env vh) := ps_doc.imp fun D σ H ⟨ρ, env, vh, V, R, vd, w⟩ => vd.nx _ _ _ _ _ R w
theorem rs_break {pos : Pos} : PS X (.Break pos) (tS G B fun V env vh => V.bk env vh) := ps_break.imp fun D σ H ⟨ρ, env, vh, V, R, vd, w⟩ => vd.bk _ _ _ _ _ R w
theorem rs_cont {pos : Pos} : PS X (.Continue pos) (tS G B fun V env vh => V.ct env vh) := ps_continue.imp fun D σ H ⟨ρ, env, vh, V, R, vd, w⟩ => vd.ct _ _ _ _ _ R w
theorem rs_never {st : Stmt} : PS X st (tS G B fun V env vh => False) := ps_never.imp fun D σ H ⟨ρ, env, vh, V, R, vd, w⟩ => w.elim
theorem rs_retN {pos : Pos} : PS X (.Return none pos) (tS G B fun V env vh => V.rt (.v .non) vh) := ps_retN.imp fun D σ H ⟨ρ, env, vh, V, R, vd, w⟩ => vd.rt (.v .non) _ ρ _ _ ⟨R.ret, rfl⟩ w
theorem rs_ret {e : Expr} {pos : Pos} {we : VE → VH → QE → Prop} (me : ∀ env vh (Q Q' : QE), (∀ x e h, Q x e h → Q' x e h) → we env vh Q → we env vh Q') (h : PE X e (tD G B we)) :
    PS X (.Return (some e) pos) (tS G B fun V env vh => we env vh fun x e1 h1 => V.rt x h1) :=
  (ps_ret h).imp fun D σ H ⟨ρ, env, vh, V, R, vd, w⟩ => ⟨[], ρ, env, vh, R, me _ _ _ _ (fun x e1 h1 z ρ' v H' r => vd.rt _ _ _ _ _ r.ret z) w⟩
theorem rs_retO {e : Expr} {pos : Pos} {i : Nat} (h : PE X e (tVar i)) :
    PS X (.Return (some e) pos) (tS G B fun V env vh => match env[i]? with
      | some (.own ds) => V.rt (.fr ds) vh
      | _ => False) :=
  (ps_ret h).imp fun D σ H ⟨ρ, env, vh, V, R, vd, w⟩ => by
    dsimp only at w
    split at w
    · rename_i ds e
      obtain ⟨a, vs, h1, h2, S, h3⟩ := R.take e
      exact ⟨_, h1, vd.rt (.fr ds) _ _ _ _ ⟨a, vs, rfl, h2, S.ret, Rel.ret_ds h3⟩ w⟩
    · exact w.elim
theorem rs_expr {e : Expr} {pos : Pos} {we : VE → VH → QE → Prop} (me : ∀ env vh (Q Q' : QE), (∀ x e h, Q x e h → Q' x e h) → we env vh Q → we env vh Q') (h : PE X e (tD G B we)) (hs : swapsWith e none pos.line X.env = pure false) :
    PS X (.Expr e pos) (tS G B fun V env vh => we env vh fun x e1 h1 => V.nx e1 h1) :=
  (ps_expr h hs).imp fun D σ H ⟨ρ, env, vh, V, R, vd, w⟩ => ⟨[], ρ, env, vh, R, me _ _ _ _ (fun x e1 h1 z ρ' v H' r => vd.nx _ _ _ _ _ r.d.2.1 z) w⟩

/-! ### stores -/
abbrev PAs (X : Cx) (G : Wd) (B : Base) (st : Stmt) (i : Nat) (we : VE → VH → QE → Prop) : Prop := PS X st (tAsg (tD G B we) (gName i))
theorem rs_set {st : Stmt} {i : Nat} {we : VE → VH → QE → Prop} (me : ∀ env vh (Q Q' : QE), (∀ x e h, Q x e h → Q' x e h) → we env vh Q → we env vh Q') (h : PAs X G B st i we) :
    PS X st (tS G B fun V env vh => we env vh fun x e1 h1 => V.nx (e1.set i (.val x.d)) h1) :=
  h.imp fun D σ H ⟨ρ, env, vh, V, R, vd, w⟩ => ⟨[], ρ, env, vh, R, me _ _ _ _ (fun x e1 h1 z ρ' v H' r => by
    obtain ⟨m, R', hv⟩ := r.d
    exact vd.nx _ _ _ _ _ (R'.setVal hv) z) w⟩
theorem rs_setO {st : Stmt} {i : Nat} {we : VE → VH → QE → Prop} (me : ∀ env vh (Q Q' : QE), (∀ x e h, Q x e h → Q' x e h) → we env vh Q → we env vh Q') (h : PAs X G B st i we) :
    PS X st (tS G B fun V env vh => we env vh fun x e1 h1 => match x with
      | .fr ds => V.nx (e1.set i (.own ds)) h1
      | .v _ => False) :=
  h.imp fun D σ H ⟨ρ, env, vh, V, R, vd, w⟩ => ⟨[], ρ, env, vh, R, me _ _ _ _ (fun x e1 h1 z ρ' v H' r => by
    cases x with
    | v d => exact z.elim
    | fr ds =>
      obtain ⟨a, vs, rfl, h1, m, R', hv⟩ := r
      exact vd.nx _ _ _ _ _ (R'.setOwn h1 hv) z) w⟩
theorem rs_setS {st : Stmt} {i : Nat} {we : VE → VH → QE → Prop} (me : ∀ env vh (Q Q' : QE), (∀ x e h, Q x e h → Q' x e h) → we env vh Q → we env vh Q') (h : PAs X G B st i we) :
    PS X st (tS G B fun V env vh => we env vh fun x e1 h1 => match x with
      | .fr ds => V.nx (e1.set i (.val (.ref h1.length))) (h1 ++ [.lst ds])
      | .v _ => False) :=
  h.imp fun D σ H ⟨ρ, env, vh, V, R, vd, w⟩ => ⟨[], ρ, env, vh, R, me _ _ _ _ (fun x e1 h1 z ρ' v H' r => by
    cases x with
    | v d => exact z.elim
    | fr ds =>
      obtain ⟨a, vs, rfl, h2, m, R', hv⟩ := r
      have S := R'.share (o := .lst ds) ⟨vs, h2, hv⟩
      have ha : (ρ' ++ [a])[h1.length]? = some a := by rw [R'.vl]; simp
      exact vd.nx _ _ _ _ _ (S.setVal (d := .ref h1.length) ⟨a, ha, rfl⟩) z) w⟩
theorem pas_set (o : SOk X G B K Φ Γ fs) {i : Nat} {x : Str} {e : Expr} {pos pos' : Pos} {we : VE → VH → QE → Prop} (hi : X.N[i]? = some x) (hx : Loc X.env.scope x) (he : PE X e (tD G B we)) (hs : swapsWith e (some (.Name x pos')) pos.line X.env = pure false) :
    PAs X G B (.Assign [.Name x pos'] e pos) i we := ps_set o.nd hi hx he hs (.inl (o.fnT x))
theorem rs_par (o : SOk X G B K Φ Γ fs) (hc : hotN ∉ fs) {i j : Nat} {x y : Str} {a b : Expr} {px py pt : Pos} {kt k2 : Nat} {pt2 pos : Pos} {ws : VE → VH → (List R.D → VE → VH → Prop) → Prop} (m : ∀ env vh (Q Q' : List R.D → VE → VH → Prop), (∀ x e h, Q x e h → Q' x e h) → ws env vh Q → ws env vh Q')
    (hi : X.N[i]? = some x) (hj : X.N[j]? = some y) (hij : i ≠ j) (hx : X.env.scope.names.lookup x = some .local) (hy : X.env.scope.names.lookup y = some .local) (ha : PA X [a, b] (tL G B ws))
    (hw : swappedStores [.Tuple [.Name x px, .Name y py] kt pt] (.Tuple [a, b] k2 pt2) X.env = pure (some [x, y])) (hs : swapsWithSole [.Tuple [.Name x px, .Name y py] kt pt] (.Tuple [a, b] k2 pt2) pos.line X.env = pure false) :
    PS X (.Assign [.Tuple [.Name x px, .Name y py] kt pt] (.Tuple [a, b] k2 pt2) pos) (tS G B fun V env vh => ws env vh fun ds e1 h1 => match ds with
      | [x, y] => V.nx ((e1.set i (.val x)).set j (.val y)) h1
      | _ => False) :=
  (ps_par (o.calm hc) o.nd hi hj hij hx hy ha hw hs).imp fun D σ H ⟨ρ, env, vh, V, R, vd, w⟩ => ⟨[], ρ, env, vh, R, m _ _ _ _ (fun ds e1 h1 z ρ' vs H' mv R' hv => by
    match ds, z, hv with
    | [p, q], z, ⟨v, r, e1, hp, w, r2, e2, hq, e3⟩ =>
      cases (show r2 = [] from e3)
      subst e2 e1
      exact ⟨v, w, rfl, vd.nx _ _ _ _ _ ((R'.setVal hp).setVal (RD.move (setValMv R') _ _ hq)) z⟩) w⟩
theorem rs_unp (o : SOk X G B K Φ Γ fs) {is : List Nat} {ts : List Expr} {kt : Nat} {pt pos : Pos} {e : Expr} {we : VE → VH → QE → Prop} (me : ∀ env vh (Q Q' : QE), (∀ x e h, Q x e h → Q' x e h) → we env vh Q → we env vh Q') (he : PE X e (tD G B we))
    (hg : PG X (.Tuple ts kt pt) (gOf G.K (.many is))) (hs : swapsWithSole [.Tuple ts kt pt] e pos.line X.env = pure false) (hw : swappedStores [.Tuple ts kt pt] e X.env = pure none) (h1 : (assignEach [.Tuple ts kt pt] X.env).map (·.2) = [assign (.Tuple ts kt pt) X.env]) :
    PS X (.Assign [.Tuple ts kt pt] e pos) (tS G B fun V env vh => we env vh fun x e1 h1 => ∃ e2, bindT (.many is) x.d e1 = some e2 ∧ V.nx e2 h1) :=
  (ps_asg he hg hs hw h1).imp fun D σ H ⟨ρ, env, vh, V, R, vd, w⟩ => ⟨[], ρ, env, vh, R, me _ _ _ _ (fun x e1 h1 ⟨e2, hb, z⟩ ρ' v H' r => by
    obtain ⟨m, R', hv⟩ := r.d
    exact bind_ok R' hv hb fun σ2 R2 _ _ => vd.nx _ _ _ _ _ R2 z) w⟩
/-- a op= b -/
theorem ip_d (op : Operator) : PIp X op (fun x y H Q => ∃ Z ρ c d, RW G Z ρ H c x ∧ RW G Z ρ H d y ∧ wpAug op c d fun z => ∀ v H', Same H H' → RD G Z ρ H' z v → Q v H') := by
  rintro pins s σ H x y v u Q I r1 r2 ⟨Z, ρ, c, d, hc, hd, q⟩
  unfold wpAug at q
  split at q
  · cases (show x = _ from hc)
    cases (show y = _ from hd)
    exact ip_add pins s σ H _ _ v u Q I r1 r2 ⟨_, _, rfl, rfl, q _ _ (Same.refl _) rfl⟩
  · cases (show x = _ from hc)
    cases (show y = _ from hd)
    exact ip_sub pins s σ H _ _ v u Q I r1 r2 ⟨_, _, rfl, rfl, q _ _ (Same.refl _) rfl⟩
  · exact q.elim
/-- an instance's attribute is stored -/
theorem ins_upd {n : Nat} {c f : Str} {ns : List Str} {xs : List _root_.R.D} {d : _root_.R.D} {y : V} {a : Addr} {C dx : Addr} {ws : List (Str × V)} (R : Rel G B T ρ env vh σ H) (hn : vh[n]? = some (.ins c ns xs)) (ha : ρ[n]? = some a) (hC : G.ci c = some C) (hH : H a = some (.ins C dx ws)) (en : ws.map (·.1) = ns)
    (hv : RDs G (ZZ B.F T ρ env σ) ρ H xs (ws.map (·.2))) (hy : RD G (ZZ B.F T ρ env σ) ρ H d y) : Rel G B T ρ env (vh.set n (.ins c (putN f ns) (putX f d ns xs))) σ (upd H a (.ins C dx (putF f y ws))) := by
  subst en
  have hz : ZZ B.F T ρ env σ a := .inr (.inr (.inl (List.mem_of_getElem? ha)))
  refine R.shUpd hn ha trivial ⟨C, dx, putF f y ws, _, hC, upd_same, putF_names, rfl, RDs.move (Mv.upd hz hH trivial) _ _ (putF_vals hy hv)⟩
theorem rs_fset (o : SOk X G B K Φ Γ fs) {ob e : Expr} {f : Str} {pos pos' : Pos} {wo : VE → VH → (Op → VE → VH → Prop) → Prop} {we : VE → VH → QE → Prop} (mo : ∀ env vh (Q Q' : Op → VE → VH → Prop), (∀ x e h, Q x e h → Q' x e h) → wo env vh Q → wo env vh Q')
    (me : ∀ env vh (Q Q' : QE), (∀ x e h, Q x e h → Q' x e h) → we env vh Q → we env vh Q') (ho : PE X ob (tO G B wo)) (he : PE X e (tD G B we)) (hf : pfN f ∈ fs) (hs : swapsWith e (some (.Attribute ob f pos')) pos.line X.env = pure false) :
    PS X (.Assign [.Attribute ob f pos'] e pos) (tS G B fun V env vh => we env vh fun x e1 h1 => wo e1 h1 fun oo e2 h2 => ∃ n c ns xs, oo.raw e2 = some (.ref n) ∧ h2[n]? = some (.ins c ns xs) ∧ ns.length ≤ 100 ∧ V.nx e2 (h2.set n (.ins c (putN f ns) (putX f x.d ns xs)))) :=
  (ps_fld ho he hs).imp fun D σ H ⟨ρ, env, vh, V, R, vd, w⟩ => ⟨[], ρ, env, vh, R, me _ _ _ _ (fun x e1 h1 z ρ' v H' r => by
    obtain ⟨m, R', hv⟩ := r.d
    refine ⟨[], ρ', e1, h1, R', mo _ _ _ _ (fun oo e2 h2 ⟨n, c, ns, xs, hr, hn, hl, k⟩ ρ2 v2 H2 m2 R2 ov => ?_) z⟩
    obtain ⟨a, C, dx, ws, rfl, ha, hC, hH, en, hx⟩ := op_ins R2 ov hr hn
    obtain ⟨cl, na⟩ := o.ic f hf c C hC
    have hwl : ws.length = ns.length := by rw [← en, List.length_map]
    exact ⟨a, C, dx, ws, rfl, hH, cl, na, by omega, vd.nx _ _ _ _ _ (ins_upd R2 hn ha hC hH en hx (RD.move m2 _ _ hv)) k⟩) w⟩
theorem rs_faug (o : SOk X G B K Φ Γ fs) {ob e : Expr} {f : Str} {op : Operator} {pos pos' : Pos} {wo : VE → VH → (Op → VE → VH → Prop) → Prop} {we : VE → VH → QE → Prop} (mo : ∀ env vh (Q Q' : Op → VE → VH → Prop), (∀ x e h, Q x e h → Q' x e h) → wo env vh Q → wo env vh Q')
    (me : ∀ env vh (Q Q' : QE), (∀ x e h, Q x e h → Q' x e h) → we env vh Q → we env vh Q') (ho : PE X ob (tO G B wo)) (he : PE X e (tD G B we)) (hf : pfN f ∈ fs) :
    PS X (.AugAssign (.Attribute ob f pos') op e pos) (tS G B fun V env vh => wo env vh fun oo e1 h1 => ∃ n c ns xs, oo.raw e1 = some (.ref n) ∧ h1[n]? = some (.ins c ns xs) ∧ ∃ y, fldD f ns xs = some y ∧
      we e1 h1 fun z e2 h2 => wpAug op y z.d fun r => ∃ ns2 xs2, h2[n]? = some (.ins c ns2 xs2) ∧ ns2.length ≤ 100 ∧ V.nx e2 (h2.set n (.ins c (putN f ns2) (putX f r ns2 xs2)))) :=
  (ps_fldaug ho he (fun pins s σ H x y u v Q I r1 r2 h => ip_d (G := G) op pins s σ H x y u v Q I r1 r2 h)).imp fun D σ H ⟨ρ, env, vh, V, R, vd, w⟩ => ⟨[], ρ, env, vh, R, mo _ _ _ _ (fun oo e1 h1 ⟨n, c, ns, xs, hr, hn, y, hy, z⟩ ρ1 v1 H1 m1 R1 ov => by
    obtain ⟨a, C, dx, ws, rfl, ha, hC, hH, en, hx⟩ := op_ins R1 ov hr hn
    obtain ⟨cl, na⟩ := o.ic f hf c C hC
    subst en
    obtain ⟨u, lu, hu⟩ := fld_look hx hy
    refine ⟨a, C, dx, ws, u, rfl, hH, cl, na, lu, [], ρ1, e1, h1, R1, me _ _ _ _ (fun zz e2 h2 q ρ2 v2 H2 r => ?_) z⟩
    obtain ⟨m2, R2, hv2⟩ := r.d
    have mono : ∀ {Q Q' : _root_.R.D → Prop}, (∀ x, Q x → Q' x) → wpAug op y zz.d Q → wpAug op y zz.d Q' := fun {Q Q'} f h => by
      unfold wpAug at *
      split at h <;> first | exact f _ h | exact h
    refine ⟨_, ρ2, y, zz.d, (RD.move m2 _ _ hu).w, hv2.w, mono (fun r ⟨ns2, xs2, hn2, hl2, k⟩ v3 H3 sm hr3 => ?_) q⟩
    have R3 := R2.grow sm
    have ha2 := m2.pre n a ha
    obtain ⟨C2, dx2, ws2, vs2, hC2, hH2, en2, ev2, hx2⟩ := R3.ob n _ a hn2 ha2
    have eC : C2 = C := by
      rw [hC] at hC2
      exact (Option.some.inj hC2).symm
    subst eC ev2
    have hwl : ws2.length = ns2.length := by rw [← en2, List.length_map]
    exact ⟨dx2, ws2, hH2, by omega, vd.nx _ _ _ _ _ (ins_upd R3 hn2 ha2 hC hH2 en2 hx2 hr3) k⟩) w⟩
theorem rs_aug (o : SOk X G B K Φ Γ fs) {i : Nat} {x : Str} {e : Expr} {op : Operator} {pos pos' : Pos} {we : VE → VH → QE → Prop} (me : ∀ env vh (Q Q' : QE), (∀ x e h, Q x e h → Q' x e h) → we env vh Q → we env vh Q') (hi : X.N[i]? = some x) (hx : Loc X.env.scope x) (he : PE X e (tD G B we)) :
    PS X (.AugAssign (.Name x pos') op e pos) (tS G B fun V env vh => match env[i]? with
      | some (.val c) => we env vh fun y e1 h1 => wpAug op c y.d fun z => V.nx (e1.set i (.val z)) h1
      | _ => False) :=
  (ps_aug o.nd hi hx he (ip_d (G := G) op) (.inl (o.fnT x))).imp fun D σ H ⟨ρ, env, vh, V, R, vd, w⟩ => by
    dsimp only at w
    split at w
    · rename_i c hc
      obtain ⟨v, e, hv⟩ := R.st i _ hc
      refine ⟨v, e, [], ρ, env, vh, R, me _ _ _ _ (fun y e1 h1 z ρ' u H' r => ?_) w⟩
      obtain ⟨m, R', hu⟩ := r.d
      have mono : ∀ {Q Q' : _root_.R.D → Prop}, (∀ x, Q x → Q' x) → wpAug op c y.d Q → wpAug op c y.d Q' := fun {Q Q'} f h => by
        unfold wpAug at *
        split at h <;> first | exact f _ h | exact h
      exact ⟨_, ρ', c, y.d, (RD.move m _ _ hv).w, hu.w, mono (fun zz q vv H2 sm hz => vd.nx _ _ _ _ _ ((R'.grow sm).setVal hz) q) z⟩
    · exact w.elim
theorem set_sh {n : Nat} {k x : R.D} {Q : VH → Prop} {a kv xv : V} {D : Hp → Prop} (R : Rel G B T ρ env vh σ H) (ha : RD G (ZZ B.F T ρ env σ) ρ H (.ref n) a) (hk : RD G (ZZ B.F T ρ env σ) ρ H k kv) (hx : RD G (ZZ B.F T ρ env σ) ρ H x xv) (w : setSh n k x vh Q)
    (f : ∀ vh' H', Rel G B T ρ env vh' σ H' → Q vh' → D H') : rSetL a kv xv H D := by
  obtain ⟨p, hp, rfl⟩ := ha
  unfold setSh at w
  split at w
  · rename_i xs j hn
    cases (show kv = _ from hk)
    obtain ⟨m, hm, q⟩ := w
    obtain ⟨vs, h1, h2⟩ := R.ob n _ p hn hp
    have hz : ZZ B.F T ρ env σ p := .inr (.inr (.inl (List.mem_of_getElem? hp)))
    have mu : Mv (ZZ B.F T ρ env σ) ρ H (ZZ B.F T ρ env σ) ρ (upd H p (.lst (vs.set m xv))) := Mv.upd hz h1 trivial
    refine ⟨p, vs, j, m, rfl, rfl, h1, by rw [← h2.length]; exact hm, f _ _ (R.shUpd hn hp trivial (o' := .lst (xs.set m x)) ⟨_, upd_same, ?_⟩) q⟩
    exact RDs.set m (RDs.move mu _ _ h2) (RD.move mu _ _ hx)
  · exact w.elim
theorem set_op {oo : Op} {k x : R.D} {Q : VE → VH → Prop} {a kv xv : V} {D : Hp → Prop} (R : Rel G B T ρ env vh σ H) (ha : OpV G (ZZ B.F T ρ env σ) ρ H σ oo a) (hk : RD G (ZZ B.F T ρ env σ) ρ H k kv) (hx : RD G (ZZ B.F T ρ env σ) ρ H x xv) (w : wpSet oo k x env vh Q)
    (f : ∀ env' vh' H', Rel G B T ρ env' vh' σ H' → Q env' vh' → D H') : rSetL a kv xv H D := by
  cases oo with
  | dat d =>
    cases d with
    | ref n => exact set_sh R ha hk hx w fun vh' H' R' q => f _ _ _ R' q
    | _ => exact (show False from w).elim
  | slt i =>
    have ha : σ[i]? = some (some a) := ha
    unfold wpSet at w
    dsimp only at w
    split at w
    · rename_i n hs
      obtain ⟨v, e, hv⟩ := R.st i _ hs
      rw [ha] at e
      cases e
      exact set_sh R hv hk hx w fun vh' H' R' q => f _ _ _ R' q
    · rename_i xs j hs
      cases (show kv = _ from hk)
      obtain ⟨m, hm, q⟩ := w
      obtain ⟨p, vs, e, h1, h2⟩ := R.st i _ hs
      rw [ha] at e
      cases e
      have hz : ZZ B.F T ρ env σ p := .inr (.inr (.inr ⟨i, _, hs, ha⟩))
      have mu : Mv (ZZ B.F T ρ env σ) ρ H (ZZ B.F T ρ env σ) ρ (upd H p (.lst (vs.set m xv))) := Mv.upd hz h1 trivial
      exact ⟨p, vs, j, m, rfl, rfl, h1, by rw [← h2.length]; exact hm, f _ _ _ (R.ownUpd hs ha h1 (RDs.set m h2 hx)) q⟩
    · exact w.elim
theorem rs_sidx (o : SOk X G B K Φ Γ fs) {a i e : Expr} {tpos pos : Pos} {wo : VE → VH → (Op → VE → VH → Prop) → Prop} {wi we : VE → VH → QE → Prop} (mo : ∀ env vh (Q Q' : Op → VE → VH → Prop), (∀ x e h, Q x e h → Q' x e h) → wo env vh Q → wo env vh Q')
    (mi : ∀ env vh (Q Q' : QE), (∀ x e h, Q x e h → Q' x e h) → wi env vh Q → wi env vh Q') (me : ∀ env vh (Q Q' : QE), (∀ x e h, Q x e h → Q' x e h) → we env vh Q → we env vh Q')
    (ho : PE X a (tO G B wo)) (hi : PE X i (tD G B wi)) (he : PE X e (tD G B we))
    (ha : ∀ v, assign (.Subscript a i tpos) X.env v = (do
      let ov ← holding [v] (eval a X.env)
      let iv ← holding [v, ov] (eval i X.env)
      standAt tpos
      holding [v, ov, iv] (setItem ov iv v)
      release [v, ov, iv] []))
    (hs : swapsWithSole [.Subscript a i tpos] e pos.line X.env = pure false) (hw : swappedStores [.Subscript a i tpos] e X.env = pure none) (h1 : (assignEach [.Subscript a i tpos] X.env).map (·.2) = [assign (.Subscript a i tpos) X.env]) :
    PS X (.Assign [.Subscript a i tpos] e pos) (tS G B fun V env vh => we env vh fun x e1 h1 => wo e1 h1 fun oo e2 h2 => wi e2 h2 fun ix e3 h3 => wpSet oo ix.d x.d e3 h3 V.nx) :=
  (ps_asg he (pg_sub ho hi set_list ha) hs hw h1).imp fun D σ H ⟨ρ, env, vh, V, R, vd, w⟩ => ⟨[], ρ, env, vh, R, me _ _ _ _ (fun x e1 h1 z ρ' v H' r => by
    obtain ⟨m, R', hv⟩ := r.d
    refine ⟨[], ρ', e1, h1, R', mo _ _ _ _ (fun oo e2 h2 z ρ2 a H2 m2 R2 hoo => ?_) z⟩
    refine ⟨[], ρ2, e2, h2, R2, mi _ _ _ _ (fun ix e3 h3 z ρ3 iv H3 r3 => ?_) z⟩
    obtain ⟨m3, R3, hi⟩ := r3.d
    exact set_op R3 (hoo.move m3) hi (RD.move (m2.trans m3) _ _ hv) z fun env' vh' H' R' q => vd.nx _ _ _ _ _ R' q) w⟩

/-! ### append -/
theorem is_ls {oo : Op} {a : V} (R : Rel G B T ρ env vh σ H) (ha : OpV G (ZZ B.F T ρ env σ) ρ H σ oo a) (w : isLs oo env vh) : tyV X.K "list" a H := by
  have sh : ∀ {n : Nat} {a : V}, RD G (ZZ B.F T ρ env σ) ρ H (.ref n) a → (∃ xs, vh[n]? = some (.lst xs)) → tyV X.K "list" a H := fun {n a} h ⟨xs, hn⟩ => by
    obtain ⟨p, hp, rfl⟩ := h
    obtain ⟨vs, h1, h2⟩ := R.ob n _ p hn hp
    exact .inl ⟨rfl, vs, .of h1⟩
  cases oo with
  | dat d =>
    cases d with
    | ref n => exact sh ha w
    | _ => exact (show False from w).elim
  | slt i =>
    have ha : σ[i]? = some (some a) := ha
    unfold isLs at w
    dsimp only at w
    split at w
    · rename_i n hs
      obtain ⟨v, e, hv⟩ := R.st i _ hs
      rw [ha] at e
      cases e
      exact sh hv w
    · rename_i xs hs
      obtain ⟨p, vs, e, h1, h2⟩ := R.st i _ hs
      rw [ha] at e
      cases e
      exact .inl ⟨rfl, vs, .of h1⟩
    · exact w.elim
theorem app_sh {n : Nat} {x : R.D} {Q : VH → Prop} {a xv : V} {D : VK} (R : Rel G B T ρ env vh σ H) (ha : RD G (ZZ B.F T ρ env σ) ρ H (.ref n) a) (hx : RD G (ZZ B.F T ρ env σ) ρ H x xv) (w : appSh n x vh Q)
    (f : ∀ vh' H', Rel G B T ρ env vh' σ H' → Q vh' → D .non H') : rAppend a [xv] H D := by
  obtain ⟨p, hp, rfl⟩ := ha
  unfold appSh at w
  split at w
  · rename_i xs hn
    obtain ⟨hl, q⟩ := w
    obtain ⟨vs, h1, h2⟩ := R.ob n _ p hn hp
    have hz : ZZ B.F T ρ env σ p := .inr (.inr (.inl (List.mem_of_getElem? hp)))
    have mu : Mv (ZZ B.F T ρ env σ) ρ H (ZZ B.F T ρ env σ) ρ (upd H p (.lst (vs ++ [xv]))) := Mv.upd hz h1 trivial
    refine ⟨p, vs, xv, rfl, rfl, h1, by rw [sizeLine_eq, ← h2.length]; exact hl, f _ _ (R.shUpd hn hp trivial (o' := .lst (xs ++ [x])) ⟨_, upd_same, ?_⟩) q⟩
    exact RDs.append (RDs.move mu _ _ h2) (.one (RD.move mu _ _ hx))
  · exact w.elim
theorem app_op {oo : Op} {x : R.D} {Q : VE → VH → Prop} {a xv : V} {D : VK} (R : Rel G B T ρ env vh σ H) (ha : OpV G (ZZ B.F T ρ env σ) ρ H σ oo a) (hx : RD G (ZZ B.F T ρ env σ) ρ H x xv) (w : wpApp oo x env vh Q)
    (f : ∀ env' vh' H', Rel G B T ρ env' vh' σ H' → Q env' vh' → D .non H') : rAppend a [xv] H D := by
  cases oo with
  | dat d =>
    cases d with
    | ref n => exact app_sh R ha hx w fun vh' H' R' q => f _ _ _ R' q
    | _ => exact (show False from w).elim
  | slt i =>
    have ha : σ[i]? = some (some a) := ha
    unfold wpApp at w
    dsimp only at w
    split at w
    · rename_i n hs
      obtain ⟨v, e, hv⟩ := R.st i _ hs
      rw [ha] at e
      cases e
      exact app_sh R hv hx w fun vh' H' R' q => f _ _ _ R' q
    · rename_i xs hs
      obtain ⟨hl, q⟩ := w
      obtain ⟨p, vs, e, h1, h2⟩ := R.st i _ hs
      rw [ha] at e
      cases e
      exact ⟨p, vs, xv, rfl, rfl, h1, by rw [sizeLine_eq, ← h2.length]; exact hl, f _ _ _ (R.ownUpd hs ha h1 (RDs.append h2 (.one hx))) q⟩
    · exact w.elim
theorem rs_app (o : SOk X G B K Φ Γ fs) {a e : Expr} {apos cpos pos : Pos} {wo : VE → VH → (Op → VE → VH → Prop) → Prop} {we : VE → VH → QE → Prop} (mo : ∀ env vh (Q Q' : Op → VE → VH → Prop), (∀ x e h, Q x e h → Q' x e h) → wo env vh Q → wo env vh Q')
    (me : ∀ env vh (Q Q' : QE), (∀ x e h, Q x e h → Q' x e h) → we env vh Q → we env vh Q') (ho : PE X a (tO G B wo)) (he : PE X e (tD G B we))
    (hbase : attributeBase a "append" X.env (eval a X.env) = eval a X.env) (hline : (apos.endLine == cpos.line) = true) (hs1 : starEach [e] X.env = (false, eval e X.env) :: starEach [] X.env) :
    PS X (.Expr (.Call (.Attribute a "append" apos) [e] [] cpos) pos) (tS G B fun V env vh => wo env vh fun oo e1 h1 => isLs oo e1 h1 ∧ we e1 h1 fun x e2 h2 => wpApp oo x.d e2 h2 V.nx) := by
  have pe := pe_bm PySem.F.plainAttrs_list PySem.F.slot_list_append PySem.F.type_list_append mt_append ho (pa_cons he pa_nil hs1) hbase (by rw [hs1]; rfl) hline hs1 rfl
  refine (ps_expr pe rfl).imp fun D σ H ⟨ρ, env, vh, V, R, vd, w⟩ => ⟨[], ρ, env, vh, R, mo _ _ _ _ (fun oo e1 h1 ⟨il, z⟩ ρ1 a H1 m1 R1 hoo => ?_) w⟩
  refine ⟨is_ls R1 hoo il, [], ρ1, e1, h1, R1, me _ _ _ _ (fun x e2 h2 z ρ2 v H2 r2 => ?_) z⟩
  obtain ⟨m2, R2, hv⟩ := r2.d
  exact app_op (D := fun _ H => D.nx σ H) R2 (hoo.move m2) hv z fun env' vh' H' R' q => vd.nx _ _ _ _ _ R' q

/-! ### extend -/
def rExtA (K : PySem.W.Frag) : V → List V → Hp → VK → Prop := fun x vs H Q => ∃ l b xs zs, x = .ref l ∧ vs = [.ref b] ∧ H l = some (.lst xs) ∧ (SqT K H b zs ∨ H b = some (.lst zs)) ∧ xs.length + zs.length ≤ sizeLine ∧ Q .non (upd H l (.lst (xs ++ zs)))
theorem mt_extA {X : Cx} : MtM X "list.extend" (rExtA X.K) := by
  intro pins s σ H x vs v us Q I rx rv h
  obtain ⟨l, b, xs, zs, rfl, rfl, hH, hB | hB, hz, q⟩ := h
  · cases rx
    obtain ⟨u, rfl, ru⟩ := rv.one
    cases ru
    obtain ⟨z, its, n, r, hl, e⟩ := I.lstM hH
    obtain ⟨its2, r2, ⟨⟨cls, dd, data, sl⟩, ho, hc, n2, hd⟩, hzz⟩ := I.tuple hB
    simp only at hc hd
    subst hc hd
    have hl2 : its2.length = zs.length := (Vals.length r2).symm
    have hsz : its.toArray.size + its2.toArray.size ≤ sizeLine := by rw [List.size_toArray, List.size_toArray]; omega
    have hlong : ¬ (!its.toArray.isEmpty && Builtin.List.listTooLong (its.toArray.size + its2.toArray.size)) = true := by
      rw [notLongL hsz, Bool.and_false]
      exact Bool.false_ne_true
    refine call_meets F.slot_list_extend ⟨_, e, rfl⟩ F.entry_list_extend (F.args_list_extend_2 _ _)
      (list_extend_tup l its.toArray n b its2.toArray n2 dd sl hlong (by rw [List.size_toArray]; omega) (by omega)) ⟨e, ho, ?_⟩
    refine ⟨.non, _, I.lset (its' := its ++ its2) hH e (by simp) (r.append r2) ?_, rfl, q⟩
    rw [List.length_append]
    omega
  · exact mt_extend pins s σ H _ _ v us Q I rx rv ⟨l, b, xs, zs, rfl, rfl, hH, hB, hz, q⟩
theorem ext_seq {K : PySem.W.Frag} (hK : K = G.K) {x : R.D} {ys : List R.D} {v : V} {Z : Addr → Prop} (hx : RD G Z ρ H x v) (e : seqD x = some ys) : ∃ b zs, v = .ref b ∧ (SqT K H b zs ∨ H b = some (.lst zs)) ∧ RDs G Z ρ H ys zs := by
  cases x with
  | tup xs =>
    cases e
    obtain ⟨a, vs, rfl, h1, h2⟩ := hx
    exact ⟨a, vs, rfl, .inl (by rw [hK]; exact h1), h2⟩
  | lst xs =>
    cases e
    obtain ⟨a, vs, rfl, _, h1, h2⟩ := hx
    exact ⟨a, vs, rfl, .inr h1, h2⟩
  | _ => cases e
theorem ext_sh {K : PySem.W.Frag} {n : Nat} {ys : List R.D} {Q : VH → Prop} {a : V} {b : Addr} {zs : List V} {D : VK} (R : Rel G B T ρ env vh σ H) (ha : RD G (ZZ B.F T ρ env σ) ρ H (.ref n) a) (hb : SqT K H b zs ∨ H b = some (.lst zs)) (hx : RDs G (ZZ B.F T ρ env σ) ρ H ys zs) (w : extSh n ys vh Q)
    (f : ∀ vh' H', Rel G B T ρ env vh' σ H' → Q vh' → D .non H') : rExtA K a [.ref b] H D := by
  obtain ⟨p, hp, rfl⟩ := ha
  unfold extSh at w
  split at w
  · rename_i xs hn
    obtain ⟨hl, q⟩ := w
    obtain ⟨vs, h1, h2⟩ := R.ob n _ p hn hp
    have hz : ZZ B.F T ρ env σ p := .inr (.inr (.inl (List.mem_of_getElem? hp)))
    have mu : Mv (ZZ B.F T ρ env σ) ρ H (ZZ B.F T ρ env σ) ρ (upd H p (.lst (vs ++ zs))) := Mv.upd hz h1 trivial
    refine ⟨p, b, vs, zs, rfl, rfl, h1, hb, by rw [sizeLine_eq, ← h2.length, ← hx.length]; exact hl, f _ _ (R.shUpd hn hp trivial (o' := .lst (xs ++ ys)) ⟨_, upd_same, ?_⟩) q⟩
    exact RDs.append (RDs.move mu _ _ h2) (RDs.move mu _ _ hx)
  · exact w.elim
theorem ext_op {K : PySem.W.Frag} {oo : Op} {ys : List R.D} {Q : VE → VH → Prop} {a : V} {b : Addr} {zs : List V} {D : VK} (R : Rel G B T ρ env vh σ H) (ha : OpV G (ZZ B.F T ρ env σ) ρ H σ oo a) (hb : SqT K H b zs ∨ H b = some (.lst zs)) (hx : RDs G (ZZ B.F T ρ env σ) ρ H ys zs) (w : wpExt oo ys env vh Q)
    (f : ∀ env' vh' H', Rel G B T ρ env' vh' σ H' → Q env' vh' → D .non H') : rExtA K a [.ref b] H D := by
  cases oo with
  | dat d =>
    cases d with
    | ref n => exact ext_sh R ha hb hx w fun vh' H' R' q => f _ _ _ R' q
    | _ => exact (show False from w).elim
  | slt i =>
    have ha : σ[i]? = some (some a) := ha
    unfold wpExt at w
    dsimp only at w
    split at w
    · rename_i n hs
      obtain ⟨v, e, hv⟩ := R.st i _ hs
      rw [ha] at e
      cases e
      exact ext_sh R hv hb hx w fun vh' H' R' q => f _ _ _ R' q
    · rename_i xs hs
      obtain ⟨hl, q⟩ := w
      obtain ⟨p, vs, e, h1, h2⟩ := R.st i _ hs
      rw [ha] at e
      cases e
      exact ⟨p, b, vs, zs, rfl, rfl, h1, hb, by rw [sizeLine_eq, ← h2.length, ← hx.length]; exact hl, f _ _ _ (R.ownUpd hs ha h1 (RDs.append h2 hx)) q⟩
    · exact w.elim
theorem rs_ext (o : SOk X G B K Φ Γ fs) {a e : Expr} {apos cpos pos : Pos} {wo : VE → VH → (Op → VE → VH → Prop) → Prop} {we : VE → VH → QE → Prop} (mo : ∀ env vh (Q Q' : Op → VE → VH → Prop), (∀ x e h, Q x e h → Q' x e h) → wo env vh Q → wo env vh Q')
    (me : ∀ env vh (Q Q' : QE), (∀ x e h, Q x e h → Q' x e h) → we env vh Q → we env vh Q') (ho : PE X a (tO G B wo)) (he : PE X e (tD G B we))
    (hbase : attributeBase a "extend" X.env (eval a X.env) = eval a X.env) (hline : (apos.endLine == cpos.line) = true) (hs1 : starEach [e] X.env = (false, eval e X.env) :: starEach [] X.env) :
    PS X (.Expr (.Call (.Attribute a "extend" apos) [e] [] cpos) pos) (tS G B fun V env vh => wo env vh fun oo e1 h1 => isLs oo e1 h1 ∧ we e1 h1 fun x e2 h2 => ∃ ys, seqD x.d = some ys ∧ wpExt oo ys e2 h2 V.nx) := by
  have pe := pe_bm PySem.F.plainAttrs_list PySem.F.slot_list_extend PySem.F.type_list_extend mt_extA ho (pa_cons he pa_nil hs1) hbase (by rw [hs1]; rfl) hline hs1 rfl
  refine (ps_expr pe rfl).imp fun D σ H ⟨ρ, env, vh, V, R, vd, w⟩ => ⟨[], ρ, env, vh, R, mo _ _ _ _ (fun oo e1 h1 ⟨il, z⟩ ρ1 a H1 m1 R1 hoo => ?_) w⟩
  refine ⟨is_ls R1 hoo il, [], ρ1, e1, h1, R1, me _ _ _ _ (fun x e2 h2 ⟨ys, ey, z⟩ ρ2 v H2 r2 => ?_) z⟩
  obtain ⟨m2, R2, hv⟩ := r2.d
  obtain ⟨b, zs, rfl, hb, hys⟩ := ext_seq (K := X.K) o.hK hv ey
  exact ext_op (D := fun _ H => D.nx σ H) R2 (hoo.move m2) hb hys z fun env' vh' H' R' q => vd.nx _ _ _ _ _ R' q

/-! ### if, for, while -/
theorem rs_cond {c : Expr} {a b : List Stmt} {pos : Pos} {wc : VE → VH → QE → Prop} {wa wb : VEnds → VE → VH → Prop} (mc : ∀ env vh (Q Q' : QE), (∀ x e h, Q x e h → Q' x e h) → wc env vh Q → wc env vh Q') (hc : PT X c (tB G B wc)) (ha : PSs X a (tS G B wa)) (hb : PSs X b (tS G B wb)) :
    PS X (.If c a b pos) (tS G B fun V env vh => wc env vh fun x e1 h1 => match x with
      | .v (.bl k) => ifP k (wa V e1 h1) (wb V e1 h1)
      | _ => False) :=
  (ps_if hc ha hb).imp fun D σ H ⟨ρ, env, vh, V, R, vd, w⟩ => ⟨[], ρ, env, vh, R, mc _ _ _ _ (fun x e1 h1 z => by
    split at z
    · rename_i k
      refine ⟨k, rfl, fun ρ' H' m R' => ?_⟩
      cases k with
      | true => exact L2.iteT ⟨ρ', e1, h1, V, R', vd, z⟩
      | false => exact L2.iteF ⟨ρ', e1, h1, V, R', vd, z⟩
    · exact z.elim) w⟩
theorem rs_for (o : SOk X G B K Φ Γ fs) (hc : hotN ∉ fs) {tg iter : Expr} {body : List Stmt} {pos : Pos} {tgI : Tg} {wi : VE → VH → (List R.D → (VH → Prop) → VE → VH → Prop) → Prop} {wb : VEnds → VE → VH → Prop}
    (mi : ∀ env vh (Q Q' : List R.D → (VH → Prop) → VE → VH → Prop), (∀ x s e h, Q x s e h → Q' x s e h) → wi env vh Q → wi env vh Q')
    (hi : PI X tg iter (iD G B wi)) (hg : PG X tg (gOf G.K tgI)) (hb : ∀ B, SOk X G B K Φ Γ fs → PSs X body (tS G B wb)) (hs : ∀ x, foldedSetIterable iter X.env x = pure x) :
    PS X (.For tg iter body [] pos) (tS G B fun V env vh => wi env vh fun items st e1 h1 => forGo (fun d N e h => st h ∧ ∃ e2, bindT tgI d e = some e2 ∧ wb { V with nx := N, ct := N, bk := V.nx } e2 h) items e1 h1 fun e h => st h ∧ V.nx e h) := by
  have hb' : PSs X body (fun D σ H => ∃ B', SOk X G B' K Φ Γ fs ∧ tS G B' wb D σ H) := ⟨fun pins s σ H D I ⟨B', o', z⟩ => (hb B' o').run pins s σ H D I z⟩
  refine (ps_for o.po (o.calm hc) hi hg hb' hs).imp ?_
  rintro D σ H ⟨ρ, env, vh, V, R, vd, w⟩
  refine ⟨[], ρ, env, vh, R, mi _ _ _ _ (fun items st e1 h1 go ρ1 H1 J m1 R1 wk => ?_) w⟩
  generalize hturn : (fun (d : _root_.R.D) (N : VE → VH → Prop) (e : VE) (h : VH) => st h ∧ ∃ e2, bindT tgI d e = some e2 ∧ wb { V with nx := N, ct := N, bk := V.nx } e2 h) = turn at go
  let Pv : Nat → L2.St → Hp → Prop := fun i σ' H' => ∃ ρ' e h, Rel G (B.now [] ρ1 e1 σ H1) [] ρ' e h σ' H' ∧ forGo turn (items.drop i) e h fun e h => st h ∧ V.nx e h
  refine ⟨fun i m σ' H' => m = items.length - i ∧ i ≤ items.length ∧ Pv i σ' H', ⟨items.length, by simp, Nat.zero_le _, ρ1, e1, h1, R1.rebase, go⟩, ?_⟩
  rintro i m σ' H' ⟨rfl, hil, ρ', e, h, S, go'⟩
  have m' := R1.moved S
  by_cases hlt : i < items.length
  · have hdrop0 : items.drop i = items[i] :: items.drop (i + 1) := List.drop_eq_getElem_cons hlt
    have hst : st h := by
      rw [hdrop0] at go'
      subst hturn
      exact go'.1
    refine .inr ⟨wk.go i _ ρ' H' h m' S.ob hst hlt, Pv (i + 1), fun σ'' H'' p' => ⟨items.length - (i + 1), by omega, rfl, hlt, p'⟩, fun x H2 y => ?_⟩
    obtain ⟨d, hd, sm, hx⟩ := wk.yld i _ ρ' H' h x H2 m' S.ob hst hlt y
    have hdrop : items.drop i = d :: items.drop (i + 1) := by
      rw [List.drop_eq_getElem_cons hlt]
      rw [List.getElem?_eq_getElem hlt] at hd
      rw [Option.some.inj hd]
    rw [hdrop] at go'
    subst hturn
    obtain ⟨_, e2, hbd, wbd⟩ := go'
    refine bind_ok (S.grow sm) hx hbd fun σ2 R2 _ _ => ⟨_, o.now hc R1, ρ', e2, h, { V with nx := fun e h => forGo _ (items.drop (i + 1)) e h fun e h => st h ∧ V.nx e h, ct := fun e h => forGo _ (items.drop (i + 1)) e h fun e h => st h ∧ V.nx e h, bk := V.nx }, R2, ⟨fun ρ3 e3 h3 σ3 H3 R3 z => ⟨ρ3, e3, h3, R3, z⟩, fun x v ρ3 h3 H3 r z => vd.rt _ _ _ _ _ (ResF.unbase R1 r) z, fun ρ3 e3 h3 σ3 H3 R3 z => vd.nx _ _ _ _ _ (R1.unbase R3) z, fun ρ3 e3 h3 σ3 H3 R3 z => ⟨ρ3, e3, h3, R3, z⟩⟩, wbd⟩
  · have ee : i = items.length := by omega
    subst ee
    rw [List.drop_length] at go'
    exact .inl ⟨wk.stop _ ρ' H' h m' S.ob go'.1, vd.nx _ _ _ _ _ (R1.unbase S) go'.2⟩
theorem rs_whl (o : SOk X G B K Φ Γ fs) {c : Expr} {body : List Stmt} {pos : Pos} {wc : VE → VH → QE → Prop} {wb : VEnds → VE → VH → Prop} (mc : ∀ env vh (Q Q' : QE), (∀ x e h, Q x e h → Q' x e h) → wc env vh Q → wc env vh Q') (hc : PT X c (tB G B wc)) (hb : PSs X body (tS G B wb)) :
    PS X (.While c body [] pos) (tS G B fun V env vh => ∃ I : Nat → VE → VH → Prop, (∃ n, I n env vh) ∧ ∀ n env vh, I n env vh → wc env vh fun x e1 h1 => match x with
      | .v (.bl k) => ifP k (wb { V with nx := fun e h => ∃ m, m < n ∧ I m e h, ct := fun e h => ∃ m, m < n ∧ I m e h, bk := V.nx } e1 h1) (V.nx e1 h1)
      | _ => False) :=
  (ps_while o.po hc hb).imp fun D σ H ⟨ρ, env, vh, V, R, vd, I, ⟨n0, i0⟩, step⟩ => by
    refine ⟨fun m σ H => ∃ ρ e h, Rel G B [] ρ e h σ H ∧ I m e h, ⟨n0, ρ, env, vh, R, i0⟩, ?_⟩
    rintro m σ H ⟨ρ, e, h, R, hi⟩
    refine ⟨[], ρ, e, h, R, mc _ _ _ _ (fun x e1 h1 z => ?_) (step m e h hi)⟩
    split at z
    · rename_i k
      refine ⟨k, rfl, fun ρ' H' mv R' => ?_⟩
      cases k with
      | true =>
        refine L2.iteT ⟨fun σ' H' => ∃ ρ e h, Rel G B [] ρ e h σ' H' ∧ ∃ m', m' < m ∧ I m' e h, fun σ' H' ⟨ρ, e, h, R, m', l, i⟩ => ⟨m', l, ρ, e, h, R, i⟩, ?_⟩
        exact ⟨ρ', e1, h1, { V with nx := fun e h => ∃ m', m' < m ∧ I m' e h, ct := fun e h => ∃ m', m' < m ∧ I m' e h, bk := V.nx }, R', ⟨fun ρ3 e3 h3 σ3 H3 R3 z => ⟨ρ3, e3, h3, R3, z⟩, vd.rt, vd.nx, fun ρ3 e3 h3 σ3 H3 R3 z => ⟨ρ3, e3, h3, R3, z⟩⟩, z⟩
      | false => exact L2.iteF (vd.nx _ _ _ _ _ R' z)
    · exact z.elim

/-! ### raise, try -/
theorem XF.moveX {Z Z' : Addr → Prop} {ρ' : List Addr} {H' : Hp} {ns : List Str} {d : Option Addr} {xs : List _root_.R.D} (h : XF G Z ρ H ns d xs) (m : Mv Z ρ H Z' ρ' H') (e : ∀ a u, d = some a → H a = some u → H' a = some u) : XF G Z' ρ' H' ns d xs := by
  cases d with
  | none => exact h
  | some a =>
    obtain ⟨ws, vs, h1, h0, h2, h3⟩ := h
    exact ⟨ws, vs, e a _ rfl h1, h0, h2, RDs.move m _ _ h3⟩
theorem rs_raise0 (o : SOk X G B K Φ Γ fs) (hc : hotN ∉ fs) {c : Str} {C : Addr} {p pos pos' : Pos} (hg : Gl X c) (hC : G.cl c = some C) (hf : G.fl c = []) (T : Ex0 X.K X.mg c C) :
    PS X (.Raise (some (.Call (.Name c p) [] [] pos)) none pos') (tS G B fun V env vh => wpS Φ Γ (.raise c []) K V env vh) :=
  (ps_raise (o.calm hc) o.tk (pmk_own0 T hg)).imp fun D σ H ⟨ρ, env, vh, V, R, vd, w⟩ => ⟨c, C, [], [], ρ, env, vh, hC, rfl, R, ⟨rfl, hf⟩, w⟩
theorem rs_raise1 (o : SOk X G B K Φ Γ fs) (hc : hotN ∉ fs) {c f : Str} {C fI : Addr} {p pos pos' : Pos} {e : Expr} {ir : E} (hg : Gl X c) (hC : G.cl c = some C) (hf : G.fl c = [f]) (T : Ex1 X.K X.mg c f C fI)
    (m : ∀ env vh (Q Q' : List _root_.R.D → VE → VH → Prop), (∀ x e h, Q x e h → Q' x e h) → wpEs Φ Γ [ir] K env vh Q → wpEs Φ Γ [ir] K env vh Q') (ha : PA X [e] (tL G B (wpEs Φ Γ [ir] K)))
    (he : starEach [e] X.env = (false, eval e X.env) :: starEach [] X.env) :
    PS X (.Raise (some (.Call (.Name c p) [e] [] pos)) none pos') (tS G B fun V env vh => wpS Φ Γ (.raise c [ir]) K V env vh) := by
  refine (ps_raise (o.calm hc) o.tk (pmk_low T (o.rm hc) ha hg he rfl)).imp ?_
  rintro D σ H ⟨ρ, env, vh, V, R, vd, w⟩
  refine ⟨[], ρ, env, vh, R, wpE_mono ir K false env vh _ _ (fun x e1 h1 z ρ' vs H' mv R' hv => ?_) (show wpE Φ Γ ir K false env vh fun x e1 h1 => K c [x.d] e1 h1 from w)⟩
  obtain ⟨v, r, rfl, h1', hr⟩ := hv
  cases (show r = [] from hr)
  refine ⟨v, rfl, fun d hd => ?_⟩
  have sm : Same H' (upd H' d (.xd [(f, v)])) := same_new hd
  exact ⟨c, C, [x.d], [], ρ', e1, h1, hC, rfl, R'.grow sm, ⟨[(f, v)], [v], upd_same, by rw [hf]; rfl, rfl, ⟨v, [], rfl, RD.move (Mv.same sm) _ _ h1', rfl⟩⟩, z⟩

/-- a slot of which nothing is known -/
theorem Rel.setNo {i : Nat} {o : Option V} (R : Rel G B T ρ env vh σ H) : Rel G B T ρ (env.set i .no) vh (σ.set i o) H := by
  have hO : ∀ j a, Own (env.set i .no) (σ.set i o) a j → Own env σ a j := fun j a z => by
    rcases Own.of_set z with ⟨_, ds, e, _⟩ | ⟨_, q⟩
    · cases e
    · exact q
  have m : Mv (ZZ B.F T ρ env σ) ρ H (ZZ B.F T ρ (env.set i .no) (σ.set i o)) ρ H := Mv.less fun a z => by
    rcases z with z | z | z | ⟨j, z⟩
    · exact .inl z
    · exact .inr (.inl z)
    · exact .inr (.inr (.inl z))
    · exact .inr (.inr (.inr ⟨j, hO j a z⟩))
  refine R.weak (fun _ h => h) R.tn hO (by simpa using R.sl) fun j s hj => ?_
  rcases set_getE hj with ⟨e, e2⟩ | ⟨ne, q⟩
  · subst e2
    trivial
  · rw [List.getElem?_set_ne (Ne.symm ne)]
    exact (R.st j s q).move m fun _ _ _ _ => rfl
theorem Rel.dropAll (R : Rel G B T ρ env vh σ H) : Rel G B [] ρ env vh σ H :=
  R.weak (fun _ h => by cases h) List.nodup_nil (fun _ _ h => h) R.sl fun i s h => (R.st i s h).move (Mv.less fun b z => by
    rcases z with z | z | z
    · exact .inl z
    · cases z
    · exact .inr (.inr z)) fun _ _ _ _ => rfl
theorem dropAMv : Mv (ZZ B.F T ρ env σ) ρ H (ZZ B.F [] ρ env σ) ρ H := Mv.less fun b z => by
  rcases z with z | z | z
  · exact .inl z
  · cases z
  · exact .inr (.inr z)
theorem VD.off {V : VEnds} {D : Ends} {o : Option Nat} (vd : VD G B V D) : VD G B (offV o V) (dGone o D) := by
  cases o with
  | none => exact vd
  | some i => exact ⟨fun ρ env vh σ H R z => vd.nx _ _ _ _ _ R.setNo z, vd.rt, fun ρ env vh σ H R z => vd.bk _ _ _ _ _ R.setNo z, fun ρ env vh σ H R z => vd.ct _ _ _ _ _ R.setNo z⟩
/-- what is so when a suite begins -/
def tSu (G : Wd) (B : Base) (Φ : Fns) (Γ : Cns) (tb : List (Str × List Str × List Str)) (o : Option Nat) (su : List S) : Addr → Value → Option Addr → TS := fun a cls d D σ H =>
  ∃ c C ns anc xs ρ env vh V, G.cl c = some C ∧ cls = .ref C ∧ tb.lookup c = some (ns, anc) ∧ ns = G.fl c ∧ Rel G B [] ρ (onE o a env) vh σ H ∧ XF G (ZZ B.F [] ρ (onE o a env) σ) ρ H ns d xs ∧ VD G B (offV o V) D ∧
    wpB Φ (errG Γ ns anc xs a) su noX (offV o V) (onE o a env) vh
/-- a clause -/
inductive HsOk (X : Cx) (G : Wd) (B : Base) (Φ : Fns) (Γ : Cns) (tb : List (Str × List Str × List Str)) : List ExceptHandler → List (Str × Option Nat) → List (List S) → Prop
  | nil : HsOk X G B Φ Γ tb [] [] []
  | plain {x : Str} {b₀ : Stmt} {suite : List Stmt} {np pos' : Pos} {hds : List ExceptHandler} {cs : List (Str × Option Nat)} {su : List S} {sus : List (List S)} (hg : Gl X x) (hx : HdX G X.K X.mg tb x)
      (hsu : ∀ (a : Addr) (oe : Obj) (cls : Value) (d : Option Addr) (pn : List (Addr × Obj)), Zc cls d oe → (∃ vs, oe.data = .fields vs) → PSs (X.suite a ((a, oe) :: pn)) (b₀ :: suite) (tSu G B Φ Γ tb none su a cls d)) (r : HsOk X G B Φ Γ tb hds cs sus) :
      HsOk X G B Φ Γ tb (.ExceptHandler (some (.Name x np)) none (b₀ :: suite) pos' :: hds) ((x, none) :: cs) (su :: sus)
  | named {x n : Str} {i : Nat} {b₀ : Stmt} {suite : List Stmt} {np pos' : Pos} {hds : List ExceptHandler} {cs : List (Str × Option Nat)} {su : List S} {sus : List (List S)} (hi : X.N[i]? = some n) (hln : X.env.kindOf n = some .local) (hg : Gl X x) (hx : HdX G X.K X.mg tb x)
      (hsu : ∀ (a : Addr) (oe : Obj) (cls : Value) (d : Option Addr) (pn : List (Addr × Obj)), Zc cls d oe → (∃ vs, oe.data = .fields vs) → PSs (X.suite a ((a, oe) :: pn)) (b₀ :: suite) (tSu G B Φ Γ tb (some i) su a cls d)) (r : HsOk X G B Φ Γ tb hds cs sus) :
      HsOk X G B Φ Γ tb (.ExceptHandler (some (.Name x np)) (some n) (b₀ :: suite) pos' :: hds) ((x, some i) :: cs) (su :: sus)
/-- the clauses' values and readings -/
theorem hs_gen {tb : List (Str × List Str × List Str)} (hK : X.K = G.K) {hds : List ExceptHandler} {cs : List (Str × Option Nat)} {sus : List (List S)} (h : HsOk X G B Φ Γ tb hds cs sus) :
    ∃ l, HdsG X hds l ∧ ∀ (W : WX) (V : VEnds) (D : Ends) (P : Prop) c C ns anc xs T ρ env vh cls d σ H, VD G B V D → G.cl c = some C → cls = .ref C → tb.lookup c = some (ns, anc) → ns = G.fl c → Rel G B T ρ env vh σ H → XF G (ZZ B.F T ρ env σ) ρ H ns d xs →
      wpH Φ Γ ns anc xs cs sus P V env vh → (P → W cls d σ H) → wGen X.K W D l cls d σ H := by
  induction h with
  | nil => exact ⟨[], .nil, fun W V D P c C ns anc xs T ρ env vh cls d σ H _ _ _ _ _ _ _ w k => k w⟩
  | @plain x b₀ suite np pos' hds cs su sus hg hx hsu r ih =>
    obtain ⟨l, h1, h2⟩ := ih
    obtain ⟨hdb, cv, hm, hex⟩ := hx
    refine ⟨(cv, none, tSu G B Φ Γ tb none su) :: l, .plain ⟨hg, hdb, .inl hm⟩ hsu h1, fun W V D P c C ns anc xs T ρ env vh cls d σ H vd hC ec ht hn R xf w k => ?_⟩
    obtain ⟨_, e2⟩ := hex c C hC ns anc ht
    rw [hK] at h2 ⊢
    subst ec
    have e2' : PySem.W.exmOne G.K (.ref C) cv = some (anc.contains x) := by rw [← hK]; exact e2
    have w' : ifP (anc.contains x) (∀ a, wpB Φ (errG Γ ns anc xs a) su noX (offV none V) (onE none a env) vh) (wpH Φ Γ ns anc xs cs sus P V env vh) := w
    refine ⟨_, e2', fun hb a na => ?_, fun hb => ?_⟩
    · rw [hb] at w'
      exact ⟨c, C, ns, anc, xs, ρ, env, vh, V, hC, rfl, ht, hn, R.dropAll, xf.moveX dropAMv fun _ _ _ h => h, vd.off, w' a⟩
    · rw [hb] at w'
      exact h2 W V D P c C ns anc xs T ρ env vh _ d σ H vd hC rfl ht hn R xf w' k
  | @named x n i b₀ suite np pos' hds cs su sus hi hln hg hx hsu r ih =>
    obtain ⟨l, h1, h2⟩ := ih
    obtain ⟨hdb, cv, hm, hex⟩ := hx
    refine ⟨(cv, some i, tSu G B Φ Γ tb (some i) su) :: l, .named hi hln ⟨hg, hdb, .inl hm⟩ hsu h1, fun W V D P c C ns anc xs T ρ env vh cls d σ H vd hC ec ht hn R xf w k => ?_⟩
    obtain ⟨_, e2⟩ := hex c C hC ns anc ht
    rw [hK] at h2 ⊢
    subst ec
    have e2' : PySem.W.exmOne G.K (.ref C) cv = some (anc.contains x) := by rw [← hK]; exact e2
    have w' : ifP (anc.contains x) (∀ a, wpB Φ (errG Γ ns anc xs a) su noX (offV (some i) V) (onE (some i) a env) vh) (wpH Φ Γ ns anc xs cs sus P V env vh) := w
    refine ⟨_, e2', fun hb a na => ?_, fun hb => ?_⟩
    · rw [hb] at w'
      have R2 : Rel G B [] ρ (env.set i (.val (.adr a))) vh (σ.set i (some (.ref a))) H := (R.dropAll).setVal (d := .adr a) (v := .ref a) rfl
      refine ⟨c, C, ns, anc, xs, ρ, env, vh, V, hC, rfl, ht, hn, R2, xf.moveX (dropAMv.trans (setValMv R.dropAll)) fun _ _ _ h => h, vd.off, w' a⟩
    · rw [hb] at w'
      exact h2 W V D P c C ns anc xs T ρ env vh _ d σ H vd hC rfl ht hn R xf w' k
theorem rs_try (o : SOk X G B K Φ Γ fs) {tb : List (Str × List Str × List Str)} {body : List Stmt} {irs : List S} {h₀ : ExceptHandler} {hds : List ExceptHandler} {cs : List (Str × Option Nat)} {sus : List (List S)} {pos : Pos}
    (htb : ∀ c C, G.cl c = some C → ∀ ns anc, tb.lookup c = some (ns, anc) → ns = G.fl c)
    (hb : ∀ (X' : Cx) (K' : XP), X'.N = X.N → X'.env = X.env → X'.K = X.K → X'.mg = X.mg → SOk X' G B K' Φ Γ fs → PSs X' body (tS G B fun V env vh => wpB Φ Γ irs K' V env vh)) (er : hotN ∉ fs)
    (hh : HsOk X G B Φ Γ tb (h₀ :: hds) cs sus) : PS X (.Try body (h₀ :: hds) [] [] pos) (tS G B fun V env vh => wpS Φ Γ (.tryS tb irs cs sus) K V env vh) := by
  obtain ⟨l, hl, hw⟩ := hs_gen o.hK hh
  let KV : VEnds → XP := fun V c xs e h => match tb.lookup c with
    | some (ns, anc) => wpH Φ Γ ns anc xs cs sus (K c xs e h) V e h
    | none => False
  have key := ps_try_gen (X := X) (body := body) (h₀ := h₀) (hds := hds) (l := l) (pos := pos) (Wout := WK G B K)
    (tb := fun W D σ H => ∃ ρ env vh V, Rel G B [] ρ env vh σ H ∧ VD G B V D ∧ (∀ cls d σ H, WK G B (KV V) cls d σ H → W cls d σ H) ∧ wpB Φ Γ irs (KV V) V env vh)
    o.stk o.frm o.nd o.tk (fun W pn xe tk po => ⟨fun pins s σ H D I ⟨ρ, env, vh, V, R, vd, hW, w⟩ => by
      have o' : SOk (X.tr pn xe) G B (KV V) Φ Γ fs :=
        { hK := o.hK, calm := o.calm, nd := o.nd, hu := o.hu, tk := tk.imp hW, fn := o.fn, cn := o.cn, bl := o.bl, mt := o.mt, mkC := o.mkC, ic := o.ic, rm := o.rm, ok := o.ok, er := fun h => absurd h er, po := po, fnT := o.fnT, stk := o.stk, frm := o.frm, exN := o.exN }
      exact (hb (X.tr pn xe) (KV V) rfl rfl rfl rfl o').run pins s σ H D I ⟨ρ, env, vh, V, R, vd, w⟩⟩) hl
  refine key.imp ?_
  rintro D σ H ⟨ρ, env, vh, V, R, vd, w⟩
  refine ⟨ρ, env, vh, V, R, vd, ?_, w⟩
  rintro cls d σ' H' ⟨c, C, xs, T', ρ', env', vh', hC, ec, R', xf, k⟩
  have k : (match tb.lookup c with
    | some (ns, anc) => wpH Φ Γ ns anc xs cs sus (K c xs env' vh') V env' vh'
    | none => False) := k
  cases ht : tb.lookup c with
  | none => rw [ht] at k; exact k.elim
  | some p =>
    obtain ⟨ns, anc⟩ := p
    rw [ht] at k
    have en := htb c C hC ns anc ht
    exact hw (WK G B K) V D (K c xs env' vh') c C ns anc xs T' ρ' env' vh' cls d σ' H' vd hC ec ht en R' (by rw [en]; exact xf) k fun kk => ⟨c, C, xs, T', ρ', env', vh', hC, ec, R', xf, kk⟩
end
end R

set_option autoImplicit false
namespace R
open PySem PySem.Spec PyProof.Rows L2
/-! ## R7: from the text to the small language -/
/-- N: the names of the slots; fs: the defs that may be called -/
structure Tc where
  N : List Str
  fs : List Str
  own : List Str
  sh : List Str
  tb : List (Str × List Str × List Str)
  hs : List Str
  shf : List Str
  nst : Bool
/-- within an except suite -/
def Tc.hot (c : Tc) : Tc := { c with fs := [hotN], own := [], sh := [] }
def cool (c : Tc) : Bool := !decide (hotN ∈ c.fs)
inductive Md where
  | V | O | T
def visB (sc : Scope) (x : Str) : Bool := match sc.names.lookup x with
  | some .local => true
  | some .cell => true
  | some .free => true
  | _ => false
def glB (sc : Scope) (x : Str) : Bool := decide (sc.names.lookup x = some .globalImplicit)
def okNm (x : Str) : Bool := !(x == ("__debug__" : Str)) && !(x == ("__classdict__" : Str))
/-- the slot of a name that may be read -/
def slotOf (c : Tc) (sc : Scope) (x : Str) : Option Nat := if visB sc x && okNm x then (match c.N.idxOf? x with
  | some i => if decide (c.N[i]? = some x) then some i else none
  | none => none) else none
def plainE : Expr → Bool
  | .Starred _ _ => false
  | _ => true
def plainIx : Expr → Bool
  | .Slice _ _ _ _ => false
  | _ => true
def notSet : Expr → Bool
  | .Set _ _ _ => false
  | _ => true
/-- its test is its value's truth -/
def plainT : Expr → Bool
  | .UnaryOp .Not _ _ => false
  | .BoolOp _ _ _ => false
  | .IfExp _ _ _ _ => false
  | .Compare _ _ _ _ => false
  | _ => true
def trL (f : Expr → Option E) : List Expr → Option (List E)
  | [] => some []
  | e :: es => if plainE e then (match f e, trL f es with
    | some a, some b => some (a :: b)
    | _, _ => none) else none
def bfOf (f : Str) (n : Nat) : Option Bf := match n with
  | 1 => [Bf.len, .int, .bool, .str, .tuple, .list, .abs, .sum, .all, .any, .sorted, .min1, .max1].find? fun g => decide (bltN g = f)
  | 2 => [Bf.min2, .max2].find? fun g => decide (bltN g = f)
  | _ => none
def tyOf (sc : Scope) : Expr → Option String
  | .Name x _ => match (["int", "bool", "str", "tuple", "list", "dict"] : List String).find? (fun n => decide (Str.ofString n = x)) with
    | some n => if glB sc x && okTy n then some n else none
    | none => none
  | _ => none
def tysOf' (sc : Scope) : List Expr → Option (List String)
  | [] => some []
  | e :: es => match tyOf sc e, tysOf' sc es with
    | some a, some b => some (a :: b)
    | _, _ => none
/-- a finished value's form: fin -/
def finK : E → Bool
  | .non => true
  | .bl _ => true
  | .int _ => true
  | .str _ => true
  | .glo _ => true
  | .tup _ => true
  | .lst _ => true
  | .bin _ _ _ => true
  | .neg _ => true
  | .idx _ _ => true
  | .sli _ _ _ => true
  | .call _ _ => true
  | .blt _ _ => true
  | .isi _ _ => true
  | .lc _ _ _ _ _ _ => true
  | .attr _ _ => true
  | .dct _ _ => true
  | .fld _ _ => true
  | .meth _ _ _ => true
  | .mk _ _ => true
  | .shr _ => true
  | _ => false
def noCall : Expr → Bool
  | .Call _ _ _ _ => false
  | _ => true
theorem attr_no {a : Expr} {m : Str} {env : Env} {w : Sem Value} (h : noCall a = true) : attributeBase a m env w = w := by
  cases a <;> first | rfl | cases h
/-- a new list -/
def isNewL : Expr → Bool
  | .List _ _ => true
  | .ListComp _ _ _ _ => true
  | .Call (.Name x _) _ _ _ => decide (x = ("list" : Str))
  | _ => false
def isFresh : Expr → Bool
  | .List _ _ => true
  | .ListComp _ _ _ _ => true
  | .BinOp _ _ _ _ => true
  | .Call _ _ _ _ => true
  | .Subscript _ (.Slice _ _ _ _) _ => true
  | _ => false
def shrIf (b : Bool) (x : Option E) : Option E := match b with
  | true => x.map .shr
  | false => x
/-- an item of a new list: shared if it is a new list -/
def trSh (c : Tc) (f : Expr → Option E) (e : Expr) : Option E := shrIf (c.nst && isNewL e) (f e)
/-- the names of a comprehension's own -/
def ownOf (N : List Str) (scope : Scope) : List (Str × Nat) := scope.names.filterMap fun y => match y.2 with
  | .local => (N.idxOf? y.1).map fun i => (y.1, i)
  | .cell => (N.idxOf? y.1).map fun i => (y.1, i)
  | _ => none
/-- a name that may be written; cl: the cells that are the block's own -/
def wrIx (c : Tc) (sc : Scope) (cl : Str → Bool) (x : Str) : Option Nat := match c.N.idxOf? x with
  | some i => if decide (c.N[i]? = some x) && (decide (sc.names.lookup x = some .local) || (decide (sc.names.lookup x = some .cell) && cl x)) then some i else none
  | none => none
def wrIxs (c : Tc) (sc : Scope) (cl : Str → Bool) : List Expr → Option (List Nat)
  | [] => some []
  | .Name x _ :: es => match wrIx c sc cl x, wrIxs c sc cl es with
    | some i, some is => some (i :: is)
    | _, _ => none
  | _ :: _ => none
def trTg (c : Tc) (sc : Scope) (cl : Str → Bool) : Expr → Option Tg
  | .Name x _ => match wrIx c sc cl x with
    | some i => some (.one i)
    | none => none
  | .Tuple es _ _ => match wrIxs c sc cl es with
    | some is => some (.many is)
    | none => none
  | _ => none
def isBor : E → Bool
  | .bor _ => true
  | _ => false
def noBor (e : Option E) : Option E := match e with
  | some e => if isBor e then none else some e
  | none => none
def guardO {α : Type} (b : Bool) (x : Option α) : Option α := match b with
  | true => x
  | false => none
/-- what is gone through -/
def isTup : Expr → Bool
  | .Tuple _ _ _ => true
  | _ => false
def trRg (f : Expr → Option E) (args : List Expr) : Option (Ik × List E) := match args with
  | [a] => (trL f [a]).map fun es => (.rng1, es)
  | [a, b] => (trL f [a, b]).map fun es => (.rng2, es)
  | [a, b, c] => (trL f [a, b, c]).map fun es => (.rng3, es)
  | _ => none
/-- a name or attribute of a shared list -/
def isSh (c : Tc) : Expr → Bool
  | .Name x _ => c.sh.contains x
  | .Attribute _ m _ => c.shf.contains m && decide (pfN m ∈ c.fs)
  | _ => false
def trZp (c : Tc) (f : Expr → Option E) (args : List Expr) : Option (Ik × List E) := match args with
  | [a, b] => (trL f [a, b]).map fun es => (if isSh c a || isSh c b then .zipS else .zip, es)
  | _ => none
def trSeq (c : Tc) (f : Expr → Option E) (e : Expr) : Option (Ik × List E) := (f e).map fun x => (if isSh c e then .seqS else .seq, [x])
def trI (c : Tc) (f : Expr → Option E) (sc : Scope) (tg : Expr) : Expr → Option (Ik × List E)
  | .Call (.Name x p) args [] pos => if decide (x = ("range" : Str)) then guardO (glB sc x) (trRg f args)
    else if decide (x = ("zip" : Str)) then guardO (glB sc x && isTup tg) (trZp c f args)
    else trSeq c f (.Call (.Name x p) args [] pos)
  | e => guardO (notSet e) (trSeq c f e)
def o2 {α β γ : Type} (f : α → β → γ) : Option α → Option β → Option γ
  | some a, some b => some (f a b)
  | _, _ => none
def o3 {α β γ δ : Type} (f : α → β → γ → δ) : Option α → Option β → Option γ → Option δ
  | some a, some b, some c => some (f a b c)
  | _, _, _ => none
def trP (f : Expr → Option E) : Option Expr → Option E
  | none => some .skip
  | some e => f e
def trIsi (fO : Expr → Option E) (sc : Scope) (args : List Expr) : Option E := match args with
  | [a, .Tuple es k p] => guardO (plainE a && decide (es.length ≤ 1000)) (o2 .isi (fO a) (tysOf' sc es))
  | [a, t] => guardO (plainE a) (o2 (fun x n => .isi x [n]) (fO a) (tyOf sc t))
  | _ => none
def trBlt (fO : Expr → Option E) (f : Str) (args : List Expr) : Option E := match bfOf f args.length with
  | some g => (trL fO args).map (.blt g)
  | none => none
def trCall (c : Tc) (fV fO : Expr → Option E) (sc : Scope) (f : Str) (args : List Expr) : Option E :=
  guardO (glB sc f) (if decide (f ∈ c.fs ∧ okF f = true) then (trL fV args).map (.call f) else if decide (pcN f ∈ c.fs) then (trL fV args).map (.mk f) else if decide (f = ("isinstance" : Str)) then trIsi fO sc args else guardO (cool c) (trBlt fO f args))
def subB (is js : List Nat) : Bool := is.all fun i => decide (i ∈ js)
def trO1 (c : Tc) (f : Md → Scope → Expr → Option E) (sc : Scope) (e : Expr) : Option E := match e with
  | .Name x p => match slotOf c sc x with
    | some i => some (.bor i)
    | none => noBor (f .V sc (.Name x p))
  | e => noBor (f .V sc e)
def trT1 (c : Tc) (f : Md → Scope → Expr → Option E) (sc : Scope) (e : Expr) : Option E := match e with
  | .UnaryOp .Not a _ => (f .T sc a).map .not
  | .BoolOp op [a] _ => f .T sc a
  | .BoolOp .And (a :: b :: rest) pos => o2 .and (f .T sc a) (f .T sc (.BoolOp .And (b :: rest) pos))
  | .BoolOp .Or (a :: b :: rest) pos => o2 .or (f .T sc a) (f .T sc (.BoolOp .Or (b :: rest) pos))
  | .IfExp t a b _ => o3 .ite (f .T sc t) (f .T sc a) (f .T sc b)
  | .Compare a [op] [b] _ => guardO (!behindInMarks op b) (o2 (.cmp op) (f .O sc a) (f .O sc b))
  | .Compare a [op, op'] [b, d] _ => guardO (!lastMarks [op, op'] [b, d]) (o3 (.chain op op') (f .O sc a) (f .O sc b) (f .O sc d))
  | .Name x p => match slotOf c sc x with
    | some i => some (.bor i)
    | none => match f .V sc (.Name x p) with
      | some ir => guardO (finK ir) (some ir)
      | none => none
  | e => guardO (plainT e) (match f .V sc e with
    | some ir => guardO (finK ir) (some ir)
    | none => none)
def trLc (c : Tc) (f : Md → Scope → Expr → Option E) (sc : Scope) (elt : Expr) (gens : List Comprehension) (scope : Scope) : Option E := match gens with
  | [⟨tg, iter, ifs, as⟩] =>
    match trTg c (relS scope sc) (fun x => decide (scope.names.lookup x = some .cell)) tg, trI c (f .V sc) sc tg iter, trSh c (f .V (relS scope sc)) elt, trL (f .T (relS scope sc)) ifs with
    | some tgI, some (k, es), some el, some cs => guardO (cool c && decide (as = 0) && blkC c.N sc scope (ownOf c.N scope) && subB (tgIx tgI) ((ownOf c.N scope).map (·.2)) && decide (cs.length ≤ 1)) (some (.lc el tgI ((ownOf c.N scope).map (·.2)) k es cs))
    | _, _, _, _ => none
  | _ => none
def trAttr (c : Tc) (f : Md → Scope → Expr → Option E) (sc : Scope) (a : Expr) (m : Str) : Option E :=
  if decide (pfN m ∈ c.fs) then guardO (noCall a) ((f .O sc a).map fun x => .fld x m) else match a with
    | .Name x _ => (slotOf c sc x).map fun i => .attr (.bor i) m
    | _ => none
def trMeth (c : Tc) (f : Md → Scope → Expr → Option E) (sc : Scope) (a : Expr) (m : Str) (args : List Expr) (apos pos : Pos) : Option E :=
  guardO (decide (pmN m ∈ c.fs) && noCall a && (apos.endLine == pos.line) && decide (args.length ≤ 20)) (o2 (fun x es => .meth x m es) (f .O sc a) (trL (f .V sc) args))
def trV1 (c : Tc) (f : Md → Scope → Expr → Option E) (sc : Scope) (e : Expr) : Option E := match e with
  | .Constant .none _ _ => some .non
  | .Constant (.bool b) _ _ => some (.bl b)
  | .Constant (.int i) _ _ => some (.int i)
  | .Constant (.str x) _ _ => some (.str x)
  | .Name x _ => match slotOf c sc x with
    | some i => some (.var i)
    | none => guardO (glB sc x && okG x) (some (.glo x))
  | .Tuple es _ _ => (trL (f .V sc) es).map .tup
  | .List es _ => (trL (trSh c (f .V sc)) es).map .lst
  | .BinOp a op b _ => o2 (.bin op) (f .O sc a) (f .O sc b)
  | .UnaryOp .USub a _ => (f .V sc a).map .neg
  | .UnaryOp .Not a _ => (f .O sc a).map .not
  | .BoolOp op [a] _ => f .V sc a
  | .BoolOp .And (a :: b :: rest) pos => o2 .and (f .V sc a) (f .V sc (.BoolOp .And (b :: rest) pos))
  | .BoolOp .Or (a :: b :: rest) pos => o2 .or (f .V sc a) (f .V sc (.BoolOp .Or (b :: rest) pos))
  | .IfExp t a b _ => o3 .ite (f .T sc t) (f .V sc a) (f .V sc b)
  | .Compare a [op] [b] _ => guardO (!behindInMarks op b) (o2 (.cmp op) (f .O sc a) (f .O sc b))
  | .Compare a [op, op'] [b, d] _ => guardO (!lastMarks [op, op'] [b, d]) (o3 (.chain op op') (f .O sc a) (f .O sc b) (f .O sc d))
  | .Subscript a (.Slice lo hi none _) _ => o3 .sli (f .O sc a) (trP (f .V sc) lo) (trP (f .V sc) hi)
  | .Subscript a b _ => guardO (plainIx b) (o2 .idx (f .O sc a) (f .O sc b))
  | .Call (.Name g p) args [] pos => trCall c (f .V sc) (f .O sc) sc g args
  | .ListComp elt gens scope pos => trLc c f sc elt gens scope
  | .Attribute a m _ => trAttr c f sc a m
  | .Call (.Attribute a m apos) args [] pos => trMeth c f sc a m args apos pos
  | .Dict keys values _ => guardO (cool c && keys.all (·.isSome) && decide (keys.length = values.length) && decide (keys.length ≤ 15)) (o2 .dct (keysOf keys) (trL (f .V sc) values))
  | _ => none
def tr (c : Tc) : Nat → Md → Scope → Expr → Option E
  | 0, _, _, _ => none
  | n + 1, .O, sc, e => trO1 c (tr c n) sc e
  | n + 1, .T, sc, e => trT1 c (tr c n) sc e
  | n + 1, .V, sc, e => trV1 c (tr c n) sc e
end R

set_option autoImplicit false
namespace R
open PySem PySem.Spec PyProof.Rows L2
/-! ## R8: what the small language says of an expression is so -/
structure Cok (X : Cx) (G : Wd) (B : Base) (K : XP) (Φ : Fns) (Γ : Cns) (c : Tc) (sc : Scope) : Prop where
  o : XOk X G B K Φ Γ c.fs
  hN : X.N = c.N
  hs : X.env.scope = sc
section
variable {X : Cx} {G : Wd} {B : Base} {K : XP} {Φ : Fns} {Γ : Cns} {c : Tc} {sc : Scope}
theorem slot_ok (k : Cok X G B K Φ Γ c sc) {x : Str} {i : Nat} (h : slotOf c sc x = some i) : X.N[i]? = some x ∧ Vis X.env.scope x ∧ (x == ("__debug__" : Str)) = false ∧ (x == ("__classdict__" : Str)) = false := by
  unfold slotOf at h
  split at h
  · rename_i h1
    rw [Bool.and_eq_true] at h1
    split at h
    · split at h
      · rename_i h2
        cases h
        have h3 := h1.2
        unfold okNm at h3
        rw [Bool.and_eq_true, Bool.not_eq_true', Bool.not_eq_true'] at h3
        refine ⟨by rw [k.hN]; exact of_decide_eq_true h2, ?_, h3.1, h3.2⟩
        rw [k.hs]
        have h4 := h1.1
        unfold visB at h4
        split at h4
        · rename_i e; exact .inl e
        · rename_i e; exact .inr (.inl e)
        · rename_i e; exact .inr (.inr e)
        · cases h4
      · cases h
    · cases h
  · cases h
theorem pe_slot (k : Cok X G B K Φ Γ c sc) {x : Str} {i : Nat} {p : Pos} (h : slotOf c sc x = some i) : PE X (.Name x p) (tVar i) := by
  obtain ⟨h1, h2, h3, h4⟩ := slot_ok k h
  exact pe_var h1 h2 h3 h4
theorem gl_ok (k : Cok X G B K Φ Γ c sc) {x : Str} (h : glB sc x = true) : Gl X x := by
  show X.env.scope.names.lookup x = _
  rw [k.hs]
  exact of_decide_eq_true h
theorem star_cons {e : Expr} {es : List Expr} {env : Env} (h : plainE e = true) : starEach (e :: es) env = (false, eval e env) :: starEach es env := by
  cases e <;> first | rfl | cases h
theorem back_any {env : Env} {pos : Pos} : ∀ {es : List Expr}, es.all plainE = true → (backTo pos (starEach es env)).any (·.1) = false
  | [], _ => rfl
  | e :: es, h => by
    rw [List.all_cons, Bool.and_eq_true] at h
    rw [star_cons h.1]
    show (false || (backTo pos (starEach es env)).any (·.1)) = false
    rw [back_any h.2]
    rfl
theorem fin_eq {ir : E} (h : finK ir = true) {K : XP} {env : VE} {vh : VH} {Q : QE} : wpE Φ Γ ir K true env vh Q = wpE Φ Γ ir K false env vh fun x e h => fin true x e h Q := by
  cases ir <;> first | rfl | cases h
theorem true_eq {e : Expr} (h : plainT e = true) (env : Env) : ∀ whole, isTrue e env whole = (do let v ← whole; standAt e.pos; holding [v] (truthy v)) := by
  intro whole
  cases e with
  | UnaryOp op a p => cases op <;> first | rfl | cases h
  | BoolOp _ _ _ => cases h
  | IfExp _ _ _ _ => cases h
  | Compare _ _ _ _ => cases h
  | _ => rfl
theorem plainIx_ok {b : Expr} (h : plainIx b = true) : PlainIx b := by
  intro o i
  cases b <;> first | rfl | cases h
theorem notSet_ok {e : Expr} (h : notSet e = true) (env : Env) : ∀ x, foldedSetIterable e env x = pure x := by
  intro x
  cases e <;> first | rfl | cases h
theorem mE (ir : E) (K : XP) (t : Bool) : ∀ env vh (Q Q' : QE), (∀ x e h, Q x e h → Q' x e h) → wpE Φ Γ ir K t env vh Q → wpE Φ Γ ir K t env vh Q' := wpE_mono ir K t
theorem mO (ir : E) (K : XP) : ∀ env vh (Q Q' : Op → VE → VH → Prop), (∀ x e h, Q x e h → Q' x e h) → asO ir (wpE Φ Γ ir) K env vh Q → asO ir (wpE Φ Γ ir) K env vh Q' := fun env vh Q Q' => asO_mono (wpE_mono ir K false env vh)
theorem mEs (irs : List E) (K : XP) : ∀ env vh (Q Q' : List D → VE → VH → Prop), (∀ x e h, Q x e h → Q' x e h) → wpEs Φ Γ irs K env vh Q → wpEs Φ Γ irs K env vh Q' := wpEs_mono irs K
theorem mOs (irs : List E) (K : XP) : ∀ env vh (Q Q' : List Op → VE → VH → Prop), (∀ x e h, Q x e h → Q' x e h) → wpOs Φ Γ irs K env vh Q → wpOs Φ Γ irs K env vh Q' := wpOs_mono irs K
abbrev OkV (X : Cx) (G : Wd) (B : Base) (K : XP) (Φ : Fns) (Γ : Cns) (e : Expr) (ir : E) : Prop := PE X e (tD G B (wpE Φ Γ ir K false))
abbrev OkO (X : Cx) (G : Wd) (B : Base) (K : XP) (Φ : Fns) (Γ : Cns) (e : Expr) (ir : E) : Prop := PE X e (tO G B (asO ir (wpE Φ Γ ir) K))
abbrev OkT (X : Cx) (G : Wd) (B : Base) (K : XP) (Φ : Fns) (Γ : Cns) (e : Expr) (ir : E) : Prop := PT X e (tB G B (wpE Φ Γ ir K true)) ∧ ∀ op vs pos, e = .BoolOp op vs pos → PW X e (tB G B (wpE Φ Γ ir K true))
theorem asO_no {ir : E} (h : isBor ir = false) {w : XP → Bool → VE → VH → QE → Prop} {K : XP} : asO ir w K = fun env vh Q => w K false env vh fun x e1 h1 => Q (.dat x.d) e1 h1 := by
  cases ir <;> first | rfl | cases h
theorem okO_of {e : Expr} {ir : E} (h : OkV X G B K Φ Γ e ir) (hb : isBor ir = false) : OkO X G B K Φ Γ e ir := by
  unfold OkO
  rw [asO_no hb]
  exact ro_val h (mE ir K false)
theorem noBor_ok {o : Option E} {ir : E} (h : noBor o = some ir) : o = some ir ∧ isBor ir = false := by
  unfold noBor at h
  split at h
  · split at h
    · cases h
    · rename_i e hb
      cases h
      exact ⟨rfl, by simpa using hb⟩
  · cases h
theorem o2_ok {α β γ : Type} {f : α → β → γ} {a : Option α} {b : Option β} {r : γ} (h : o2 f a b = some r) : ∃ x y, a = some x ∧ b = some y ∧ r = f x y := by
  cases a <;> cases b <;> first | (cases h; done) | (cases h; exact ⟨_, _, rfl, rfl, rfl⟩)
theorem o3_ok {α β γ δ : Type} {f : α → β → γ → δ} {a : Option α} {b : Option β} {c : Option γ} {r : δ} (h : o3 f a b c = some r) : ∃ x y z, a = some x ∧ b = some y ∧ c = some z ∧ r = f x y z := by
  cases a <;> cases b <;> cases c <;> first | (cases h; done) | (cases h; exact ⟨_, _, _, rfl, rfl, rfl, rfl⟩)
theorem guard_ok {α : Type} {b : Bool} {x : Option α} {r : α} (h : guardO b x = some r) : b = true ∧ x = some r := by
  cases b
  · cases h
  · exact ⟨rfl, h⟩
theorem map_ok {α β : Type} {f : α → β} {a : Option α} {r : β} (h : a.map f = some r) : ∃ x, a = some x ∧ r = f x := by
  cases a
  · cases h
  · cases h; exact ⟨_, rfl, rfl⟩
theorem trL_cons {f : Expr → Option E} {e : Expr} {es : List Expr} {irs : List E} (h : trL f (e :: es) = some irs) : ∃ a b, irs = a :: b ∧ plainE e = true ∧ f e = some a ∧ trL f es = some b := by
  have h : (if plainE e then (match f e, trL f es with
    | some a, some b => some (a :: b)
    | _, _ => none) else none) = some irs := h
  split at h
  · rename_i hp
    split at h
    · rename_i a b h1 h2
      cases h
      exact ⟨a, b, rfl, hp, h1, h2⟩
    · cases h
  · cases h
theorem trL_plain {f : Expr → Option E} : ∀ {es : List Expr} {irs : List E}, trL f es = some irs → es.all plainE = true
  | [], _, _ => rfl
  | e :: es, irs, h => by
    obtain ⟨a, b, _, h1, _, h3⟩ := trL_cons h
    rw [List.all_cons, h1, trL_plain h3]
    rfl
theorem trL_V {f : Expr → Option E} (hf : ∀ e ir, f e = some ir → OkV X G B K Φ Γ e ir) : ∀ {es : List Expr} {irs : List E}, trL f es = some irs → PA X es (tL G B (wpEs Φ Γ irs K))
  | [], irs, h => by
    cases h
    exact ra_nil
  | e :: es, irs, h => by
    obtain ⟨a, b, rfl, h1, h2, h3⟩ := trL_cons h
    exact ra_cons (mE a K false) (mEs b K) (hf e a h2) (trL_V hf h3) (star_cons h1)
theorem trL_O {f : Expr → Option E} (hf : ∀ e ir, f e = some ir → OkO X G B K Φ Γ e ir) : ∀ {es : List Expr} {irs : List E}, trL f es = some irs → PA X es (tOs G B (wpOs Φ Γ irs K))
  | [], irs, h => by
    cases h
    exact ros_nil
  | e :: es, irs, h => by
    obtain ⟨a, b, rfl, h1, h2, h3⟩ := trL_cons h
    exact ros_cons (mO a K) (mOs b K) (hf e a h2) (trL_O hf h3) (star_cons h1)
theorem trL_P {f : Expr → Option E} {R : Expr → E → Prop} (hf : ∀ e ir, f e = some ir → R e ir) : ∀ {es : List Expr} {irs : List E}, trL f es = some irs → Paired R es irs
  | [], irs, h => by
    cases h
    exact .nil
  | e :: es, irs, h => by
    obtain ⟨a, b, rfl, h1, h2, h3⟩ := trL_cons h
    exact .cons (hf e a h2) (trL_P hf h3)
theorem keysOf_len : ∀ {keys : List (Option Expr)} {ks : List Key}, keysOf keys = some ks → ks.length = keys.length
  | [], ks, h => by
    cases h
    rfl
  | k :: keys, ks, h => by
    unfold keysOf at h
    split at h
    · rename_i e; cases e
    · rename_i e0 r e
      cases e
      split at h
      · rename_i k' ks' h0 h1
        cases h
        rw [List.length_cons, List.length_cons, keysOf_len h1]
      · cases h
    · cases h
theorem tyOf_ok (k : Cok X G B K Φ Γ c sc) {e : Expr} {n : String} (h : tyOf sc e = some n) : ∃ p, e = .Name (Str.ofString n) p ∧ okTy n = true ∧ Gl X (Str.ofString n) := by
  unfold tyOf at h
  split at h
  · rename_i x p
    split at h
    · rename_i n' hn
      split at h
      · rename_i hg
        cases h
        rw [Bool.and_eq_true] at hg
        have e := List.find?_some hn
        have e : Str.ofString n = x := of_decide_eq_true e
        subst e
        exact ⟨p, rfl, hg.2, gl_ok k hg.1⟩
      · cases h
    · cases h
  · cases h
theorem tysOf_ok (k : Cok X G B K Φ Γ c sc) : ∀ {es : List Expr} {ns : List String}, tysOf' sc es = some ns → Paired (fun n e => ∃ p, e = Expr.Name (Str.ofString n) p ∧ okTy n = true ∧ Gl X (Str.ofString n)) ns es
  | [], ns, h => by
    cases h
    exact .nil
  | e :: es, ns, h => by
    unfold tysOf' at h
    split at h
    · rename_i a b h1 h2
      cases h
      exact .cons (tyOf_ok k h1) (tysOf_ok k h2)
    · cases h
theorem bf_ok {f : Str} {n : Nat} {g : Bf} (h : bfOf f n = some g) : f = bltN g := by
  unfold bfOf at h
  split at h
  · have e := List.find?_some h
    exact (of_decide_eq_true e).symm
  · have e := List.find?_some h
    exact (of_decide_eq_true e).symm
  · cases h
theorem pairLen {α β : Type} {r : α → β → Prop} {as : List α} {bs : List β} (h : Paired r as bs) : as.length = bs.length := by
  induction h with
  | nil => rfl
  | cons _ _ ih => rw [List.length_cons, List.length_cons, ih]
theorem trIsi_ok (k : Cok X G B K Φ Γ c sc) {fO : Expr → Option E} {args : List Expr} {ir : E} {p pos : Pos} (hO : ∀ e ir, fO e = some ir → OkO X G B K Φ Γ e ir) (hg : Gl X ("isinstance" : Str))
    (h : trIsi fO sc args = some ir) : OkV X G B K Φ Γ (.Call (.Name "isinstance" p) args [] pos) ir := by
  unfold trIsi at h
  split at h
  · rename_i a es kk p2
    obtain ⟨hp, h⟩ := guard_ok h
    rw [Bool.and_eq_true] at hp
    obtain ⟨x, ns, h1, h2, rfl⟩ := o2_ok h
    have ht := tysOf_ok k h2
    have hl : ns.length ≤ 1000 := by
      rw [pairLen ht]
      exact of_decide_eq_true hp.2
    exact re_isiT k.o (mO x K) (hO _ _ h1) hg ht hl (star_cons hp.1)
  · rename_i a t _
    obtain ⟨hp, h⟩ := guard_ok h
    obtain ⟨x, n, h1, h2, rfl⟩ := o2_ok h
    obtain ⟨p2, rfl, h3, h4⟩ := tyOf_ok k h2
    exact re_isi1 k.o (mO x K) (hO _ _ h1) hg h4 h3 (star_cons hp)
  · cases h
theorem cool_ok {c : Tc} (h : cool c = true) : hotN ∉ c.fs := by
  unfold cool at h
  simpa using h
theorem plain_star : ∀ {es : List Expr}, es.all plainE = true → es.all (fun e => match e with
      | .Starred _ _ => false
      | _ => true) = true
  | [], _ => rfl
  | e :: es, h => by
    rw [List.all_cons, Bool.and_eq_true] at h ⊢
    refine ⟨?_, plain_star h.2⟩
    have := h.1
    cases e <;> first | rfl | cases this
theorem shrIf_ok {b : Bool} {e : Expr} {o : Option E} {ir : E} (hV : ∀ ir, o = some ir → OkV X G B K Φ Γ e ir) (h : shrIf b o = some ir) : OkV X G B K Φ Γ e ir := by
  unfold shrIf at h
  split at h
  · obtain ⟨u, h1, rfl⟩ := map_ok h
    exact re_shr (mE u K false) (hV _ h1)
  · exact hV _ h
theorem trSh_ok {c : Tc} {f : Expr → Option E} (hV : ∀ e ir, f e = some ir → OkV X G B K Φ Γ e ir) (e : Expr) (ir : E) (h : trSh c f e = some ir) : OkV X G B K Φ Γ e ir := shrIf_ok (hV e) h
theorem trCall_ok (k : Cok X G B K Φ Γ c sc) {fV fO : Expr → Option E} {f : Str} {args : List Expr} {ir : E} {p pos : Pos} (hV : ∀ e ir, fV e = some ir → OkV X G B K Φ Γ e ir) (hO : ∀ e ir, fO e = some ir → OkO X G B K Φ Γ e ir)
    (h : trCall c fV fO sc f args = some ir) : OkV X G B K Φ Γ (.Call (.Name f p) args [] pos) ir := by
  unfold trCall at h
  obtain ⟨hg, h'⟩ := guard_ok h
  clear h
  have hg := gl_ok k hg
  split at h'
  · rename_i hf
    obtain ⟨hf, hn⟩ := of_decide_eq_true hf
    obtain ⟨irs, h1, rfl⟩ := map_ok h'
    cases args with
    | nil =>
      cases h1
      exact re_call0 k.o hf hn hg
    | cons e es =>
      have hp := trL_plain h1
      rw [List.all_cons, Bool.and_eq_true] at hp
      exact re_call k.o (mEs irs K) (trL_V hV h1) hf hn hg (star_cons hp.1) (back_any hp.2)
  · split at h'
    · rename_i hf
      have hf := of_decide_eq_true hf
      obtain ⟨irs, h1, rfl⟩ := map_ok h'
      cases args with
      | nil =>
        cases h1
        exact re_mk0 k.o hf hg
      | cons e es =>
        have hp := trL_plain h1
        rw [List.all_cons, Bool.and_eq_true] at hp
        exact re_mk k.o (mEs irs K) (trL_V hV h1) hf hg (star_cons hp.1) (back_any hp.2)
    split at h'
    · rename_i hi
      have hi : f = ("isinstance" : Str) := of_decide_eq_true hi
      subst hi
      exact trIsi_ok k hO hg h'
    · obtain ⟨hc, h2⟩ := guard_ok h'
      clear h'
      have h' := h2
      have hc := cool_ok hc
      unfold trBlt at h'
      split at h'
      · rename_i g hb
        obtain ⟨irs, h1, rfl⟩ := map_ok h'
        cases args with
        | nil => cases hb
        | cons e es =>
          have hp := trL_plain h1
          rw [List.all_cons, Bool.and_eq_true] at hp
          exact re_blt k.o hc (mOs irs K) (trL_O hO h1) (bf_ok hb) hg (star_cons hp.1) (back_any hp.2)
      · cases h'

/-! ### targets, iterators -/
theorem wr_ok {cl : Str → Bool} (hN : X.N = c.N) (hs : X.env.scope = sc) (hcl : ∀ x, cl x = true → X.fn x = true) {x : Str} {i : Nat} (h : wrIx c sc cl x = some i) : X.N[i]? = some x ∧ Loc X.env.scope x ∧ (X.fn x = true ∨ X.env.scope.names.lookup x = some .local) := by
  unfold wrIx at h
  split at h
  · split at h
    · rename_i h1
      cases h
      rw [Bool.and_eq_true, Bool.or_eq_true, Bool.and_eq_true] at h1
      rw [hN, hs]
      refine ⟨of_decide_eq_true h1.1, ?_⟩
      rcases h1.2 with q | q
      · exact ⟨.inl (of_decide_eq_true q), .inr (of_decide_eq_true q)⟩
      · exact ⟨.inr (of_decide_eq_true q.1), .inl (hcl x q.2)⟩
    · cases h
  · cases h
theorem wrs_ok {cl : Str → Bool} (nd : X.N.Nodup) (hN : X.N = c.N) (hs : X.env.scope = sc) (hcl : ∀ x, cl x = true → X.fn x = true) : ∀ {es : List Expr} {is : List Nat}, wrIxs c sc cl es = some is →
    PGs X es (gNames is) ∧ (assignEach es X.env).length = is.length ∧ (assignEach es X.env).findIdx? (·.1) = none
  | [], is, h => by
    cases h
    exact ⟨pgs_nil, rfl, rfl⟩
  | .Name x p :: es, is, h => by
    unfold wrIxs at h
    split at h
    · rename_i i is h1 h2
      cases h
      obtain ⟨q1, q2, q3⟩ := wr_ok hN hs hcl h1
      obtain ⟨r1, r2, r3⟩ := wrs_ok nd hN hs hcl h2
      refine ⟨pgs_cons (pg_name nd q1 q2 q3) r1 rfl, ?_, ?_⟩
      · show (assignEach es X.env).length + 1 = _
        rw [r2]
        rfl
      · show List.findIdx? (·.1) ((false, assign (.Name x p) X.env) :: assignEach es X.env) = none
        rw [List.findIdx?_cons, r3]
        rfl
    · cases h
theorem trTg_ok {cl : Str → Bool} (calm : X.calm = true) (hK : X.K = G.K) (nd : X.N.Nodup) (hN : X.N = c.N) (hs : X.env.scope = sc) (hcl : ∀ x, cl x = true → X.fn x = true) {tg : Expr} {t : Tg} (h : trTg c sc cl tg = some t) : PG X tg (gOf G.K t) := by
  unfold trTg at h
  split at h
  · split at h
    · rename_i i h1
      cases h
      obtain ⟨q1, q2, q3⟩ := wr_ok hN hs hcl h1
      exact pg_name nd q1 q2 q3
    · cases h
  · split at h
    · rename_i is h1
      cases h
      obtain ⟨r1, r2, r3⟩ := wrs_ok nd hN hs hcl h1
      show PG X _ (gTup G.K is.length (gNames is))
      rw [← hK]
      exact pg_tup calm r1 r2 r3
    · cases h
  · cases h
/-- what a loop goes through -/
abbrev wI (Φ : Fns) (Γ : Cns) (k : Ik) (es : List E) (K : XP) : VE → VH → (List D → (VH → Prop) → VE → VH → Prop) → Prop := fun env vh Q => wpEs Φ Γ es K env vh fun ds e1 h1 => ∃ items, itemsV k h1 ds = some items ∧ Q items (stl k ds h1) e1 h1
theorem mI (k : Ik) (es : List E) (K : XP) : ∀ env vh (Q Q' : List D → (VH → Prop) → VE → VH → Prop), (∀ x s e h, Q x s e h → Q' x s e h) → wI Φ Γ k es K env vh Q → wI Φ Γ k es K env vh Q' := fun env vh Q Q' f h => wpEs_mono es K env vh _ _ (fun ds e1 h1 ⟨items, p, q⟩ => ⟨items, p, f _ _ _ _ q⟩) h
theorem trI_ok (k : Cok X G B K Φ Γ c sc) {f : Expr → Option E} (hf : ∀ e ir, f e = some ir → OkV X G B K Φ Γ e ir) {tg iter : Expr} {ik : Ik} {es : List E} (h : trI c f sc tg iter = some (ik, es)) :
    PI X tg iter (iD G B (wI Φ Γ ik es K)) ∧ ∀ x, foldedSetIterable iter X.env x = pure x := by
  have seq : ∀ {e : Expr} {ik : Ik} {es : List E}, trSeq c f e = some (ik, es) → PI X tg e (iD G B (wI Φ Γ ik es K)) := fun {e ik es} h => by
    obtain ⟨x, h1, h2⟩ := map_ok h
    cases h2
    cases isSh c e
    · exact ri_seq k.o.hK (mE x K false) (hf e x h1)
    · exact ri_seqS k.o.hK (mE x K false) (hf e x h1)
  unfold trI at h
  split at h
  · rename_i x p args pos
    refine ⟨?_, fun _ => rfl⟩
    split at h
    · rename_i hx
      have hx : x = ("range" : Str) := of_decide_eq_true hx
      subst hx
      obtain ⟨hg, h'⟩ := guard_ok h
      clear h
      have hm : X.mg "range" = none := k.o.bl _ (by decide +kernel)
      unfold trRg at h'
      split at h'
      · obtain ⟨es', h1, h2⟩ := map_ok h'
        cases h2
        obtain ⟨_, _, _, hp, _, _⟩ := trL_cons h1
        exact ri_rng1 (mEs es K) (trL_V hf h1) (gl_ok k hg) hm (star_cons hp)
      · obtain ⟨es', h1, h2⟩ := map_ok h'
        cases h2
        obtain ⟨_, _, _, hp, _, h2⟩ := trL_cons h1
        obtain ⟨_, _, _, hp2, _, h3⟩ := trL_cons h2
        exact ri_rng2 (mEs es K) (trL_V hf h1) (gl_ok k hg) hm (by rw [star_cons hp, star_cons hp2]; rfl) (star_cons hp2)
      · obtain ⟨es', h1, h2⟩ := map_ok h'
        cases h2
        have hp := trL_plain h1
        rw [List.all_cons, Bool.and_eq_true] at hp
        exact ri_rng3 (mEs es K) (trL_V hf h1) (gl_ok k hg) hm (star_cons hp.1) (back_any hp.2)
      · cases h'
    · split at h
      · rename_i hx
        have hx : x = ("zip" : Str) := of_decide_eq_true hx
        subst hx
        obtain ⟨hg, h'⟩ := guard_ok h
        clear h
        rw [Bool.and_eq_true] at hg
        have hm : X.mg "zip" = none := k.o.bl _ (by decide +kernel)
        unfold trZp at h'
        split at h'
        · obtain ⟨es', h1, h2⟩ := map_ok h'
          cases h2
          have hp := trL_plain h1
          rw [List.all_cons, Bool.and_eq_true] at hp
          cases tg with
          | Tuple elts kk tpos =>
            rename_i a b
            cases isSh c a || isSh c b
            · exact ri_zip k.o.hK (mEs es K) (trL_V hf h1) (gl_ok k hg.1) hm (star_cons hp.1) (back_any hp.2)
            · exact ri_zipS k.o.hK (mEs es K) (trL_V hf h1) (gl_ok k hg.1) hm (star_cons hp.1) (back_any hp.2)
          | _ => cases hg.2
        · cases h'
      · exact seq h
  · obtain ⟨hn, h⟩ := guard_ok h
    exact ⟨seq h, notSet_ok hn X.env⟩
end

/-! ### all expressions -/
def Ok (X : Cx) (G : Wd) (B : Base) (K : XP) (Φ : Fns) (Γ : Cns) : Md → Expr → E → Prop
  | .V => OkV X G B K Φ Γ
  | .O => OkO X G B K Φ Γ
  | .T => OkT X G B K Φ Γ
theorem trLc_cool {c : Tc} {f : Md → Scope → Expr → Option E} {sc : Scope} {elt : Expr} {gens : List Comprehension} {scope : Scope} {ir : E} (h : trLc c f sc elt gens scope = some ir) : hotN ∉ c.fs := by
  unfold trLc at h
  split at h
  · split at h
    · obtain ⟨hc, h⟩ := guard_ok h
      rw [Bool.and_eq_true, Bool.and_eq_true, Bool.and_eq_true, Bool.and_eq_true] at hc
      exact cool_ok hc.1.1.1.1
    · cases h
  · cases h
theorem lc_parts {X : Cx} {G : Wd} {B : Base} {K : XP} {Φ : Fns} {Γ : Cns} {c : Tc} {sc : Scope} (k : Cok X G B K Φ Γ c sc) {f : Md → Scope → Expr → Option E} {elt : Expr} {gens : List Comprehension} {scope : Scope} {ir : E}
    (hV : ∀ e ir, f .V sc e = some ir → OkV X G B K Φ Γ e ir) (hB : ∀ (m : Md) (e : Expr) (ir : E) (X' : Cx) (B' : Base), Cok X' G B' (fun _ _ _ _ => False) Φ Γ c (relS scope sc) → f m (relS scope sc) e = some ir → Ok X' G B' (fun _ _ _ _ => False) Φ Γ m e ir)
    (h : trLc c f sc elt gens scope = some ir) :
    ∃ (tg iter : Expr) (ifs : List Expr) (own : List (Str × Nat)) (wi : TI) (g : TG) (tt : TT) (te : TE), gens = [⟨tg, iter, ifs, 0⟩] ∧ PI X tg iter wi ∧ BlkOk X.N X.env.scope scope own ∧
      (∀ (s : Shared) (H : Hp) (C : Addr) (cl : List (Str × Addr)) (fp : List Addr), PG (X.blk s H scope (compEnvC scope cl C X.env) fp) tg g) ∧ (∀ (s : Shared) (H : Hp) (C : Addr) (cl : List (Str × Addr)) (fp : List Addr), PTs (X.blk s H scope (compEnvC scope cl C X.env) fp) ifs tt) ∧
      (∀ (s : Shared) (H : Hp) (C : Addr) (cl : List (Str × Addr)) (fp : List Addr), PE (X.blk s H scope (compEnvC scope cl C X.env) fp) elt te) ∧ (∀ x, foldedSetIterable iter X.env x = pure x) ∧
      ∀ σ H Q, tD G B (wpE Φ Γ ir K false) σ H Q → tLc wi g tt te (own.map (·.2)) σ H Q := by
  unfold trLc at h
  split at h
  · rename_i tg iter ifs as
    split at h
    · rename_i tgI ik es el cs g1 g2 g3 g4
      obtain ⟨hc, h⟩ := guard_ok h
      cases h
      rw [Bool.and_eq_true, Bool.and_eq_true, Bool.and_eq_true, Bool.and_eq_true] at hc
      obtain ⟨⟨⟨⟨c0, c1⟩, c2⟩, c3⟩, c4⟩ := hc
      have c0 := cool_ok c0
      have c1 : as = 0 := of_decide_eq_true c1
      subst c1
      have c4 : cs.length ≤ 1 := of_decide_eq_true c4
      have hsub : ∀ i, i ∈ tgIx tgI → i ∈ (ownOf c.N scope).map (·.2) := fun i hi => by
        unfold subB at c3
        rw [List.all_eq_true] at c3
        exact of_decide_eq_true (c3 i hi)
      have ok : BlkOk X.N X.env.scope scope (ownOf c.N scope) := by rw [k.hN, k.hs]; exact blkOk_by c2
      obtain ⟨hi, hfs⟩ := trI_ok (tg := tg) k hV g2
      have kb : ∀ (B' : Base) (s : Shared) (H : Hp) (C : Addr) (cl : List (Str × Addr)) (fp : List Addr), Cok (X.blk s H scope (compEnvC scope cl C X.env) fp) G B' (fun _ _ _ _ => False) Φ Γ c (relS scope sc) := fun B' s H C cl fp =>
        ⟨k.o.blk c0 B' s H scope _ fp, k.hN, by
          show relS scope X.env.scope = _
          rw [k.hs]⟩
      have ht : ∀ (s : Shared) (H : Hp) (C : Addr) (cl : List (Str × Addr)) (fp : List Addr), PTs (X.blk s H scope (compEnvC scope cl C X.env) fp) ifs (tW G (wpTs Φ Γ cs)) := fun s H C cl fp => by
        cases ifs with
        | nil =>
          cases g4
          exact pts_w0
        | cons t ts =>
          obtain ⟨a, b, rfl, p1, p2, p3⟩ := trL_cons g4
          cases ts with
          | nil =>
            cases p3
            exact pts_w1 (mE a _ true) fun B' => (hB .T _ _ _ B' (kb B' s H C cl fp) p2).1
          | cons t2 ts =>
            obtain ⟨a2, b2, rfl, _, _, _⟩ := trL_cons p3
            simp at c4
      refine ⟨tg, iter, ifs, _, _, _, _, _, rfl, hi, ok, fun s H C cl fp => trTg_ok (X := X.blk s H scope (compEnvC scope cl C X.env) fp) (k.o.calm c0) k.o.hK k.o.nd k.hN (by show relS scope X.env.scope = _; rw [k.hs]) (fun x hx => by
          show (scope.names.lookup x == some .cell) = true
          rw [of_decide_eq_true hx]
          rfl) g1, ht, fun s H C cl fp => pe_all fun B' => trSh_ok (fun e ir h => hB .V e ir _ B' (kb B' s H C cl fp) h) _ _ g3, hfs, ?_⟩
      exact lc_sound (mI ik es K) (fun env vh Q Q' f h => wpTs_mono cs env vh Q Q' f h) (mE el _ false) hsub
    · cases h
  · cases h
theorem bor_noV {c : Tc} : ∀ {n : Nat} {sc : Scope} {e : Expr} {ir : E}, tr c n .V sc e = some ir → True := fun _ => trivial
theorem tr_ok {G : Wd} {Φ : Fns} {Γ : Cns} {c : Tc} : ∀ (n : Nat) (m : Md) (sc : Scope) (e : Expr) (ir : E) (X : Cx) (B : Base) (K : XP), Cok X G B K Φ Γ c sc → tr c n m sc e = some ir → Ok X G B K Φ Γ m e ir
  | 0, m, sc, e, ir, X, B, K, k, h => by
    cases m <;> cases h
  | n + 1, .O, sc, e, ir, X, B, K, k, h => by
    have ih := tr_ok (G := G) (Φ := Φ) (Γ := Γ) (c := c) n
    have hV : ∀ e ir, tr c n .V sc e = some ir → OkV X G B K Φ Γ e ir := fun e ir h => ih .V sc e ir X B K k h
    replace h : trO1 c (tr c n) sc e = some ir := h
    unfold trO1 at h
    split at h
    · split at h
      · rename_i x p i hs
        cases h
        exact ro_bor (pe_slot k hs)
      · obtain ⟨h1, h2⟩ := noBor_ok h
        exact okO_of (hV _ _ h1) h2
    · obtain ⟨h1, h2⟩ := noBor_ok h
      exact okO_of (hV _ _ h1) h2
  | n + 1, .T, sc, e, ir, X, B, K, k, h => by
    have ih := tr_ok (G := G) (Φ := Φ) (Γ := Γ) (c := c) n
    have hV : ∀ e ir, tr c n .V sc e = some ir → OkV X G B K Φ Γ e ir := fun e ir h => ih .V sc e ir X B K k h
    have hO : ∀ e ir, tr c n .O sc e = some ir → OkO X G B K Φ Γ e ir := fun e ir h => ih .O sc e ir X B K k h
    have hT : ∀ e ir, tr c n .T sc e = some ir → OkT X G B K Φ Γ e ir := fun e ir h => ih .T sc e ir X B K k h
    replace h : trT1 c (tr c n) sc e = some ir := h
    unfold trT1 at h
    split at h
    · obtain ⟨a, h1, rfl⟩ := map_ok h
      exact ⟨rt_not (mE a K true) (hT _ _ h1).1, fun op vs pos e => by cases e⟩
    · rename_i op a pos
      have q := (hT _ _ h).1
      have w : PW X (.BoolOp op [a] pos) (tB G B (wpE Φ Γ ir K true)) := by
        cases op
        · exact pw_and1 q
        · exact pw_or1 q
      exact ⟨w.pt, fun op' vs pos' e => w⟩
    · obtain ⟨a, b, h1, h2, rfl⟩ := o2_ok h
      have w := rt_and (mE a K true) (mE b K true) (hT _ _ h1).1 ((hT _ _ h2).2 _ _ _ rfl)
      exact ⟨w.pt, fun op' vs pos' e => w⟩
    · obtain ⟨a, b, h1, h2, rfl⟩ := o2_ok h
      have w := rt_or (mE a K true) (mE b K true) (hT _ _ h1).1 ((hT _ _ h2).2 _ _ _ rfl)
      exact ⟨w.pt, fun op' vs pos' e => w⟩
    · obtain ⟨t, a, b, h1, h2, h3, rfl⟩ := o3_ok h
      exact ⟨rt_ite (mE t K true) (mE a K true) (mE b K true) (hT _ _ h1).1 (hT _ _ h2).1 (hT _ _ h3).1, fun op vs pos e => by cases e⟩
    · obtain ⟨hm, h⟩ := guard_ok h
      obtain ⟨a, b, h1, h2, rfl⟩ := o2_ok h
      exact ⟨rt_cmp k.o (mO a K) (mO b K) (hO _ _ h1) (hO _ _ h2) (by simpa using hm), fun op vs pos e => by cases e⟩
    · obtain ⟨hm, h⟩ := guard_ok h
      obtain ⟨a, b, d, h1, h2, h3, rfl⟩ := o3_ok h
      exact ⟨rt_chain k.o (mO a K) (mO b K) (mO d K) (hO _ _ h1) (hO _ _ h2) (hO _ _ h3) (by simpa using hm), fun op vs pos e => by cases e⟩
    · split at h
      · rename_i x p i hs
        cases h
        exact ⟨rt_bor k.o (pe_slot k hs) (true_eq rfl X.env), fun op vs pos e => by cases e⟩
      · split at h
        · rename_i x p _ ir' h1
          obtain ⟨hf, h⟩ := guard_ok h
          cases h
          refine ⟨tB_of (rt_truth k.o (hV _ _ h1) (mE ir K false) (true_eq rfl X.env)) fun env vh Q q => ?_, fun op vs pos e => by cases e⟩
          rw [fin_eq hf] at q
          exact q
        · cases h
    · obtain ⟨hp, h⟩ := guard_ok h
      split at h
      · rename_i ir' h1
        obtain ⟨hf, h⟩ := guard_ok h
        cases h
        refine ⟨tB_of (rt_truth k.o (hV _ _ h1) (mE ir K false) (true_eq hp X.env)) fun env vh Q q => ?_, fun op vs pos e => by subst e; cases hp⟩
        rw [fin_eq hf] at q
        exact q
      · cases h
  | n + 1, .V, sc, e, ir, X, B, K, k, h => by
    have ih := tr_ok (G := G) (Φ := Φ) (Γ := Γ) (c := c) n
    have hV : ∀ e ir, tr c n .V sc e = some ir → OkV X G B K Φ Γ e ir := fun e ir h => ih .V sc e ir X B K k h
    have hO : ∀ e ir, tr c n .O sc e = some ir → OkO X G B K Φ Γ e ir := fun e ir h => ih .O sc e ir X B K k h
    have hT : ∀ e ir, tr c n .T sc e = some ir → OkT X G B K Φ Γ e ir := fun e ir h => ih .T sc e ir X B K k h
    show OkV X G B K Φ Γ e ir
    replace h : trV1 c (tr c n) sc e = some ir := h
    unfold trV1 at h
    split at h
    · cases h; exact re_flat pe_non fun _ _ _ => rfl
    · cases h; exact re_flat pe_bl fun _ _ _ => rfl
    · cases h; exact re_flat pe_int fun _ _ _ => rfl
    · cases h; exact re_flat pe_str fun _ _ _ => rfl
    · split at h
      · rename_i x p i hs
        cases h
        exact re_var (pe_slot k hs)
      · obtain ⟨hg, h⟩ := guard_ok h
        cases h
        rw [Bool.and_eq_true] at hg
        exact re_glo k.o hg.2 (gl_ok k hg.1)
    · obtain ⟨irs, h1, rfl⟩ := map_ok h
      exact re_tup (mEs irs K) (trL_V hV h1)
    · obtain ⟨irs, h1, rfl⟩ := map_ok h
      exact re_lst (mEs irs K) (trL_V (trSh_ok hV) h1)
    · obtain ⟨a, b, h1, h2, rfl⟩ := o2_ok h
      exact re_bin k.o (mO a K) (mO b K) (hO _ _ h1) (hO _ _ h2)
    · obtain ⟨a, h1, rfl⟩ := map_ok h
      exact re_neg (mE a K false) (hV _ _ h1)
    · obtain ⟨a, h1, rfl⟩ := map_ok h
      exact re_not k.o (mO a K) (hO _ _ h1)
    · exact pe_one (hV _ _ h)
    · obtain ⟨a, b, h1, h2, rfl⟩ := o2_ok h
      exact re_and k.o (mE a K false) (mE b K false) (hV _ _ h1) (hV _ _ h2)
    · obtain ⟨a, b, h1, h2, rfl⟩ := o2_ok h
      exact re_or k.o (mE a K false) (mE b K false) (hV _ _ h1) (hV _ _ h2)
    · obtain ⟨t, a, b, h1, h2, h3, rfl⟩ := o3_ok h
      exact re_ite (mE t K true) (mE a K false) (mE b K false) (hT _ _ h1).1 (hV _ _ h2) (hV _ _ h3)
    · obtain ⟨hm, h⟩ := guard_ok h
      obtain ⟨a, b, h1, h2, rfl⟩ := o2_ok h
      exact re_cmp k.o (mO a K) (mO b K) (hO _ _ h1) (hO _ _ h2) (by simpa using hm)
    · obtain ⟨hm, h⟩ := guard_ok h
      obtain ⟨a, b, d, h1, h2, h3, rfl⟩ := o3_ok h
      exact re_chain k.o (mO a K) (mO b K) (mO d K) (hO _ _ h1) (hO _ _ h2) (hO _ _ h3) (by simpa using hm)
    · rename_i a lo hi p2 pos
      obtain ⟨x, l, u, h1, h2, h3, rfl⟩ := o3_ok h
      have part : ∀ {q : Option Expr} {l : E}, trP (tr c n .V sc) q = some l → ((q = none ∧ ∀ env vh (Q : QE), wpE Φ Γ l K false env vh Q → Q (.v .non) env vh) ∨ ∃ e, q = some e ∧ PE X e (tD G B (wpE Φ Γ l K false))) := fun {q l} h => by
        cases q with
        | none => cases h; exact .inl ⟨rfl, fun _ _ _ z => z⟩
        | some e => exact .inr ⟨e, rfl, hV e l h⟩
      exact re_sli k.o (mO x K) (mE l K false) (mE u K false) (hO _ _ h1) (part h2) (part h3)
    · obtain ⟨hp, h⟩ := guard_ok h
      obtain ⟨a, b, h1, h2, rfl⟩ := o2_ok h
      exact re_idx k.o (mO a K) (mO b K) (hO _ _ h1) (hO _ _ h2) (plainIx_ok hp)
    · exact trCall_ok k hV hO h
    · obtain ⟨tg, iter, ifs, own, wi, g, tt, te, rfl, hi, ok, hg, ht, he, hs, im⟩ := lc_parts k hV (fun m e ir X' B' k' h' => ih m _ e ir X' B' _ k' h') h
      exact (pe_lc (k.o.calm (trLc_cool h)) k.o.nd hi ok hg ht he hs).imp im
    · rename_i a m2 pos
      replace h : trAttr c (tr c n) sc a m2 = some ir := h
      unfold trAttr at h
      split at h
      · rename_i hf
        obtain ⟨hn, h⟩ := guard_ok h
        obtain ⟨u, h1, rfl⟩ := map_ok h
        exact re_fld k.o (mO u K) (hO _ _ h1) (attr_no hn) (of_decide_eq_true hf)
      · split at h
        · obtain ⟨i, h1, rfl⟩ := map_ok h
          exact re_attr k.o (pe_slot k h1) fun _ => rfl
        · cases h
    · rename_i a m2 apos args pos
      replace h : trMeth c (tr c n) sc a m2 args apos pos = some ir := h
      unfold trMeth at h
      obtain ⟨hg, h⟩ := guard_ok h
      simp only [Bool.and_eq_true] at hg
      obtain ⟨⟨⟨g1, g2⟩, g3⟩, g4⟩ := hg
      obtain ⟨u, irs, h1, h2, rfl⟩ := o2_ok h
      have hp := trL_plain h2
      have ht := meth_tree (o := a) (m := m2) (apos := apos) (pos := pos) (es := args) (env := X.env) (attr_no g2) (plain_star hp) (of_decide_eq_true g4) g3
      cases args with
      | nil =>
        cases h2
        exact re_meth0 k.o (mO u K) (hO _ _ h1) (of_decide_eq_true g1) ht
      | cons e es =>
        rw [List.all_cons, Bool.and_eq_true] at hp
        exact re_meth k.o (mO u K) (mEs irs K) (hO _ _ h1) (trL_V hV h2) (of_decide_eq_true g1) (star_cons hp.1) (back_any hp.2) ht
    · obtain ⟨hg, h⟩ := guard_ok h
      rw [Bool.and_eq_true, Bool.and_eq_true, Bool.and_eq_true] at hg
      obtain ⟨⟨⟨g1, g2⟩, g3⟩, g4⟩ := hg
      obtain ⟨ks, irs, h1, h2, rfl⟩ := o2_ok h
      have pr := trL_P (R := fun e ir => ∀ B', PE X e (tD G B' (wpE Φ Γ ir noK false))) (fun e ir h' B' => ih .V sc e ir X B' _ ⟨k.o.any (cool_ok g1) B', k.hN, k.hs⟩ h') h2
      exact re_dct h1 pr g2 (of_decide_eq_true g3) ((keysOf_len h1).trans ((of_decide_eq_true g3 : _ = _).trans (pairLen pr))) (of_decide_eq_true g4)
    · cases h
end R

set_option autoImplicit false
namespace R
open PySem PySem.Spec PyProof.Rows L2
/-! ## R9: statements, from the text -/
def notLc : Expr → Bool
  | .ListComp _ _ _ _ => false
  | .SetComp _ _ _ _ => false
  | .DictComp _ _ _ _ _ => false
  | _ => true
def notTup : Expr → Bool
  | .Tuple _ _ _ => false
  | _ => true
def stOf (c : Tc) (x : Str) (i : Nat) (e : E) : S := if c.own.contains x then .setO i e else if c.sh.contains x then .setS i e else .set i e
def parB (sc : Scope) (x y : Str) (px py : Pos) (a b : Expr) : Bool := decide (sc.kind = .function) && decide (sc.names.lookup x = some .local) && decide (sc.names.lookup y = some .local) && (py.line == px.line) && !(x == y) && plainE a && plainE b &&
  !([a, b].all (foldedForSure 8)) && !([a, b].all (constantsAlone 8))
def lcB (sc scope : Scope) (x : Str) (p cpos : Pos) : Bool := decide (sc.kind = .function) && decide (sc.names.lookup x = some .local) && (p.line == cpos.line) && !(scope.names.any fun (n, k) => n == x && (k == .local || k == .cell))
def neB (i j : Nat) : Bool := !decide (i = j)
/-- the clauses of a try -/
def trH (c : Tc) (fH : List Stmt → Option (List S)) (sc : Scope) : List ExceptHandler → Option (List (Str × Option Nat) × List (List S))
  | [] => some ([], [])
  | .ExceptHandler (some (.Name x _)) none (b :: bs) _ :: hs => guardO (glB sc x && decide (x ∈ c.hs)) (o2 (fun su r => ((x, none) :: r.1, su :: r.2)) (fH (b :: bs)) (trH c fH sc hs))
  | .ExceptHandler (some (.Name x _)) (some n) (b :: bs) _ :: hs => guardO (glB sc x && decide (x ∈ c.hs) && decide (sc.names.lookup n = some .local)) (match c.N.idxOf? n with
    | some i => guardO (decide (c.N[i]? = some n)) (o2 (fun su r => ((x, some i) :: r.1, su :: r.2)) (fH (b :: bs)) (trH c fH sc hs))
    | none => none)
  | _ => none
def trR (c : Tc) (f : Md → Scope → Expr → Option E) (sc : Scope) (x : Str) (args : List Expr) : Option S := match c.tb.lookup x, args with
  | some ([], _), [] => some (.raise x [])
  | some ([_], _), [e] => guardO (plainE e) ((f .V sc e).map fun u => .raise x [u])
  | _, _ => none
def trS1 (c : Tc) (fB fH : List Stmt → Option (List S)) (f : Md → Scope → Expr → Option E) (sc : Scope) (st : Stmt) : Option S := match st with
  | .Pass _ => some .pass
  | .Break _ => some .brk
  | .Continue _ => some .cont
  | .Raise (some (.Call (.Name x _) args [] _)) none _ => guardO (cool c && glB sc x) (trR c f sc x args)
  | .Try body (h :: hs) [] [] _ => guardO (cool c) (o2 (fun b r => .tryS c.tb b r.1 r.2) (fB body) (trH c fH sc (h :: hs)))
  | .Return none _ => some .retN
  | .Return (some (.Name x p)) _ => if c.own.contains x then (slotOf c sc x).map .retO else (f .V sc (.Name x p)).map .ret
  | .Return (some e) _ => (f .V sc e).map .ret
  | .Expr (.Constant (.str _) _ _) _ => some .pass
  | .Expr (.Call (.Attribute a m apos) [e] [] cpos) _ => if decide (pmN m ∈ c.fs) then (f .V sc (.Call (.Attribute a m apos) [e] [] cpos)).map .expr else guardO ((decide (m = ("append" : Str)) || decide (m = ("extend" : Str))) && plainE e && noCall a && (apos.endLine == cpos.line)) (o2 (if decide (m = ("append" : Str)) then .app else .ext) (f .O sc a) (f .V sc e))
  | .Expr e _ => guardO (notLc e) ((f .V sc e).map .expr)
  | .Assign [.Name x p] (.ListComp elt gens scope cpos) _ => guardO (lcB sc scope x p cpos) (o2 (stOf c x) (wrIx c sc (fun _ => true) x) (trLc c f sc elt gens scope))
  | .Assign [.Name x p] e _ => guardO (notLc e) (o2 (stOf c x) (wrIx c sc (fun _ => true) x) (f .V sc e))
  | .Assign [.Tuple [.Name x px, .Name y py] kt pt] (.Tuple [a, b] k2 pt2) _ => guardO (cool c && parB sc x y px py a b) (match wrIx c sc (fun _ => true) x, wrIx c sc (fun _ => true) y, f .V sc a, f .V sc b with
    | some i, some j, some u, some v => guardO (neB i j) (some (.par i j u v))
    | _, _, _, _ => none)
  | .Assign [.Tuple ts kt pt] e _ => guardO (cool c && (notLc e && notTup e)) (o2 .unp (wrIxs c sc (fun _ => true) ts) (f .V sc e))
  | .Assign [.Subscript a i _] e _ => guardO (plainIx i) (o3 .sidx (f .O sc a) (f .V sc i) (f .V sc e))
  | .Assign [.Attribute a m _] e _ => guardO (decide (pfN m ∈ c.fs)) (o2 (fun x y => .fset x m y) (f .O sc a) (shrIf (c.shf.contains m && isFresh e) (f .V sc e)))
  | .AugAssign (.Attribute a m _) op e _ => guardO (decide (pfN m ∈ c.fs)) (o2 (fun x y => .faug x m op y) (f .O sc a) (f .V sc e))
  | .AugAssign (.Name x _) op e _ => o2 (fun i e => .aug i op e) (wrIx c sc (fun _ => true) x) (f .V sc e)
  | .If t a b _ => o3 .cond (f .T sc t) (fB a) (fB b)
  | .For tg iter body [] _ => guardO (cool c) (match trTg c sc (fun _ => true) tg, trI c (f .V sc) sc tg iter, fB body with
    | some t, some (k, es), some b => some (.forS t k es b)
    | _, _, _ => none)
  | .While t body [] _ => o2 .whl (f .T sc t) (fB body)
  | _ => none
def trB (c : Tc) (m : Nat) (sc : Scope) : Nat → List Stmt → Option (List S)
  | 0, _ => none
  | _ + 1, [] => some []
  | n + 1, st :: ss => (trB c m sc n ss).map fun r => ((trS1 c (trB c m sc n) (trB c.hot m sc n) (tr c m) sc st).getD .never) :: r

structure Sk (X : Cx) (G : Wd) (B : Base) (K : XP) (Φ : Fns) (Γ : Cns) (c : Tc) (sc : Scope) : Prop where
  o : SOk X G B K Φ Γ c.fs
  hN : X.N = c.N
  hs : X.env.scope = sc
  mkx : ∀ x ns anc, c.tb.lookup x = some (ns, anc) → MkX G X.K X.mg x
  hd : ∀ x, x ∈ c.hs → HdX G X.K X.mg c.tb x
  tk : ∀ x C, G.cl x = some C → ∀ ns anc, c.tb.lookup x = some (ns, anc) → ns = G.fl x
  xf : FdX G X.K
section
variable {X : Cx} {G : Wd} {B : Base} {K : XP} {Φ : Fns} {Γ : Cns} {c : Tc} {sc : Scope}
theorem Sk.cok (k : Sk X G B K Φ Γ c sc) : Cok X G B K Φ Γ c sc := ⟨k.o.toXOk, k.hN, k.hs⟩
theorem swaps_no {e : Expr} (h : notLc e = true) (t : Option Expr) (l : Nat) (env : Env) : swapsWith e t l env = pure false := by
  cases e <;> first | rfl | cases h
theorem stOf_ok {we : E} {x : Str} {i : Nat} {st : Stmt} (h : PAs X G B st i (wpE Φ Γ we K false)) : PS X st (tS G B fun V env vh => wpS Φ Γ (stOf c x i we) K V env vh) := by
  unfold stOf
  split
  · exact rs_setO (mE we K false) h
  · split
    · exact rs_setS (mE we K false) h
    · exact rs_set (mE we K false) h
theorem par_ok {x y : Str} {px py pt pt2 : Pos} {kt k2 : Nat} {a b : Expr} (hs : X.env.scope = sc) (h : parB sc x y px py a b = true) : swappedStores [.Tuple [.Name x px, .Name y py] kt pt] (.Tuple [a, b] k2 pt2) X.env = pure (some [x, y]) := by
  unfold parB at h
  simp only [Bool.and_eq_true, Bool.not_eq_true', decide_eq_true_eq] at h
  obtain ⟨⟨⟨⟨⟨⟨⟨⟨h1, h2⟩, h3⟩, h4⟩, h5⟩, h6⟩, h7⟩, h8⟩, h9⟩ := h
  have kx : X.env.kindOf x = some .local := by show X.env.scope.names.lookup x = _; rw [hs]; exact h2
  have ky : X.env.kindOf y = some .local := by show X.env.scope.names.lookup y = _; rw [hs]; exact h3
  have hb : X.env.blockKind = .function := by unfold Env.blockKind; rw [hs, h1]; rfl
  have ne : ([x, y] : List Str).eraseDups.length = 2 := by
    have hxy : (y == x) = false := by
      cases q : y == x with
      | false => rfl
      | true =>
        have e := eq_of_beq q
        subst e
        simp at h5
    simp [List.eraseDups_cons, hxy]
  have p1 : (X.env.kindOf x == some NameKind.local && px.line == px.line) = true := by rw [kx]; simp
  have p2 : (X.env.kindOf y == some NameKind.local && py.line == px.line) = true := by rw [ky, h4]; rfl
  unfold swappedStores
  simp only [List.length_cons, List.length_nil, hb, List.head?_cons, Option.map_some, Option.getD_some, Expr.pos, List.filterMap_cons, List.filterMap_nil, p1, p2, if_true, ne, h8, h9]
  rw [if_neg (by decide), if_neg]
  · rfl
  · intro hz
    rw [List.any_cons, List.any_cons, List.any_nil, Bool.or_false, Bool.or_eq_true] at hz
    rcases hz with hz | hz
    · cases a <;> first | exact absurd hz Bool.false_ne_true | cases h6
    · cases b <;> first | exact absurd hz Bool.false_ne_true | cases h7
theorem sub_asg {a i : Expr} {tpos : Pos} (h : plainIx i = true) (env : Env) : ∀ v, assign (.Subscript a i tpos) env v = (do
      let ov ← holding [v] (eval a env)
      let iv ← holding [v, ov] (eval i env)
      standAt tpos
      holding [v, ov, iv] (setItem ov iv v)
      release [v, ov, iv] []) := by
  intro v
  cases i <;> first | rfl | cases h
theorem swS_no {t : Expr} {e : Expr} {l : Nat} {env : Env} (h : ∀ x p, t ≠ .Name x p) : swapsWithSole [t] e l env = pure false := by
  show swapsWith e (some t) l env = pure false
  cases e <;> first
    | rfl
    | (cases t <;> first | rfl | exact absurd rfl (h _ _))
theorem swp_sub {a i e : Expr} {p : Pos} {env : Env} : swappedStores [.Subscript a i p] e env = pure none := by
  cases e <;> rfl
theorem swp_tup {ts : List Expr} {k : Nat} {p : Pos} {e : Expr} {env : Env} (h : notTup e = true) : swappedStores [.Tuple ts k p] e env = pure none := by
  cases e <;> first | rfl | cases h


/-! ### except suites -/
theorem VD.now {V : VEnds} {D : Ends} {T ρ : List Addr} {env : VE} {vh : VH} {σ : L2.St} {H : Hp} (R : Rel G B T ρ env vh σ H) (vd : VD G B V D) : VD G (B.now T ρ env σ H) V D :=
  ⟨fun ρ env vh σ H R' z => vd.nx _ _ _ _ _ (R.unbase R') z, fun x v ρ vh H r z => vd.rt _ _ _ _ _ (r.unbase R) z, fun ρ env vh σ H R' z => vd.bk _ _ _ _ _ (R.unbase R') z, fun ρ env vh σ H R' z => vd.ct _ _ _ _ _ (R.unbase R') z⟩
theorem okG_pc {x : Str} : okG (("%e." : Str) ++ x) = false := by
  unfold okG
  have e : (("%e." : Str) ++ x).cps.toList.head? = some 37 := by
    show ((("%e." : Str).cps ++ x.cps).toList).head? = some 37
    rw [Array.toList_append]
    rfl
  rw [e]
  rfl
theorem eNm_inj {x y : Str} (h : eNm x = eNm y) : x = y := by
  unfold eNm at h
  have h1 : (("%e." : Str) ++ x).cps = (("%e." : Str) ++ y).cps := congrArg Str.cps h
  have h2 : ("%e." : Str).cps ++ x.cps = ("%e." : Str).cps ++ y.cps := h1
  have h3 : x.cps = y.cps := by
    apply Array.toList_inj.mp
    have := congrArg Array.toList h2
    rw [Array.toList_append, Array.toList_append] at this
    exact List.append_cancel_left this
  cases x; cases y
  exact congrArg Str.mk h3
theorem errG_ok {ns anc : List Str} {xs : List D} {a : Addr} {x : Str} (h : okG x = true) : errG Γ ns anc xs a x = Γ x := by
  unfold errG
  rw [if_neg (fun z => by subst z; exact absurd h (by decide +kernel)), if_neg (fun z => by subst z; exact absurd h (by decide +kernel))]
  have e : (ns.zip xs).find? (fun p => decide (eNm p.1 = x)) = none := by
    rw [List.find?_eq_none]
    intro p _ hp
    have e := of_decide_eq_true hp
    rw [← e] at h
    unfold eNm at h
    rw [okG_pc] at h
    cases h
  rw [e]
theorem errG_fld {ns anc : List Str} {xs : List D} {a : Addr} {f : Str} {d : D} (no : Γ (eNm f) = none) (h : errG Γ ns anc xs a (eNm f) = some d) : ∃ p, (ns.zip xs).find? (fun p => decide (eNm p.1 = eNm f)) = some p ∧ p.2 = d := by
  unfold errG at h
  rw [if_neg (fun z => by
    have h1 := congrArg (fun y : Str => y.cps.toList.length) z
    have h2 := congrArg (fun y : Str => y.cps.toList[1]?) z
    unfold eNm at h2
    have e : (("%e." : Str) ++ f).cps.toList[1]? = some 101 := by
      show ((("%e." : Str).cps ++ f.cps).toList)[1]? = _
      rw [Array.toList_append]
      rfl
    rw [e] at h2
    exact absurd h2 (by decide +kernel)), if_neg (fun z => by
    have h2 := congrArg (fun y : Str => y.cps.toList[1]?) z
    unfold eNm at h2
    have e : (("%e." : Str) ++ f).cps.toList[1]? = some 101 := by
      show ((("%e." : Str).cps ++ f.cps).toList)[1]? = _
      rw [Array.toList_append]
      rfl
    rw [e] at h2
    exact absurd h2 (by decide +kernel))] at h
  split at h
  · rename_i p hp
    cases h
    exact ⟨p, hp, rfl⟩
  · rw [no] at h
    cases h
theorem fld_get {Z : Addr → Prop} {ρ : List Addr} {H : Hp} {f : Str} : ∀ {ws : List (Str × V)} {xs : List D} {p : Str × D}, RDs G Z ρ H xs (ws.map (·.2)) → ((ws.map (·.1)).zip xs).find? (fun p => decide (eNm p.1 = eNm f)) = some p → ∃ v, ws.lookup f = some v ∧ RD G Z ρ H p.2 v
  | [], xs, p, h, e => by simp at e
  | w :: ws, [], p, h, e => by simp at e
  | (n, v) :: ws, x :: xs, p, h, e => by
    obtain ⟨v', r, e1, h1, h2⟩ := h
    cases e1
    rw [List.map_cons, List.zip_cons_cons, List.find?_cons] at e
    by_cases q : n = f
    · subst q
      rw [decide_eq_true (show eNm ((n, v).1, x).1 = eNm n from rfl)] at e
      cases e
      exact ⟨v, by simp, h1⟩
    · rw [decide_eq_false (fun z => q (eNm_inj z))] at e
      obtain ⟨u, h3, h4⟩ := fld_get h2 e
      refine ⟨u, ?_, h4⟩
      rw [List.lookup_cons]
      have : (f == n) = false := by simpa using fun z => q z.symm
      rw [this]
      exact h3
theorem suite_ok {n m : Nat} (hB : ∀ (body : List Stmt) (irs : List S) (X : Cx) (B : Base) (K : XP) (Γ : Cns) (c : Tc), Sk X G B K Φ Γ c sc → trB c m sc n body = some irs → PSs X body (tS G B fun V env vh => wpB Φ Γ irs K V env vh)) (k : Sk X G B K Φ Γ c sc) (hc : hotN ∉ c.fs)
    {body : List Stmt} {su : List S} (h : trB c.hot m sc n body = some su) (o : Option Nat) (a : Addr) (oe : Obj) (cls : Value) (d : Option Addr) (pn : List (Addr × Obj)) (hz : Zc cls d oe) (hf : ∃ vs, oe.data = .fields vs) :
    PSs (X.suite a ((a, oe) :: pn)) body (tSu G B Φ Γ c.tb o su a cls d) := by
  refine ⟨fun pins s σ H D I ⟨x, C, ns, anc, xs, ρ, env, vh, V, hC, ec, ht, hn, R, xf, vd, w⟩ => ?_⟩
  refine (hB body su (X.suite a ((a, oe) :: pn)) (B.now [] ρ (onE o a env) σ H) noX (errG Γ ns anc xs a) c.hot ?_ h).run pins s σ H D I ⟨ρ, onE o a env, vh, offV o V, R.rebase, vd.now R, w⟩
  have noΓ : ∀ y, okG y = false → Γ y = none := fun y hy => by
    cases q : Γ y with
    | none => rfl
    | some d => rw [k.o.ok hc y d q] at hy; cases hy
  refine ⟨{ hK := k.o.hK, calm := fun z => absurd List.mem_cons_self z, nd := k.o.nd, hu := k.o.hu, tk := ?_, fn := ?_, cn := ?_, bl := k.o.bl, mt := fun m hm => absurd (List.mem_singleton.mp hm) (pm_hot m), mkC := fun c hc => absurd (List.mem_singleton.mp hc) (pc_hot c), ic := fun f hf => absurd (List.mem_singleton.mp hf) (pf_hot f), rm := fun z => absurd List.mem_cons_self z, ok := fun z => absurd List.mem_cons_self z, er := ?_, po := PassesOwn.never, fnT := k.o.fnT, stk := k.o.stk, frm := k.o.frm, exN := k.o.exN }, k.hN, k.hs, k.mkx, k.hd, k.tk, k.xf⟩
  · rintro u s' ⟨a1, B1, sI, pins, σ, H, cls, d, e, I, nb, up, sky, na, os, ag, _, _, _, _, _, _, _, _, _, _, _, kk⟩
    exact kk.elim
  · intro f hf hn
    simp only [Tc.hot, List.mem_cons, List.not_mem_nil, or_false] at hf
    subst hf
    exact absurd hn (by decide)
  · intro x d hx hk
    rw [errG_ok hk] at hx
    exact k.o.cn x d hx hk
  · intro _ i f e pos he hb
    refine ⟨fun pins1 s1 σ1 H1 Q I1 ⟨T1, ρ1, env1, vh1, R1, dd, e1, w1⟩ => ?_⟩
    unfold wpAttr at w1
    split at w1
    · rename_i a'
      obtain ⟨ea, y, hx, fx⟩ := w1
      have ea' : a = a' := by
        have : errG Γ ns anc xs a "%a" = some (.adr a) := by unfold errG; rw [if_pos rfl]
        rw [this] at ea
        exact _root_.R.D.adr.inj (Option.some.inj ea)
      subst ea'
      have hs1 : env1[i]? = some (.val (.adr a)) := by
        unfold Op.raw at e1
        dsimp only at e1
        split at e1
        · rename_i d hd
          cases e1
          exact hd
        · cases e1
      obtain ⟨v1, hv1, rv1⟩ := R1.st i _ hs1
      cases (show v1 = .ref a from rv1)
      obtain ⟨p, hp, rfl⟩ := errG_fld (noΓ _ okG_pc) hx
      have hns : f ∈ ns := by
        have h1 := List.mem_of_find?_eq_some hp
        have h2 := List.find?_some hp
        have h3 : p.1 = f := eNm_inj (of_decide_eq_true h2)
        rw [← h3]
        exact (List.of_mem_zip h1).1
      obtain ⟨xf1, xf2⟩ := k.xf x C hC
      cases d with
      | none =>
        obtain ⟨_, z⟩ := xf
        rw [z] at hns
        cases hns
      | some da =>
        obtain ⟨ws, vs, g1, g2, g3, g4⟩ := xf
        subst ec
        subst g3
        rw [← g2] at hp
        have ms := R.moved R1
        obtain ⟨v, q1, q2⟩ := fld_get (RDs.move ms _ _ g4) hp
        have hda : H1 da = some (.xd ws) := R1.kp da _ g1 fun z => by
          obtain ⟨u, z1, z2⟩ := R.tk da (.inr z)
          rw [g1] at z1
          cases z1
          exact z2
        refine (pe_xf xf1 (xf2 f (by rw [← hn]; exact hns)) hz hf he (hb f)).run pins1 s1 σ1 H1 Q I1 ⟨.ref a, hv1, rfl, rfl, da, ws, v, rfl, hda, q1, ?_⟩
        exact fx ρ1 v H1 (R1.res q2)
    · exact w1.elim
theorem trH_ok {n m : Nat} (hB : ∀ (body : List Stmt) (irs : List S) (X : Cx) (B : Base) (K : XP) (Γ : Cns) (c : Tc), Sk X G B K Φ Γ c sc → trB c m sc n body = some irs → PSs X body (tS G B fun V env vh => wpB Φ Γ irs K V env vh)) (k : Sk X G B K Φ Γ c sc) (hc : hotN ∉ c.fs) :
    ∀ (hds : List ExceptHandler) (r : List (Str × Option Nat) × List (List S)), trH c (trB c.hot m sc n) sc hds = some r → HsOk X G B Φ Γ c.tb hds r.1 r.2
  | [], r, h => by
    cases h
    exact .nil
  | hd :: hds, r, h => by
    unfold trH at h
    split at h
    · rename_i e
      cases e
    · rename_i x np b bs pos hs e
      cases e
      obtain ⟨hg, h⟩ := guard_ok h
      rw [Bool.and_eq_true] at hg
      obtain ⟨su, r2, h1, h2, rfl⟩ := o2_ok h
      exact .plain (gl_ok k.cok hg.1) (k.hd _ (of_decide_eq_true hg.2)) (fun a oe cls d pn hz hf => suite_ok hB k hc h1 none a oe cls d pn hz hf) (trH_ok hB k hc _ _ h2)
    · rename_i x np n' b bs pos hs e
      cases e
      obtain ⟨hg, h⟩ := guard_ok h
      rw [Bool.and_eq_true, Bool.and_eq_true] at hg
      split at h
      · rename_i i hi
        obtain ⟨hg2, h⟩ := guard_ok h
        obtain ⟨su, r2, h1, h2, rfl⟩ := o2_ok h
        exact .named (by rw [k.hN]; exact of_decide_eq_true hg2) (by show X.env.scope.names.lookup _ = _; rw [k.hs]; exact of_decide_eq_true hg.2) (gl_ok k.cok hg.1.1) (k.hd _ (of_decide_eq_true hg.1.2)) (fun a oe cls d pn hz hf => suite_ok hB k hc h1 (some i) a oe cls d pn hz hf) (trH_ok hB k hc _ _ h2)
      · cases h
    · cases h
theorem trS_ok {n m : Nat} (hB : ∀ (body : List Stmt) (irs : List S) (X : Cx) (B : Base) (K : XP) (Γ : Cns) (c : Tc), Sk X G B K Φ Γ c sc → trB c m sc n body = some irs → PSs X body (tS G B fun V env vh => wpB Φ Γ irs K V env vh)) (k : Sk X G B K Φ Γ c sc) {st : Stmt} {ir : S}
    (h : trS1 c (trB c m sc n) (trB c.hot m sc n) (tr c m) sc st = some ir) : PS X st (tS G B fun V env vh => wpS Φ Γ ir K V env vh) := by
  have hV : ∀ e ir, tr c m .V sc e = some ir → OkV X G B K Φ Γ e ir := fun e ir h => tr_ok m .V sc e ir X B K k.cok h
  have hO : ∀ e ir, tr c m .O sc e = some ir → OkO X G B K Φ Γ e ir := fun e ir h => tr_ok m .O sc e ir X B K k.cok h
  have hT : ∀ e ir, tr c m .T sc e = some ir → OkT X G B K Φ Γ e ir := fun e ir h => tr_ok m .T sc e ir X B K k.cok h
  have hW : ∀ {x : Str} {i : Nat}, wrIx c sc (fun _ => true) x = some i → X.N[i]? = some x ∧ Loc X.env.scope x := fun {x i} h => by
    obtain ⟨q1, q2, q3⟩ := wr_ok k.hN k.hs (fun x _ => k.o.fnT x) h
    exact ⟨q1, q2⟩
  unfold trS1 at h
  split at h
  · cases h; exact rs_pass
  · cases h; exact rs_break
  · cases h; exact rs_cont
  · rename_i x p args pos pos'
    obtain ⟨hg, h'⟩ := guard_ok h
    clear h
    have h := h'
    clear h'
    rw [Bool.and_eq_true] at hg
    have hc := cool_ok hg.1
    have hgl := gl_ok k.cok hg.2
    replace h : trR c (tr c m) sc x args = some ir := h
    unfold trR at h
    split at h
    · rename_i anc hl
      cases h
      obtain ⟨C, hC, ⟨hf, T⟩ | ⟨f, fI, hf, T⟩⟩ := k.mkx _ _ _ hl
      · exact rs_raise0 k.o hc hgl hC hf T
      · have q := k.tk _ C hC _ _ hl
        rw [hf] at q
        cases q
    · rename_i fd anc e hl
      obtain ⟨hp, h⟩ := guard_ok h
      obtain ⟨u, h1, rfl⟩ := map_ok h
      obtain ⟨C, hC, ⟨hf, T⟩ | ⟨f, fI, hf, T⟩⟩ := k.mkx _ _ _ hl
      · have q := k.tk _ C hC _ _ hl
        rw [hf] at q
        cases q
      · exact rs_raise1 k.o hc hgl hC hf T (mEs [u] K) (ra_cons (mE u K false) (mEs [] K) (hV _ _ h1) ra_nil (star_cons hp)) (star_cons hp)
    · cases h
  · rename_i body hd hds pos
    obtain ⟨hg, h⟩ := guard_ok h
    obtain ⟨b, r, h1, h2, rfl⟩ := o2_ok h
    exact rs_try k.o k.tk (fun X' K' e1 e2 e3 e4 o' => hB _ _ X' B K' Γ c ⟨o', e1.trans k.hN, by rw [e2]; exact k.hs, by rw [e3, e4]; exact k.mkx, by rw [e3, e4]; exact k.hd, k.tk, by rw [e3]; exact k.xf⟩ h1) (cool_ok hg) (trH_ok hB k (cool_ok hg) _ _ h2)
  · cases h; exact rs_retN
  · split at h
    · obtain ⟨i, h1, rfl⟩ := map_ok h
      exact rs_retO (pe_slot k.cok h1)
    · obtain ⟨e, h1, rfl⟩ := map_ok h
      exact rs_ret (mE e K false) (hV _ _ h1)
  · obtain ⟨e, h1, rfl⟩ := map_ok h
    exact rs_ret (mE e K false) (hV _ _ h1)
  · cases h; exact rs_doc
  · rename_i a mm apos e cpos pos
    split at h
    · obtain ⟨e, h1, rfl⟩ := map_ok h
      exact rs_expr (mE e K false) (hV _ _ h1) (swaps_no rfl _ _ _)
    obtain ⟨hg, h'⟩ := guard_ok h
    clear h
    simp only [Bool.and_eq_true] at hg
    obtain ⟨⟨⟨g1, g2⟩, g3⟩, g4⟩ := hg
    obtain ⟨u, v, h1, h2, rfl⟩ := o2_ok h'
    by_cases ga : mm = ("append" : Str)
    · subst ga
      exact rs_app k.o (mO u K) (mE v K false) (hO _ _ h1) (hV _ _ h2) (attr_no g3) g4 (star_cons g2)
    · rw [decide_eq_false ga, Bool.false_or] at g1
      have g1 : mm = ("extend" : Str) := of_decide_eq_true g1
      subst g1
      rw [decide_eq_false ga]
      exact rs_ext k.o (mO u K) (mE v K false) (hO _ _ h1) (hV _ _ h2) (attr_no g3) g4 (star_cons g2)
  · obtain ⟨hg, h⟩ := guard_ok h
    obtain ⟨e, h1, rfl⟩ := map_ok h
    exact rs_expr (mE e K false) (hV _ _ h1) (swaps_no hg _ _ _)
  · rename_i x p elt gens scope cpos pos
    obtain ⟨hg, h⟩ := guard_ok h
    obtain ⟨i, e, h1, h2, rfl⟩ := o2_ok h
    unfold lcB at hg
    simp only [Bool.and_eq_true, Bool.not_eq_true', decide_eq_true_eq] at hg
    obtain ⟨⟨⟨g1, g2⟩, g3⟩, g4⟩ := hg
    obtain ⟨q1, q2⟩ := hW h1
    obtain ⟨tg, iter, ifs, own, wi, g, tt, te, rfl, hi, ok, hgg, ht, he, hs, im⟩ := lc_parts k.cok hV (fun m' e ir X' B' k' h' => tr_ok m m' _ e ir X' B' _ k' h') h2
    refine stOf_ok ((ps_setLc (pos := cpos) (spos := pos) (py := p) (k.o.calm (trLc_cool h2)) k.o.nd q1 (by rw [k.hs]; exact g2) (sw_true (by rw [k.hs]; exact g1) (by rw [k.hs]; exact g2) g3 g4) hi ok hgg ht he hs).imp fun D σ H z => im _ _ _ z)
  · rename_i x p e pos _
    obtain ⟨hg, h⟩ := guard_ok h
    obtain ⟨i, ir, h1, h2, rfl⟩ := o2_ok h
    obtain ⟨q1, q2⟩ := hW h1
    exact stOf_ok (pas_set k.o q1 q2 (hV _ _ h2) (swaps_no hg _ _ _))
  · rename_i x px y py kt pt a b k2 pt2 pos
    obtain ⟨hg', h⟩ := guard_ok h
    rw [Bool.and_eq_true] at hg'
    obtain ⟨hc, hg⟩ := hg'
    have hc := cool_ok hc
    split at h
    · rename_i i j u v h1 h2 h3 h4
      obtain ⟨hn, h⟩ := guard_ok h
      cases h
      have hg0 := hg
      unfold parB at hg
      simp only [Bool.and_eq_true, Bool.not_eq_true', decide_eq_true_eq] at hg
      obtain ⟨⟨⟨⟨⟨⟨⟨⟨g1, g2⟩, g3⟩, g4⟩, g5⟩, g6⟩, g7⟩, g8⟩, g9⟩ := hg
      have hij : i ≠ j := by
        unfold neB at hn
        simpa using hn
      exact rs_par k.o hc (mEs [u, v] K) (hW h1).1 (hW h2).1 hij (by rw [k.hs]; exact g2) (by rw [k.hs]; exact g3) (ra_cons (mE u K false) (mEs [v] K) (hV _ _ h3) (ra_cons (mE v K false) (mEs [] K) (hV _ _ h4) ra_nil (star_cons g7)) (star_cons g6)) (par_ok k.hs hg0) (swS_no fun _ _ e => by cases e)
    · cases h
  · rename_i ts kt pt e pos _
    obtain ⟨hg, h⟩ := guard_ok h
    rw [Bool.and_eq_true, Bool.and_eq_true] at hg
    obtain ⟨hc, hg⟩ := hg
    have hc := cool_ok hc
    obtain ⟨is, ir, h1, h2, rfl⟩ := o2_ok h
    obtain ⟨r1, r2, r3⟩ := wrs_ok k.o.nd k.hN k.hs (fun x _ => k.o.fnT x) h1
    refine rs_unp k.o (mE ir K false) (hV _ _ h2) ?_ (swS_no fun _ _ e => by cases e) (swp_tup hg.2) rfl
    show PG X _ (gTup G.K is.length (gNames is))
    rw [← k.o.hK]
    exact pg_tup (k.o.calm hc) r1 r2 r3
  · rename_i a i tpos e pos
    obtain ⟨hg, h⟩ := guard_ok h
    obtain ⟨u, v, w, h1, h2, h3, rfl⟩ := o3_ok h
    exact rs_sidx k.o (mO u K) (mE v K false) (mE w K false) (hO _ _ h1) (hV _ _ h2) (hV _ _ h3) (sub_asg hg _) (swS_no fun _ _ e => by cases e) swp_sub rfl
  · rename_i a mm pos' e pos
    obtain ⟨hg, h⟩ := guard_ok h
    obtain ⟨u, v, h1, h2, rfl⟩ := o2_ok h
    exact rs_fset k.o (mO u K) (mE v K false) (hO _ _ h1) (shrIf_ok (hV e) h2) (of_decide_eq_true hg) (show swapsWithSole [.Attribute a mm pos'] e pos.line X.env = pure false from swS_no fun _ _ z => by cases z)
  · rename_i a mm pos' op e pos
    obtain ⟨hg, h⟩ := guard_ok h
    obtain ⟨u, v, h1, h2, rfl⟩ := o2_ok h
    exact rs_faug k.o (mO u K) (mE v K false) (hO _ _ h1) (hV _ _ h2) (of_decide_eq_true hg)
  · obtain ⟨i, e, h1, h2, rfl⟩ := o2_ok h
    obtain ⟨q1, q2⟩ := hW h1
    exact rs_aug k.o (mE e K false) q1 q2 (hV _ _ h2)
  · obtain ⟨t, a, b, h1, h2, h3, rfl⟩ := o3_ok h
    exact rs_cond (mE t K true) (hT _ _ h1).1 (hB _ _ _ _ _ _ _ k h2) (hB _ _ _ _ _ _ _ k h3)
  · rename_i tg iter body pos
    obtain ⟨hc, h⟩ := guard_ok h
    have hc := cool_ok hc
    split at h
    · rename_i t ik es b h1 h2 h3
      cases h
      obtain ⟨hi, hfs⟩ := trI_ok (tg := tg) k.cok hV h2
      have key := rs_for k.o hc (mI ik es K) (body := body) (pos := pos) (wb := fun V env vh => wpB Φ Γ b K V env vh) hi (trTg_ok (k.o.calm hc) k.o.hK k.o.nd k.hN k.hs (fun x _ => k.o.fnT x) h1) (fun B' o' => hB _ _ X B' K Γ c ⟨o', k.hN, k.hs, k.mkx, k.hd, k.tk, k.xf⟩ h3) hfs
      exact key
    · cases h
  · obtain ⟨t, b, h1, h2, rfl⟩ := o2_ok h
    exact rs_whl k.o (mE t K true) (hT _ _ h1).1 (hB _ _ _ _ _ _ _ k h2)
  · cases h
end
section
variable {G : Wd} {Φ : Fns}
theorem trB_ok {m : Nat} {sc : Scope} : ∀ (n : Nat) (body : List Stmt) (irs : List S) (X : Cx) (B : Base) (K : XP) (Γ : Cns) (c : Tc), Sk X G B K Φ Γ c sc → trB c m sc n body = some irs → PSs X body (tS G B fun V env vh => wpB Φ Γ irs K V env vh)
  | 0, _, _, _, _, _, _, _, _, h => by cases h
  | n + 1, [], irs, X, B, K, Γ, c, k, h => by
    cases h
    exact rs_nil
  | n + 1, st :: ss, irs, X, B, K, Γ, c, k, h => by
    obtain ⟨b, h2, rfl⟩ := map_ok (show (trB c m sc n ss).map (fun r => ((trS1 c (trB c m sc n) (trB c.hot m sc n) (tr c m) sc st).getD .never) :: r) = some irs from h)
    cases q : trS1 c (trB c m sc n) (trB c.hot m sc n) (tr c m) sc st with
    | none => exact rs_cons (w1 := fun V env vh => wpS Φ Γ .never K V env vh) (w2 := fun V env vh => wpB Φ Γ b K V env vh) rs_never (trB_ok n ss b X B K Γ c k h2)
    | some a => exact rs_cons (w1 := fun V env vh => wpS Φ Γ a K V env vh) (w2 := fun V env vh => wpB Φ Γ b K V env vh) (trS_ok (fun body irs X B K Γ c => trB_ok n body irs X B K Γ c) k q) (trB_ok n ss b X B K Γ c k h2)
end
end R

set_option autoImplicit false
namespace R
open PySem PySem.Spec PyProof.Rows L2
/-! ## R10: defs -/
def startE (N : List Str) (ds : List D) : VE := ds.map Slot.val ++ List.replicate (N.length - ds.length) Slot.no
/-- the body keeps the promise -/
def Sat (Φ : Fns) (Γ : Cns) (irs : List S) (N ps : List Str) (sp : VSp) : Prop := ∀ ds vh R, sp.run ds vh R → ds.length = ps.length ∧
  wpB Φ Γ irs (fun c xs _ vh => R (.exc c xs) vh) ⟨fun _ vh => R (.ok (.v .non)) vh, fun x vh => R (.ok x) vh, fun _ _ => False, fun _ _ => False⟩ (startE N ds) vh
/-- a def that may be called by its name -/
structure Df (P : Program) (w : World) (K : PySem.W.Frag) (mg : Str → Option Value) (base : Heap) (G : Wd) (k : Nat) (x : Str) (sp : VSp) : Prop where
  ex : ∃ (a : Addr) (fd : FuncData) (ps : List Str), mg x = some (.ref a) ∧ PySem.W.keepIn K (.ref a) = true ∧ Binds K fd ps [] ∧ FnOk P w K mg base (L2.CX P w) k a fd ps (spV G sp) ∧ (x == ("__debug__" : Str)) = false
theorem Df.mono {P : Program} {w : World} {K : PySem.W.Frag} {mg : Str → Option Value} {base : Heap} {G : Wd} {j k : Nat} {x : Str} {sp : VSp} (h : Df P w K mg base G j x sp) (l : j ≤ k) : Df P w K mg base G k x sp := by
  obtain ⟨a, fd, ps, h1, h2, h3, h4, h5⟩ := h.ex
  exact ⟨a, fd, ps, h1, h2, h3, h4.mono l, h5⟩
/-- a class's method -/
def MtF (P : Program) (w : World) (K : PySem.W.Frag) (mg : Str → Option Value) (base : Heap) (G : Wd) (k : Nat) (C : Addr) (m : Str) (sp : VSp) : Prop :=
  ∃ (a : Addr) (fd : FuncData) (ps : List Str), Cls K C ∧ Meth K C m a ∧ Binds K fd ps [] ∧ FnOk P w K mg base (L2.CX P w) k a fd ps (spV G sp)
/-- a class that is made -/
def MkF (P : Program) (w : World) (K : PySem.W.Frag) (mg : Str → Option Value) (base : Heap) (G : Wd) (k : Nat) (c : Str) (sp : VSp) : Prop :=
  ∃ (C a : Addr) (fd : FuncData) (ps : List Str) (j : Nat), j + 1 ≤ k ∧ G.ci c = some C ∧ mg c = some (.ref C) ∧ Mk K C a ∧ Binds K fd ps [] ∧ FnOk P w K mg base (L2.CX P w) j a fd ps (spV G sp) ∧ (c == ("__debug__" : Str)) = false
/-- what a name in the list of names stands for -/
structure DfA (P : Program) (w : World) (K : PySem.W.Frag) (mg : Str → Option Value) (base : Heap) (G : Wd) (k : Nat) (Φ : Fns) (g : Str) : Prop where
  fn : okF g = true → Df P w K mg base G k g (Φ g)
  mt : ∀ m, g = pmN m → ∀ c C, G.ci c = some C → (Φ (mN c m)).ex → MtF P w K mg base G k C m (Φ (mN c m))
  mkC : ∀ c, g = pcN c → MkF P w K mg base G k c (Φ (mN c "__init__"))
  ic : ∀ f, g = pfN f → ∀ c C, G.ci c = some C → Cls K C ∧ NoAttr K C f
section
variable {P : Program} {w : World} {K : PySem.W.Frag} {mg : Str → Option Value} {base : Heap} {G : Wd} {j k : Nat} {Φ : Fns}
theorem MtF.mono {C : Addr} {m : Str} {sp : VSp} (h : MtF P w K mg base G j C m sp) (l : j ≤ k) : MtF P w K mg base G k C m sp := by
  obtain ⟨a, fd, ps, h1, h2, h3, h4⟩ := h
  exact ⟨a, fd, ps, h1, h2, h3, h4.mono l⟩
theorem DfA.of_fn {g : Str} (h : Df P w K mg base G k g (Φ g)) (ok : okF g = true) : DfA P w K mg base G k Φ g :=
  ⟨fun _ => h, fun m e => (by rw [e, ok_pm] at ok; cases ok), fun c e => (by rw [e, ok_pc] at ok; cases ok), fun f e => (by rw [e, ok_pf] at ok; cases ok)⟩
theorem DfA.of_mt {m : Str} (h : ∀ c C, G.ci c = some C → (Φ (mN c m)).ex → MtF P w K mg base G k C m (Φ (mN c m))) : DfA P w K mg base G k Φ (pmN m) :=
  ⟨fun z => (by rw [ok_pm] at z; cases z), fun m' e => (by cases pmN_inj e; exact h), fun c e => (pm_pc _ _ e).elim, fun f e => (pm_pf _ _ e).elim⟩
theorem DfA.of_mk {c : Str} (h : MkF P w K mg base G k c (Φ (mN c "__init__"))) : DfA P w K mg base G k Φ (pcN c) :=
  ⟨fun z => (by rw [ok_pc] at z; cases z), fun m' e => (pm_pc _ _ e.symm).elim, fun c' e => (by cases pcN_inj e; exact h), fun f e => (pc_pf _ _ e).elim⟩
theorem DfA.of_ic {f : Str} (h : ∀ c C, G.ci c = some C → Cls K C ∧ NoAttr K C f) : DfA P w K mg base G k Φ (pfN f) :=
  ⟨fun z => (by rw [ok_pf] at z; cases z), fun m' e => (pm_pf _ _ e.symm).elim, fun c' e => (pc_pf _ _ e.symm).elim, fun f' e => (by cases pfN_inj e; exact h)⟩
end
/-- a look at the names of a def -/
def defB (N P : List Str) (sc : Scope) : Bool := decide (sc.kind = .function) && (!sc.isCoroutine && (!sc.isGenerator && (decide N.Nodup && (decide (N.take P.length = P) && (P.all (fun x => decide (sc.names.lookup x = some .local) || decide (sc.names.lookup x = some .cell)) && sc.names.all fun y => !decide (y.2 = .free))))))
theorem defB_ok {N P : List Str} {sc : Scope} (h : defB N P sc = true) : FnScope N P sc := by
  unfold defB at h
  simp only [Bool.and_eq_true, Bool.not_eq_true', decide_eq_true_eq, List.all_eq_true, Bool.or_eq_true, decide_eq_false_iff_not] at h
  exact ⟨h.1, h.2.1, h.2.2.1, h.2.2.2.1, h.2.2.2.2.1, h.2.2.2.2.2.1, h.2.2.2.2.2.2⟩
structure Gnd (K : PySem.W.Frag) (mg : Str → Option Value) (G : Wd) (Γ : Cns) (tb : List (Str × List Str × List Str)) (hs : List Str) : Prop where
  hK : G.K = K
  ok : ∀ x d, Γ x = some d → okG x = true
  mkx : ∀ x ns anc, tb.lookup x = some (ns, anc) → MkX G K mg x
  hd : ∀ x, x ∈ hs → HdX G K mg tb x
  tk : ∀ x C, G.cl x = some C → ∀ ns anc, tb.lookup x = some (ns, anc) → ns = G.fl x
  xf : FdX G K
  cn : ∀ x d, Γ x = some d → ∃ u v, mg x = some u ∧ RelV v u ∧ (∀ Z ρ H, RD G Z ρ H d v) ∧ (x == ("__debug__" : Str)) = false
  bl : ∀ x, x ∈ bltNames → mg x = none
section
variable {G : Wd} {B : Base} {ρ : List Addr} {vh : VH} {H : Hp}
theorem startE_length {N : List Str} {ds : List D} (h : ds.length ≤ N.length) : (startE N ds).length = N.length := by
  unfold startE
  rw [List.length_append, List.length_map, List.length_replicate]
  omega
theorem startE_get {N : List Str} {ds : List D} {i : Nat} {s : Slot} (h : (startE N ds)[i]? = some s) : s = .no ∨ ∃ d, s = .val d ∧ ds[i]? = some d := by
  unfold startE at h
  by_cases hi : i < ds.length
  · rw [List.getElem?_append_left (by simpa using hi), List.getElem?_map] at h
    cases e : ds[i]? with
    | none => rw [e] at h; cases h
    | some d => rw [e] at h; cases h; exact .inr ⟨d, rfl, rfl⟩
  · rw [List.getElem?_append_right (by simpa using hi), List.getElem?_replicate] at h
    split at h
    · cases h; exact .inl rfl
    · cases h
theorem Rel.start {N : List Str} {ds : List D} {vs : List V} (R : Rel G B [] ρ [] vh [] H) (h : RDs G (ZZ B.F [] ρ [] []) ρ H ds vs) (hl : ds.length ≤ N.length) : Rel G B [] ρ (startE N ds) vh (L2.start N vs) H := by
  have hO : ∀ i a, Own (startE N ds) (L2.start N vs) a i → False := fun i a ⟨xs, h1, h2⟩ => by
    rcases startE_get h1 with e | ⟨d, e, _⟩ <;> cases e
  refine R.weak (fun _ h => h) R.tn (fun i a z => (hO i a z).elim) ?_ fun i s hs => ?_
  · rw [startE_length hl]
    unfold L2.start
    rw [List.length_append, List.length_map, List.length_replicate, ← h.length]
    omega
  · rcases startE_get hs with rfl | ⟨d, rfl, hd⟩
    · trivial
    · obtain ⟨v, h1, h2⟩ := h.get hd
      refine ⟨v, ?_, RD.move (Mv.less fun b z => ?_) _ _ h2⟩
      · unfold L2.start
        have hi : i < vs.length := (List.getElem?_eq_some_iff.mp h1).1
        rw [List.getElem?_append_left (by simpa using hi), List.getElem?_map, h1]
        rfl
      · rcases z with z | z | z | ⟨j, z⟩
        · exact .inl z
        · exact .inr (.inl z)
        · exact .inr (.inr (.inl z))
        · exact (hO j b z).elim
theorem Rel.leave {T : List Addr} {env : VE} {σ : L2.St} (R : Rel G B T ρ env vh σ H) : Rel G B [] ρ [] vh [] H :=
  R.weak (fun _ h => by cases h) List.nodup_nil (fun i a z => absurd z no_own) rfl fun i s h => by simp at h
theorem leaveMv {T : List Addr} {env : VE} {σ : L2.St} : Mv (ZZ B.F T ρ env σ) ρ H (ZZ B.F [] ρ [] []) ρ H := Mv.less fun b z => by
  rcases z with z | z | z | ⟨j, z⟩
  · exact .inl z
  · cases z
  · exact .inr (.inr (.inl z))
  · exact absurd z no_own
end
section
variable {P : Program} {w : World} {K : PySem.W.Frag} {mg : Str → Option Value} {base : Heap} {G : Wd} {Φ : Fns} {Γ : Cns} {c : Tc} {k m n : Nat}
theorem fn_ok {x qual : Str} {st : Stmt} {f : Addr} {fd : FuncData} {ps : List Str} {irs : List S} {sp : VSp} (F : Fun K x qual st f fd) (hsc : defB c.N ps (defScope st) = true) (ht : eqO (trB c m (defScope st) n (defBody st)) irs = true)
    (hfs : ∀ g, g ∈ c.fs → DfA P w K mg base G k Φ g) (gd : Gnd K mg G Γ c.tb c.hs) (hc : hotN ∉ c.fs) (sat : Sat Φ Γ irs c.N ps sp) : FnOk P w K mg base (L2.CX P w) (k + 1) f fd ps (spV G sp) := by
  have S := defB_ok hsc
  refine F.okX S (fun vs H Q E h => ?_) fun cdv A outer s H vs Q E hr h => ?_
  · obtain ⟨F0, ρ, vh, ds, R, hds, run⟩ := h
    rw [← hds.length]
    exact (sat _ _ _ run).1
  · obtain ⟨F0, ρ, vh, ds, R, hds, run⟩ := h
    obtain ⟨hl, wp⟩ := sat _ _ _ run
    have hN : ds.length ≤ c.N.length := by
      have := congrArg List.length S.pre
      rw [List.length_take] at this
      omega
    refine ⟨_, trB_ok (Φ := Φ) (sc := defScope st) (m := m) n (defBody st) irs _ ⟨F0, fun a => a ∈ ρ, H, ρ⟩ _ Γ c ⟨?_, rfl, rfl, gd.mkx, gd.hd, gd.tk, gd.xf⟩ (eqO_ok ht), ρ, startE c.N ds, vh, _, R.start hds hN, ?_, wp⟩
    · refine { hK := gd.hK.symm, calm := fun _ => rfl, nd := S.nd, hu := ?_, tk := ?_, fn := fun g hg ok => ?_, mt := ?_, mkC := ?_, ic := fun f hf => (hfs _ hf).ic f rfl, cn := fun x d h _ => gd.cn x d h, bl := gd.bl, po := passes_of rfl, fnT := fun _ => rfl, stk := rfl, frm := rfl, exN := rfl, rm := fun _ => (show (A.deeper (envOfC qual (defScope st) s.heap.objs.size f cdv)).depth + 1 < recursionLimit from Nat.lt_of_le_of_lt (by omega) hr.dp), ok := fun _ => gd.ok, er := fun h => absurd h hc }
      · exact hr.units
      · refine Takes.imp (W := fun cls d _ H => E cls d H) (takes_of rfl rfl rfl rfl) ?_
        rintro cls d σ H' ⟨c', C, xs, T, ρ', env, vh', hc, e, S', xf, kk⟩
        subst e
        exact kk ρ' C d H' hc S'.leave (xf.moveX leaveMv fun a u _ h => h)
      · obtain ⟨a, fd', ps', h1, h2, h3, h4, h5⟩ := ((hfs g hg).fn ok).ex
        exact ⟨a, fd', ps', k, h1, h2, h3, h4, hr, h5⟩
      · intro m hm c' C hC hx
        obtain ⟨a, fd', ps', h1, h2, h3, h4⟩ := (hfs _ hm).mt m rfl c' C hC hx
        exact ⟨a, fd', ps', k, h1, h2, h3, h4, hr⟩
      · intro c' hc'
        obtain ⟨C, a, fd', ps', j, hj, h1, h2, h3, h4, h5, h6⟩ := (hfs _ hc').mkC c' rfl
        exact ⟨C, a, fd', ps', j, h1, h2, h3, h4, h5, hr.mono hj, h6⟩
    · exact ⟨fun ρ' env' vh' σ' H' R' z => z ρ' .non H' ⟨R'.leave, rfl⟩, fun x v ρ' vh' H' r z => z ρ' v H' r, fun _ _ _ _ _ _ z => z.elim, fun _ _ _ _ _ _ z => z.elim⟩
theorem df_ok {x : Str} {st : Stmt} {f : Addr} {fd : FuncData} {ps : List Str} {irs : List S} {sp : VSp} (F : Fun K x x st f fd) (hm : mg x = some (.ref f)) (b : Binds K fd ps []) (hdb : (x == ("__debug__" : Str)) = false) (hsc : defB c.N ps (defScope st) = true)
    (ht : eqO (trB c m (defScope st) n (defBody st)) irs = true) (hfs : ∀ g, g ∈ c.fs → DfA P w K mg base G k Φ g) (gd : Gnd K mg G Γ c.tb c.hs) (hc : hotN ∉ c.fs) (sat : Sat Φ Γ irs c.N ps sp) : Df P w K mg base G (k + 1) x sp :=
  ⟨f, fd, ps, hm, F.kp, b, fn_ok F hsc ht hfs gd hc sat, hdb⟩
/-- the law's promise, as the end wants it -/
theorem law_end {sp : VSp} {H : Hp} {a : Addr} {ns : List Int} (ho : Only H) (hs : SqL G.K H a (ns.map V.int)) (h : sp.run [.scr ns] [] fun o _ => o = .ok (.v (.bl true))) : spV G sp [.ref a] H (fun v _ => v = .bl true) fun _ _ _ => False := by
  refine ⟨fun _ => False, [], [], [.scr ns], ⟨rfl, List.nodup_nil, List.nodup_nil, fun a h => (by cases h), fun i a z => absurd z no_own, fun i j a z => absurd z no_own, fun a f => f.elim, fun a z => ?_, fun n o a h1 => (by simp at h1), rfl, fun i s h => (by simp at h), fun _ _ h _ => h, fun _ _ h => h, fun a z => ?_, fun _ _ h => h⟩, ⟨.ref a, [], rfl, ⟨a, rfl, ?_⟩, rfl⟩, sp.mono _ _ _ _ (fun o vh' e => ?_) h⟩
  · rcases z with z | z | z | ⟨i, z⟩
    · exact z.elim
    · cases z
    · cases z
    · exact absurd z no_own
  · rcases z with z | z | ⟨i, z⟩
    · cases z
    · cases z
    · exact absurd z no_own
  · rcases hs with hs | hs
    · refine .inl ⟨?_, hs⟩
      rintro (z | z | z | ⟨i, z⟩)
      · exact z
      · cases z
      · cases z
      · exact absurd z no_own
    · exact .inr hs
  · subst e
    rintro ρ' v H' ⟨_, r⟩
    exact r
end
/-- what a clause's class says of an error's class -/
theorem exm_by {K : PySem.W.Frag} {c : Value} {S : Addr} {b : Bool} (h1 : PySem.W.subIn K (.ref S) (.type "BaseException") = some true) (h2 : PySem.W.isClsIn K S = true) (h3 : PySem.W.typeIn K (.ref S) = some (.type "type")) (h4 : PySem.W.subIn K c (.ref S) = some b) :
    PySem.W.exmOne K c (.ref S) = some b := by
  have e1 : (PySem.W.subIn K (.ref S) (.type "BaseException") == some true) = true := by rw [h1] <;> rfl
  have e2 : ((PySem.W.clsIn K S).isSome && PySem.W.typeIn K (.ref S) == some (.type "type")) = true := by
    have h2' : (PySem.W.clsIn K S).isSome = true := h2
    rw [h2', h3] <;> rfl
  show (if (PySem.W.subIn K (.ref S) (.type "BaseException") == some true) = true then (if ((PySem.W.clsIn K S).isSome && PySem.W.typeIn K (.ref S) == some (.type "type")) = true then PySem.W.subIn K c (.ref S) else none) else none) = some b
  rw [if_pos e1, if_pos e2]
  exact h4
/-- a def that calls itself so deep -/
theorem df_rec {P : Program} {w : World} {K : PySem.W.Frag} {mg : Str → Option Value} {base : Heap} {G : Wd} {x : Str} {k : Nat} {sp : Nat → VSp} (h0 : Df P w K mg base G k x (sp 0)) (hs : ∀ n, Df P w K mg base G (k + n) x (sp n) → Df P w K mg base G (k + n + 1) x (sp (n + 1))) : ∀ n, Df P w K mg base G (k + n) x (sp n)
  | 0 => h0
  | n + 1 => hs n (df_rec h0 hs n)
end R

set_option autoImplicit false
namespace R
open PySem PySem.Spec PyProof.Rows L2
/-! ## R11: steps -/
structure VLe (V V' : VEnds) : Prop where
  nx : ∀ e h, V.nx e h → V'.nx e h
  rt : ∀ x h, V.rt x h → V'.rt x h
  bk : ∀ e h, V.bk e h → V'.bk e h
  ct : ∀ e h, V.ct e h → V'.ct e h
theorem setSh_mono {n : Nat} {k x : D} {vh : VH} {Q Q' : VH → Prop} (f : ∀ h, Q h → Q' h) (h : setSh n k x vh Q) : setSh n k x vh Q' := by
  unfold setSh at *
  split at h <;> first
    | (obtain ⟨m, a, b⟩ := h; exact ⟨m, a, f _ b⟩)
    | exact h
theorem wpSet_mono {o : Op} {k x : D} {env : VE} {vh : VH} {Q Q' : VE → VH → Prop} (f : ∀ e h, Q e h → Q' e h) (h : wpSet o k x env vh Q) : wpSet o k x env vh Q' := by
  unfold wpSet at *
  split at h
  · exact setSh_mono (f _) h
  · exact h
  · split at h
    · exact setSh_mono (f _) h
    · obtain ⟨m, a, b⟩ := h; exact ⟨m, a, f _ _ b⟩
    · exact h
theorem appSh_mono {n : Nat} {x : D} {vh : VH} {Q Q' : VH → Prop} (f : ∀ h, Q h → Q' h) (h : appSh n x vh Q) : appSh n x vh Q' := by
  unfold appSh at *
  split at h
  · exact ⟨h.1, f _ h.2⟩
  · exact h
theorem wpApp_mono {o : Op} {x : D} {env : VE} {vh : VH} {Q Q' : VE → VH → Prop} (f : ∀ e h, Q e h → Q' e h) (h : wpApp o x env vh Q) : wpApp o x env vh Q' := by
  unfold wpApp at *
  split at h
  · exact appSh_mono (f _) h
  · exact h
  · split at h
    · exact appSh_mono (f _) h
    · exact ⟨h.1, f _ _ h.2⟩
    · exact h
theorem extSh_mono {n : Nat} {x : List D} {vh : VH} {Q Q' : VH → Prop} (f : ∀ h, Q h → Q' h) (h : extSh n x vh Q) : extSh n x vh Q' := by
  unfold extSh at *
  split at h
  · exact ⟨h.1, f _ h.2⟩
  · exact h
theorem wpExt_mono {o : Op} {x : List D} {env : VE} {vh : VH} {Q Q' : VE → VH → Prop} (f : ∀ e h, Q e h → Q' e h) (h : wpExt o x env vh Q) : wpExt o x env vh Q' := by
  unfold wpExt at *
  split at h
  · exact extSh_mono (f _) h
  · exact h
  · split at h
    · exact extSh_mono (f _) h
    · exact ⟨h.1, f _ _ h.2⟩
    · exact h
theorem wpAug_mono {op : Operator} {c d : D} {Q Q' : D → Prop} (f : ∀ z, Q z → Q' z) (h : wpAug op c d Q) : wpAug op c d Q' := by
  unfold wpAug at *
  split at h <;> first | exact f _ h | exact h
theorem forGo_mono {t t' : D → (VE → VH → Prop) → VE → VH → Prop} (ht : ∀ d N N' e h, (∀ e h, N e h → N' e h) → t d N e h → t' d N' e h) : ∀ (ds : List D) (e : VE) (h : VH) (Q Q' : VE → VH → Prop), (∀ e h, Q e h → Q' e h) → forGo t ds e h Q → forGo t' ds e h Q'
  | [], e, h, Q, Q', f, x => f _ _ x
  | d :: ds, e, h, Q, Q', f, x => ht d _ _ e h (fun e h => forGo_mono ht ds e h Q Q' f) x
theorem VLe.off {V V' : VEnds} {o : Option Nat} (l : VLe V V') : VLe (offV o V) (offV o V') := ⟨fun _ _ => l.nx _ _, l.rt, fun _ _ => l.bk _ _, fun _ _ => l.ct _ _⟩
section
variable {Φ : Fns}
mutual
theorem wpS_monoK : ∀ (s : S) (Γ : Cns) (K K' : XP) (V V' : VEnds) (env : VE) (vh : VH), KLe K K' → VLe V V' → wpS Φ Γ s K V env vh → wpS Φ Γ s K' V' env vh
  | .pass, Γ, K, K', V, V', env, vh, kl, l, h => l.nx _ _ h
  | .brk, Γ, K, K', V, V', env, vh, kl, l, h => l.bk _ _ h
  | .cont, Γ, K, K', V, V', env, vh, kl, l, h => l.ct _ _ h
  | .retN, Γ, K, K', V, V', env, vh, kl, l, h => l.rt _ _ h
  | .set i e, Γ, K, K', V, V', env, vh, kl, l, h => wpE_monoK e K K' false env vh _ _ kl (fun x e1 h1 => l.nx _ _) h
  | .setO i e, Γ, K, K', V, V', env, vh, kl, l, h => wpE_monoK e K K' false env vh _ _ kl (fun x e1 h1 z => match x, z with
    | .fr ds, z => l.nx _ _ z) h
  | .setS i e, Γ, K, K', V, V', env, vh, kl, l, h => wpE_monoK e K K' false env vh _ _ kl (fun x e1 h1 z => match x, z with
    | .fr ds, z => l.nx _ _ z) h
  | .par i j a b, Γ, K, K', V, V', env, vh, kl, l, h => by
    unfold wpS at *
    exact wpEs_monoK [a, b] K K' env vh _ _ kl (fun ds e1 h1 z => by
      split at z
      · exact l.nx _ _ z
      · exact z) h
  | .unp is e, Γ, K, K', V, V', env, vh, kl, l, h => wpE_monoK e K K' false env vh _ _ kl (fun x e1 h1 ⟨e2, a, b⟩ => ⟨e2, a, l.nx _ _ b⟩) h
  | .aug i op e, Γ, K, K', V, V', env, vh, kl, l, h => by
    unfold wpS at *
    split at h
    · exact wpE_monoK e K K' false env vh _ _ kl (fun y e1 h1 z => wpAug_mono (fun _ => l.nx _ _) z) h
    · exact h
  | .sidx o i e, Γ, K, K', V, V', env, vh, kl, l, h => wpE_monoK e K K' false env vh _ _ kl (fun x e1 h1 z => asO_monoK (fun Q Q' f => wpE_monoK o K K' false e1 h1 Q Q' kl f) (fun oo e2 h2 z => wpE_monoK i K K' false e2 h2 _ _ kl (fun ix e3 h3 z => wpSet_mono l.nx z) z) z) h
  | .app o e, Γ, K, K', V, V', env, vh, kl, l, h => by
    unfold wpS at *
    exact asO_monoK (fun Q Q' f => wpE_monoK o K K' false env vh Q Q' kl f) (fun oo e1 h1 z => ⟨z.1, wpE_monoK e K K' false e1 h1 _ _ kl (fun x e2 h2 z => wpApp_mono l.nx z) z.2⟩) h
  | .ext o e, Γ, K, K', V, V', env, vh, kl, l, h => by
    unfold wpS at *
    exact asO_monoK (fun Q Q' f => wpE_monoK o K K' false env vh Q Q' kl f) (fun oo e1 h1 z => ⟨z.1, wpE_monoK e K K' false e1 h1 _ _ kl (fun x e2 h2 ⟨ys, ey, z⟩ => ⟨ys, ey, wpExt_mono l.nx z⟩) z.2⟩) h
  | .fset o f e, Γ, K, K', V, V', env, vh, kl, l, h => wpE_monoK e K K' false env vh _ _ kl (fun x e1 h1 z => asO_monoK (fun Q Q' f => wpE_monoK o K K' false e1 h1 Q Q' kl f) (fun oo e2 h2 z => by
      obtain ⟨n, c, ns, xs, p, q, r, z⟩ := z
      exact ⟨n, c, ns, xs, p, q, r, l.nx _ _ z⟩) z) h
  | .faug o f op e, Γ, K, K', V, V', env, vh, kl, l, h => by
    unfold wpS at *
    exact asO_monoK (fun Q Q' f => wpE_monoK o K K' false env vh Q Q' kl f) (fun oo e1 h1 z => by
      obtain ⟨n, c, ns, xs, p, q, y, r, z⟩ := z
      exact ⟨n, c, ns, xs, p, q, y, r, wpE_monoK e K K' false e1 h1 _ _ kl (fun z e2 h2 w => wpAug_mono (fun r w => by
        obtain ⟨ns2, xs2, p, q, w⟩ := w
        exact ⟨ns2, xs2, p, q, l.nx _ _ w⟩) w) z⟩) h
  | .ret e, Γ, K, K', V, V', env, vh, kl, l, h => wpE_monoK e K K' false env vh _ _ kl (fun x e1 h1 => l.rt _ _) h
  | .retO i, Γ, K, K', V, V', env, vh, kl, l, h => by
    unfold wpS at *
    split at h
    · exact l.rt _ _ h
    · exact h
  | .expr e, Γ, K, K', V, V', env, vh, kl, l, h => wpE_monoK e K K' false env vh _ _ kl (fun x e1 h1 => l.nx _ _) h
  | .cond c a b, Γ, K, K', V, V', env, vh, kl, l, h => wpE_monoK c K K' true env vh _ _ kl (fun x e1 h1 z => by
      split at z
      · exact ifP_mono (wpB_monoK a Γ K K' V V' e1 h1 kl l) (wpB_monoK b Γ K K' V V' e1 h1 kl l) z
      · exact z) h
  | .forS tg k es body, Γ, K, K', V, V', env, vh, kl, l, h => wpEs_monoK es K K' env vh _ _ kl (fun ds e1 h1 ⟨items, a, z⟩ => ⟨items, a, forGo_mono (fun d N N' e h f ⟨st, e2, q, z⟩ => ⟨st, e2, q, wpB_monoK body Γ K K' ⟨N, V.rt, V.nx, N⟩ ⟨N', V'.rt, V'.nx, N'⟩ e2 h kl ⟨f, l.rt, l.nx, f⟩ z⟩) items e1 h1 _ _ (fun e h z => ⟨z.1, l.nx e h z.2⟩) z⟩) h
  | .whl c body, Γ, K, K', V, V', env, vh, kl, l, h => by
    obtain ⟨I, h0, hs⟩ := h
    refine ⟨I, h0, fun n env vh i => wpE_monoK c K K' true env vh _ _ kl (fun x e1 h1 z => ?_) (hs n env vh i)⟩
    split at z
    · exact ifP_mono (wpB_monoK body Γ K K' ⟨fun e h => ∃ m, m < n ∧ I m e h, V.rt, V.nx, fun e h => ∃ m, m < n ∧ I m e h⟩ ⟨fun e h => ∃ m, m < n ∧ I m e h, V'.rt, V'.nx, fun e h => ∃ m, m < n ∧ I m e h⟩ e1 h1 kl ⟨fun _ _ => id, l.rt, l.nx, fun _ _ => id⟩) (l.nx _ _) z
    · exact z
  | .raise c es, Γ, K, K', V, V', env, vh, kl, l, h => wpEs_monoK es K K' env vh _ _ kl (fun _ _ _ => kl _ _ _ _) h
  | .tryS tb body cs sus, Γ, K, K', V, V', env, vh, kl, l, h => wpB_monoK body Γ _ _ V V' env vh (fun c xs e h1 z => by
      split at z
      · exact wpH_monoK _ _ _ cs sus Γ _ _ V V' e h1 l (kl _ _ _ _) z
      · exact z) l h
  | .never, Γ, K, K', V, V', env, vh, kl, l, h => h
theorem wpH_monoK (ns anc : List Str) (xs : List D) : ∀ (cs : List (Str × Option Nat)) (sus : List (List S)) (Γ : Cns) (P P' : Prop) (V V' : VEnds) (env : VE) (vh : VH), VLe V V' → (P → P') → wpH Φ Γ ns anc xs cs sus P V env vh → wpH Φ Γ ns anc xs cs sus P' V' env vh
  | [], _, Γ, P, P', V, V', env, vh, l, f, h => by
    unfold wpH at h ⊢
    exact f h
  | _ :: _, [], Γ, P, P', V, V', env, vh, l, f, h => by
    unfold wpH at h
    exact h.elim
  | (c, o) :: cs, su :: sus, Γ, P, P', V, V', env, vh, l, f, h => ifP_mono (fun g a => wpB_monoK su _ _ _ _ _ _ _ (fun _ _ _ _ z => z) (VLe.off l) (g a)) (wpH_monoK ns anc xs cs sus Γ P P' V V' env vh l f) h
theorem wpB_monoK : ∀ (ss : List S) (Γ : Cns) (K K' : XP) (V V' : VEnds) (env : VE) (vh : VH), KLe K K' → VLe V V' → wpB Φ Γ ss K V env vh → wpB Φ Γ ss K' V' env vh
  | [], Γ, K, K', V, V', env, vh, kl, l, h => l.nx _ _ h
  | s :: ss, Γ, K, K', V, V', env, vh, kl, l, h => wpS_monoK s Γ K K' { V with nx := fun e h => wpB Φ Γ ss K V e h } _ env vh kl ⟨fun e h => wpB_monoK ss Γ K K' V V' e h kl l, l.rt, l.bk, l.ct⟩ h
end
end
section
variable {Φ : Fns} {Γ : Cns}
theorem wpS_mono (s : S) (K : XP) (V V' : VEnds) (env : VE) (vh : VH) (l : VLe V V') (h : wpS Φ Γ s K V env vh) : wpS Φ Γ s K V' env vh := wpS_monoK s Γ K K V V' env vh (fun _ _ _ _ z => z) l h
theorem wpB_mono (s : List S) (K : XP) (V V' : VEnds) (env : VE) (vh : VH) (l : VLe V V') (h : wpB Φ Γ s K V env vh) : wpB Φ Γ s K V' env vh := wpB_monoK s Γ K K V V' env vh (fun _ _ _ _ z => z) l h
end
section
variable {Φ : Fns} {Γ : Cns} {K : XP} {env e1 : VE} {vh h1 : VH} {Q : QE} {nx bk ct : VE → VH → Prop} {rt : DV → VH → Prop} {V : VEnds}
/-! ### statements -/
theorem b_nil (h : nx env vh) : wpB Φ Γ [] K ⟨nx, rt, bk, ct⟩ env vh := h
theorem b_cons {s : S} {ss : List S} (he : env = e1) (h : wpS Φ Γ s K ⟨fun e h => wpB Φ Γ ss K ⟨nx, rt, bk, ct⟩ e h, rt, bk, ct⟩ e1 vh) : wpB Φ Γ (s :: ss) K ⟨nx, rt, bk, ct⟩ env vh := by
  subst he
  exact h
/-- a word that no step looks into -/
def Hold (p : Prop) : Prop := p
theorem hold {p : Prop} (h : p) : Hold p := h
/-- a statement by what it is to reach -/
theorem b_cut {s : S} {ss : List S} (P : VE → VH → Prop) (h : wpS Φ Γ s K ⟨fun e h => Hold (P e h), rt, bk, ct⟩ env vh) (k : ∀ e h, P e h → wpB Φ Γ ss K ⟨nx, rt, bk, ct⟩ e h) : wpB Φ Γ (s :: ss) K ⟨nx, rt, bk, ct⟩ env vh :=
  wpS_mono s K ⟨fun e h => Hold (P e h), rt, bk, ct⟩ _ env vh ⟨k, fun _ _ => id, fun _ _ => id, fun _ _ => id⟩ h
/-- what is wished of an error in the body of a try -/
def tryK (Φ : Fns) (Γ : Cns) (tb : List (Str × List Str × List Str)) (cs : List (Str × Option Nat)) (sus : List (List S)) (K : XP) (V : VEnds) : XP := fun c xs e h => match tb.lookup c with
  | some (ns, anc) => wpH Φ Γ ns anc xs cs sus (K c xs e h) V e h
  | none => False
theorem s_try {tb : List (Str × List Str × List Str)} {body : List S} {cs : List (Str × Option Nat)} {sus : List (List S)} (h : wpB Φ Γ body (tryK Φ Γ tb cs sus K ⟨nx, rt, bk, ct⟩) ⟨nx, rt, bk, ct⟩ env vh) : wpS Φ Γ (.tryS tb body cs sus) K ⟨nx, rt, bk, ct⟩ env vh := h
theorem s_raise {c : Str} {es : List E} (h : wpEs Φ Γ es K env vh fun ds e1 h1 => K c ds e1 h1) : wpS Φ Γ (.raise c es) K ⟨nx, rt, bk, ct⟩ env vh := h
theorem x_hit {tb : List (Str × List Str × List Str)} {cs : List (Str × Option Nat)} {sus : List (List S)} {V : VEnds} {c : Str} {xs : List D} {ns anc : List Str} (hl : tb.lookup c = some (ns, anc)) (h : wpH Φ Γ ns anc xs cs sus (K c xs env vh) V env vh) : tryK Φ Γ tb cs sus K V c xs env vh := by
  unfold tryK
  rw [hl]
  exact h
theorem h_yes {c : Str} {o : Option Nat} {cs : List (Str × Option Nat)} {su : List S} {sus : List (List S)} {ns anc : List Str} {xs : List D} {P : Prop} (hc : anc.contains c = true) (h : ∀ a, wpB Φ (errG Γ ns anc xs a) su noX (offV o ⟨nx, rt, bk, ct⟩) (onE o a env) vh) : wpH Φ Γ ns anc xs ((c, o) :: cs) (su :: sus) P ⟨nx, rt, bk, ct⟩ env vh := by
  unfold wpH
  rw [hc]
  exact h
theorem h_no {c : Str} {o : Option Nat} {cs : List (Str × Option Nat)} {su : List S} {sus : List (List S)} {ns anc : List Str} {xs : List D} {P : Prop} (hc : anc.contains c = false) (h : wpH Φ Γ ns anc xs cs sus P V env vh) : wpH Φ Γ ns anc xs ((c, o) :: cs) (su :: sus) P V env vh := by
  unfold wpH
  rw [hc]
  exact h
theorem h_nil {sus : List (List S)} {ns anc : List Str} {xs : List D} {P : Prop} (h : P) : wpH Φ Γ ns anc xs [] sus P V env vh := by
  unfold wpH
  exact h
theorem errG_one {anc : List Str} {f : Str} {x : D} {a : Addr} : errG Γ [f] anc [x] a (eNm f) = some x := by
  unfold errG
  have e : (("%e." : Str) ++ f).cps.toList[1]? = some 101 := by
    show ((("%e." : Str).cps ++ f.cps).toList)[1]? = _
    rw [Array.toList_append]
    rfl
  have n1 : eNm f ≠ "%a" := fun z => by
    have h2 := congrArg (fun y : Str => y.cps.toList[1]?) z
    unfold eNm at h2
    rw [e] at h2
    exact absurd h2 (by decide +kernel)
  have n2 : eNm f ≠ "%c" := fun z => by
    have h2 := congrArg (fun y : Str => y.cps.toList[1]?) z
    unfold eNm at h2
    rw [e] at h2
    exact absurd h2 (by decide +kernel)
  rw [if_neg n1, if_neg n2]
  simp
theorem e_fld1 {anc : List Str} {i : Nat} {f : Str} {x : D} {a : Addr} (hs : env[i]? = some (.val (.adr a))) (h : Q (.v x) env vh) : wpE Φ (errG Γ [f] anc [x] a) (.attr (.bor i) f) K false env vh Q := by
  refine ⟨⟨_, hs, trivial⟩, .adr a, ?_, ?_, x, errG_one, h⟩
  · unfold Op.raw
    dsimp only
    rw [hs]
  · unfold errG
    rw [if_pos rfl]
theorem s_pass (h : nx env vh) : wpS Φ Γ .pass K ⟨nx, rt, bk, ct⟩ env vh := h
theorem s_brk (h : bk env vh) : wpS Φ Γ .brk K ⟨nx, rt, bk, ct⟩ env vh := h
theorem s_cont (h : ct env vh) : wpS Φ Γ .cont K ⟨nx, rt, bk, ct⟩ env vh := h
theorem s_retN (h : rt (.v .non) vh) : wpS Φ Γ .retN K ⟨nx, rt, bk, ct⟩ env vh := h
theorem s_set {i : Nat} {e : E} (h : wpE Φ Γ e K false env vh fun x e1 h1 => nx (e1.set i (.val x.d)) h1) : wpS Φ Γ (.set i e) K ⟨nx, rt, bk, ct⟩ env vh := h
theorem s_setO {i : Nat} {e : E} (h : wpE Φ Γ e K false env vh fun x e1 h1 => ∃ ds, x = .fr ds ∧ nx (e1.set i (.own ds)) h1) : wpS Φ Γ (.setO i e) K ⟨nx, rt, bk, ct⟩ env vh :=
  wpE_mono e K false env vh _ _ (fun x e1 h1 ⟨ds, ex, z⟩ => by subst ex; exact z) h
theorem s_setS {i : Nat} {e : E} (h : wpE Φ Γ e K false env vh fun x e1 h1 => ∃ ds, x = .fr ds ∧ nx (e1.set i (.val (.ref h1.length))) (h1 ++ [.lst ds])) : wpS Φ Γ (.setS i e) K ⟨nx, rt, bk, ct⟩ env vh :=
  wpE_mono e K false env vh _ _ (fun x e1 h1 ⟨ds, ex, z⟩ => by subst ex; exact z) h
theorem s_par {i j : Nat} {a b : E} (h : wpE Φ Γ a K false env vh fun x e1 h1 => wpE Φ Γ b K false e1 h1 fun y e2 h2 => nx ((e2.set i (.val x.d)).set j (.val y.d)) h2) : wpS Φ Γ (.par i j a b) K ⟨nx, rt, bk, ct⟩ env vh := h
theorem s_unp {is : List Nat} {e : E} (h : wpE Φ Γ e K false env vh fun x e1 h1 => ∃ e2, bindT (.many is) x.d e1 = some e2 ∧ nx e2 h1) : wpS Φ Γ (.unp is e) K ⟨nx, rt, bk, ct⟩ env vh := h
theorem s_aug {i : Nat} {op : Operator} {e : E} {c : D} (hs : env[i]? = some (.val c)) (h : wpE Φ Γ e K false env vh fun y e1 h1 => wpAug op c y.d fun z => nx (e1.set i (.val z)) h1) : wpS Φ Γ (.aug i op e) K ⟨nx, rt, bk, ct⟩ env vh := by
  unfold wpS
  rw [hs]
  exact h
theorem s_sidx {o i e : E} (h : wpE Φ Γ e K false env vh fun x e1 h1 => asO o (wpE Φ Γ o) K e1 h1 fun oo e2 h2 => wpE Φ Γ i K false e2 h2 fun ix e3 h3 => wpSet oo ix.d x.d e3 h3 nx) : wpS Φ Γ (.sidx o i e) K ⟨nx, rt, bk, ct⟩ env vh := h
theorem s_app {o e : E} (h : asO o (wpE Φ Γ o) K env vh fun oo e1 h1 => isLs oo e1 h1 ∧ wpE Φ Γ e K false e1 h1 fun x e2 h2 => wpApp oo x.d e2 h2 nx) : wpS Φ Γ (.app o e) K ⟨nx, rt, bk, ct⟩ env vh := h
theorem s_ext {o e : E} (h : asO o (wpE Φ Γ o) K env vh fun oo e1 h1 => isLs oo e1 h1 ∧ wpE Φ Γ e K false e1 h1 fun x e2 h2 => ∃ ys, seqD x.d = some ys ∧ wpExt oo ys e2 h2 nx) : wpS Φ Γ (.ext o e) K ⟨nx, rt, bk, ct⟩ env vh := h
theorem s_ret {e : E} (h : wpE Φ Γ e K false env vh fun x e1 h1 => rt x h1) : wpS Φ Γ (.ret e) K ⟨nx, rt, bk, ct⟩ env vh := h
theorem s_retO {i : Nat} {ds : List D} (hs : env[i]? = some (.own ds)) (h : rt (.fr ds) vh) : wpS Φ Γ (.retO i) K ⟨nx, rt, bk, ct⟩ env vh := by
  unfold wpS
  rw [hs]
  exact h
theorem s_expr {e : E} (h : wpE Φ Γ e K false env vh fun x e1 h1 => nx e1 h1) : wpS Φ Γ (.expr e) K ⟨nx, rt, bk, ct⟩ env vh := h
theorem s_cond {c : E} {a b : List S} (h : wpE Φ Γ c K true env vh fun x e1 h1 => ∃ k, x = .v (.bl k) ∧ ifP k (wpB Φ Γ a K ⟨nx, rt, bk, ct⟩ e1 h1) (wpB Φ Γ b K ⟨nx, rt, bk, ct⟩ e1 h1)) : wpS Φ Γ (.cond c a b) K ⟨nx, rt, bk, ct⟩ env vh :=
  wpE_mono c K true env vh _ _ (fun x e1 h1 ⟨k, ex, z⟩ => by subst ex; exact z) h
def plnK : Ik → Bool
  | .seqS => false
  | .zipS => false
  | _ => true
theorem plnK_items {k : Ik} {h1 : VH} {ds : List D} (hk : plnK k = true) : itemsV k h1 ds = itemsD k ds := by
  cases k <;> first | rfl | cases hk
theorem plnK_stl {k : Ik} {h1 h : VH} {ds : List D} (hk : plnK k = true) : stl k ds h1 h := by
  cases k <;> first | trivial | cases hk
theorem s_for {tg : Tg} {k : Ik} {es : List E} {body : List S} (hk : plnK k = true) (h : wpEs Φ Γ es K env vh fun ds e1 h1 => ∃ items, itemsD k ds = some items ∧
      forGo (fun d N e h => ∃ e2, bindT tg d e = some e2 ∧ wpB Φ Γ body K ⟨N, rt, nx, N⟩ e2 h) items e1 h1 nx) : wpS Φ Γ (.forS tg k es body) K ⟨nx, rt, bk, ct⟩ env vh :=
  wpEs_mono es K env vh _ _ (fun ds e1 h1 ⟨items, a, z⟩ => ⟨items, (plnK_items hk).trans a, forGo_mono (fun d N N' e h f ⟨e2, q, z⟩ => ⟨plnK_stl hk, e2, q, wpB_mono body K ⟨N, rt, nx, N⟩ ⟨N', rt, nx, N'⟩ e2 h ⟨f, fun _ _ => id, fun _ _ => id, f⟩ z⟩) items e1 h1 _ _ (fun e h z => ⟨plnK_stl hk, z⟩) z⟩) h
theorem s_forS {tg : Tg} {k : Ik} {es : List E} {body : List S} (h : wpEs Φ Γ es K env vh fun ds e1 h1 => ∃ items, itemsV k h1 ds = some items ∧
      forGo (fun d N e h => stl k ds h1 h ∧ ∃ e2, bindT tg d e = some e2 ∧ wpB Φ Γ body K ⟨N, rt, nx, N⟩ e2 h) items e1 h1 fun e h => stl k ds h1 h ∧ nx e h) : wpS Φ Γ (.forS tg k es body) K ⟨nx, rt, bk, ct⟩ env vh := h
theorem items_S {vh : VH} {n : Nat} {xs : List D} (h : vh[n]? = some (.lst xs)) : itemsV .seqS vh [.ref n] = some xs := by
  have e : drf vh (.ref n) = .lst xs := by
    unfold drf
    dsimp only
    rw [h]
  show itemsD .seq [drf vh (.ref n)] = _
  rw [e]
  rfl
theorem stl_1 {vh h : VH} {n : Nat} (e : h[n]? = vh[n]?) : stl .seqS [.ref n] vh h := fun m hm => by
  rw [List.mem_singleton] at hm
  cases hm
  exact e
theorem ex_S {vh : VH} {n : Nat} {xs : List D} {F : List D → Prop} (h : vh[n]? = some (.lst xs)) (q : F xs) : ∃ items, itemsV .seqS vh [.ref n] = some items ∧ F items := ⟨xs, items_S h, q⟩
theorem s_whl {c : E} {body : List S} (I : Nat → VE → VH → Prop) (h0 : ∃ n, I n env vh) (h : ∀ n env vh, I n env vh → wpE Φ Γ c K true env vh fun x e1 h1 => ∃ k, x = .v (.bl k) ∧
      ifP k (wpB Φ Γ body K ⟨fun e h => ∃ m, m < n ∧ I m e h, rt, nx, fun e h => ∃ m, m < n ∧ I m e h⟩ e1 h1) (nx e1 h1)) : wpS Φ Γ (.whl c body) K ⟨nx, rt, bk, ct⟩ env vh :=
  ⟨I, h0, fun n env vh i => wpE_mono c K true env vh _ _ (fun x e1 h1 ⟨k, ex, z⟩ => by subst ex; exact z) (h n env vh i)⟩
theorem aug_add {i j : Int} {F : D → Prop} (h : F (.int (i + j))) : wpAug .Add (.int i) (.int j) F := h
theorem aug_sub {i j : Int} {F : D → Prop} (h : F (.int (i - j))) : wpAug .Sub (.int i) (.int j) F := h
/-- what goes on behind a call -/
@[reducible] def callK (k : DV → VH → Prop) (kx : Str → List D → VH → Prop) : Out → VH → Prop
  | .ok x, h => k x h
  | .exc c xs, h => kx c xs h
/-! ### values -/
theorem e_non (h : Q (.v .non) env vh) : wpE Φ Γ .non K false env vh Q := h
theorem e_skip (h : Q (.v .non) env vh) : wpE Φ Γ .skip K false env vh Q := h
theorem e_bl {b : Bool} (h : Q (.v (.bl b)) env vh) : wpE Φ Γ (.bl b) K false env vh Q := h
theorem e_int {i : Int} (h : Q (.v (.int i)) env vh) : wpE Φ Γ (.int i) K false env vh Q := h
theorem e_str {x : Str} (h : Q (.v (.str x)) env vh) : wpE Φ Γ (.str x) K false env vh Q := h
theorem e_var {i : Nat} {d : D} (hs : env[i]? = some (.val d)) (h : Q (.v d) env vh) : wpE Φ Γ (.var i) K false env vh Q := ⟨_, hs, h⟩
theorem e_varO {i : Nat} {ds : List D} (hs : env[i]? = some (.own ds)) (h : Q (.v (.lst ds)) (env.set i (.val (.lst ds))) vh) : wpE Φ Γ (.var i) K false env vh Q := ⟨_, hs, h⟩
theorem e_glo {x : Str} {d : D} (hs : Γ x = some d) (h : Q (.v d) env vh) : wpE Φ Γ (.glo x) K false env vh Q := ⟨_, hs, h⟩
theorem e_tup {es : List E} (h : wpEs Φ Γ es K env vh fun ds e1 h1 => ds.length ≤ 16777216 ∧ Q (.v (.tup ds)) e1 h1) : wpE Φ Γ (.tup es) K false env vh Q := h
theorem e_dct {ks : List Key} {es : List E} (h : wpEs Φ Γ es noK env vh fun ds e1 h1 => (ks.length = ds.length ∧ ks.length ≤ 15 ∧ ks.Nodup) ∧ Q (.v (.dct ks ds)) e1 h1) : wpE Φ Γ (.dct ks es) K false env vh Q := h
theorem e_lst {es : List E} (h : wpEs Φ Γ es K env vh fun ds e1 h1 => ds.length ≤ 16777216 ∧ Q (.fr ds) e1 h1) : wpE Φ Γ (.lst es) K false env vh Q := h
theorem e_bin {op : Operator} {a b : E} (h : asO a (wpE Φ Γ a) K env vh fun x e1 h1 => asO b (wpE Φ Γ b) K e1 h1 fun y e2 h2 => ∃ c d, x.ld e2 h2 = some c ∧ y.ld e2 h2 = some d ∧ wpBin op c d fun z => Q z e2 h2) : wpE Φ Γ (.bin op a b) K false env vh Q := h
theorem e_neg {a : E} (h : wpE Φ Γ a K false env vh fun x e1 h1 => ∃ i, x = .v (.int i) ∧ Q (.v (.int (-i))) e1 h1) : wpE Φ Γ (.neg a) K false env vh Q := h
theorem e_cmp {op : CmpOp} {a b : E} {t : Bool} (h : asO a (wpE Φ Γ a) K env vh fun x e1 h1 => asO b (wpE Φ Γ b) K e1 h1 fun y e2 h2 => ∃ c d, x.ld e2 h2 = some c ∧ y.ld e2 h2 = some d ∧ wpCmp op c d fun k => Q (.v (.bl k)) e2 h2) : wpE Φ Γ (.cmp op a b) K t env vh Q := h
theorem e_chain {op op' : CmpOp} {a b c : E} {t : Bool} (h : asO a (wpE Φ Γ a) K env vh fun x e1 h1 => asO b (wpE Φ Γ b) K e1 h1 fun y e2 h2 => ∃ d e, x.ld e2 h2 = some d ∧ y.ld e2 h2 = some e ∧ wpCmp op d e fun k =>
      ifP k (asO c (wpE Φ Γ c) K e2 h2 fun z e3 h3 => ∃ e f, y.ld e3 h3 = some e ∧ z.ld e3 h3 = some f ∧ wpCmp op' e f fun k => Q (.v (.bl k)) e3 h3) (Q (.v (.bl false)) e2 h2)) : wpE Φ Γ (.chain op op' a b c) K t env vh Q := h
theorem e_andT {a b : E} (h : wpE Φ Γ a K true env vh fun x e1 h1 => ∃ k, x = .v (.bl k) ∧ ifP k (wpE Φ Γ b K true e1 h1 Q) (Q (.v (.bl false)) e1 h1)) : wpE Φ Γ (.and a b) K true env vh Q := h
theorem e_orT {a b : E} (h : wpE Φ Γ a K true env vh fun x e1 h1 => ∃ k, x = .v (.bl k) ∧ ifP k (Q (.v (.bl true)) e1 h1) (wpE Φ Γ b K true e1 h1 Q)) : wpE Φ Γ (.or a b) K true env vh Q := h
theorem e_and {a b : E} (h : wpE Φ Γ a K false env vh fun x e1 h1 => ∃ d k, x = .v d ∧ (deref h1 d).bind truD = some k ∧ ifP k (wpE Φ Γ b K false e1 h1 Q) (Q x e1 h1)) : wpE Φ Γ (.and a b) K false env vh Q := h
theorem e_or {a b : E} (h : wpE Φ Γ a K false env vh fun x e1 h1 => ∃ d k, x = .v d ∧ (deref h1 d).bind truD = some k ∧ ifP k (Q x e1 h1) (wpE Φ Γ b K false e1 h1 Q)) : wpE Φ Γ (.or a b) K false env vh Q := h
theorem e_notT {a : E} (h : wpE Φ Γ a K true env vh fun x e1 h1 => ∃ k, x = .v (.bl k) ∧ Q (.v (.bl (!k))) e1 h1) : wpE Φ Γ (.not a) K true env vh Q := h
theorem e_not {a : E} (h : asO a (wpE Φ Γ a) K env vh fun x e1 h1 => ∃ d k, x.ld e1 h1 = some d ∧ truD d = some k ∧ Q (.v (.bl (!k))) e1 h1) : wpE Φ Γ (.not a) K false env vh Q := h
theorem e_ite {c a b : E} {t : Bool} (h : wpE Φ Γ c K true env vh fun x e1 h1 => ∃ k, x = .v (.bl k) ∧ ifP k (wpE Φ Γ a K t e1 h1 Q) (wpE Φ Γ b K t e1 h1 Q)) : wpE Φ Γ (.ite c a b) K t env vh Q := h
theorem e_idx {a i : E} (h : asO a (wpE Φ Γ a) K env vh fun x e1 h1 => asO i (wpE Φ Γ i) K e1 h1 fun y e2 h2 => ∃ c d, x.ld e2 h2 = some c ∧ y.ld e2 h2 = some d ∧ wpIdx c d fun z => Q (.v z) e2 h2) : wpE Φ Γ (.idx a i) K false env vh Q := h
theorem e_sli {a lo hi : E} (h : asO a (wpE Φ Γ a) K env vh fun x e1 h1 => wpE Φ Γ lo K false e1 h1 fun l e2 h2 => ∃ i, partD l = some i ∧ wpE Φ Γ hi K false e2 h2 fun u e3 h3 =>
      ∃ c j, x.ld e3 h3 = some c ∧ partD u = some j ∧ wpSli c i j fun z => Q z e3 h3) : wpE Φ Γ (.sli a lo hi) K false env vh Q := h
theorem e_call {f : Str} {es : List E} (h : wpEs Φ Γ es K env vh fun ds e1 h1 => (Φ f).run ds h1 (callK (fun x h2 => Q x e1 h2) (fun c xs h2 => K c xs e1 h2))) : wpE Φ Γ (.call f es) K false env vh Q :=
  wpEs_mono es K env vh _ _ (fun ds e1 h1 z => (Φ f).mono _ _ _ _ (fun o h2 y => match o with
    | .ok x => y
    | .exc c xs => y) z) h
theorem e_blt {f : Bf} {es : List E} (h : wpOs Φ Γ es K env vh fun xs e1 h1 => ∃ ds, ldAll e1 h1 xs = some ds ∧ wpBlt f ds fun z => Q z e1 h1) : wpE Φ Γ (.blt f es) K false env vh Q := h
/-- which class it is of -/
def IsiK (tys : List String) (n : String) (P : Bool → Prop) : Prop := tys.all okTy = true ∧ P (tys.any (isTy n))
theorem isi_t {tys : List String} {n : String} {P : Bool → Prop} (h1 : tys.all okTy = true) (h2 : tys.any (isTy n) = true) (h : P true) : IsiK tys n P := ⟨h1, by rw [h2]; exact h⟩
theorem isi_f {tys : List String} {n : String} {P : Bool → Prop} (h1 : tys.all okTy = true) (h2 : tys.any (isTy n) = false) (h : P false) : IsiK tys n P := ⟨h1, by rw [h2]; exact h⟩
theorem e_isi {a : E} {tys : List String} (h : asO a (wpE Φ Γ a) K env vh fun x e1 h1 => ∃ d n, x.ld e1 h1 = some d ∧ tyD d = some n ∧ IsiK tys n fun b => Q (.v (.bl b)) e1 h1) : wpE Φ Γ (.isi a tys) K false env vh Q := h
def noB (env : VE) : List Nat → Bool
  | [] => true
  | j :: js => (match env[j]? with
    | some (.own _) => false
    | _ => true) && noB env js
theorem noB_ok {env : VE} : ∀ {js : List Nat}, noB env js = true → noOwn env js
  | [], _ => trivial
  | j :: js, h => by
    unfold noB at h
    rw [Bool.and_eq_true] at h
    refine ⟨?_, noB_ok h.2⟩
    have h1 := h.1
    revert h1
    cases env[j]? with
    | none => exact fun _ => trivial
    | some s => cases s <;> first
      | exact fun _ => trivial
      | (intro h1; cases h1)
theorem e_lc {elt : E} {tg : Tg} {own : List Nat} {k : Ik} {es cs : List E} (hk : plnK k = true) (h : wpEs Φ Γ es K env vh fun ds e1 h1 => ∃ items, itemsD k ds = some items ∧ noB e1 own = true ∧
      lcGo (fun d h R => ∃ e2, bindT tg d (wipeE e1 own) = some e2 ∧ wpTs Φ Γ cs e2 h fun b h3 => ifP b (wpE Φ Γ elt (fun _ _ _ _ => False) false e2 h3 fun x e4 h4 => e4 = e2 ∧ R (some x.d) h4) (R none h3)) items h1 [] fun acc h2 => Q (.fr acc) e1 h2) : wpE Φ Γ (.lc elt tg own k es cs) K false env vh Q :=
  wpEs_mono es K env vh _ _ (fun ds e1 h1 ⟨items, a, b, z⟩ => ⟨items, (plnK_items hk).trans a, noB_ok b, lcGo_mono (fun d h R R' f ⟨e2, q, y⟩ => ⟨plnK_stl hk, e2, q, wpTs_mono cs e2 h _ _ (fun b h3 => ifP_mono (wpE_mono elt _ false e2 h3 _ _ fun x e4 h4 z => ⟨z.1, f _ _ z.2⟩) (f _ _)) y⟩) items h1 [] _ _ (fun acc h2 z => ⟨plnK_stl hk, z⟩) z⟩) h
theorem e_lcS {elt : E} {tg : Tg} {own : List Nat} {k : Ik} {es cs : List E} (h : wpEs Φ Γ es K env vh fun ds e1 h1 => ∃ items, itemsV k h1 ds = some items ∧ noB e1 own = true ∧
      lcGo (fun d h R => stl k ds h1 h ∧ ∃ e2, bindT tg d (wipeE e1 own) = some e2 ∧ wpTs Φ Γ cs e2 h fun b h3 => ifP b (wpE Φ Γ elt (fun _ _ _ _ => False) false e2 h3 fun x e4 h4 => e4 = e2 ∧ R (some x.d) h4) (R none h3)) items h1 [] fun acc h2 => stl k ds h1 h2 ∧ Q (.fr acc) e1 h2) : wpE Φ Γ (.lc elt tg own k es cs) K false env vh Q :=
  wpEs_mono es K env vh _ _ (fun ds e1 h1 ⟨items, a, b, z⟩ => ⟨items, a, noB_ok b, z⟩) h
/-! ### instances -/
def FldK (x : Op) (f : Str) (e1 : VE) (h1 : VH) (P : D → Prop) : Prop := ∃ n c ns xs, x.raw e1 = some (.ref n) ∧ h1[n]? = some (.ins c ns xs) ∧ ∃ y, fldD f ns xs = some y ∧ P y
theorem fld_go {x : Op} {f : Str} {P : D → Prop} {n : Nat} {c : Str} {ns : List Str} {xs : List D} {y : D} (h1 : x.raw env = some (.ref n)) (h2 : vh[n]? = some (.ins c ns xs)) (h3 : fldD f ns xs = some y) (h : P y) : FldK x f env vh P := ⟨n, c, ns, xs, h1, h2, y, h3, h⟩
theorem e_fld {a : E} {f : Str} (h : asO a (wpE Φ Γ a) K env vh fun x e1 h1 => FldK x f e1 h1 fun y => Q (.v y) e1 h1) : wpE Φ Γ (.fld a f) K false env vh Q := h
def MthK (Φ : Fns) (x : Op) (m : Str) (e1 : VE) (h1 : VH) (P : Nat → VSp → Prop) : Prop := ∃ n c ns xs, x.raw e1 = some (.ref n) ∧ h1[n]? = some (.ins c ns xs) ∧ (m ∉ ns ∧ (Φ (mN c m)).ex) ∧ P n (Φ (mN c m))
theorem mth_go {x : Op} {m q : Str} {P : Nat → VSp → Prop} {n : Nat} {c : Str} {ns : List Str} {xs : List D} (h1 : x.raw env = some (.ref n)) (h2 : vh[n]? = some (.ins c ns xs)) (h3 : mN c m = q) (h4 : decide (m ∈ ns) = false) (h5 : (Φ q).ex) (h : P n (Φ q)) : MthK Φ x m env vh P := by
  subst h3
  exact ⟨n, c, ns, xs, h1, h2, ⟨of_decide_eq_false h4, h5⟩, h⟩
theorem e_meth {a : E} {m : Str} {es : List E} (h : asO a (wpE Φ Γ a) K env vh fun x e1 h1 => MthK Φ x m e1 h1 fun n sp => wpEs Φ Γ es K e1 h1 fun ds e2 h2 => sp.run (.ref n :: ds) h2 (callK (fun x h3 => Q x e2 h3) (fun c xs h3 => K c xs e2 h3))) : wpE Φ Γ (.meth a m es) K false env vh Q :=
  asO_mono (wpE_mono a K false env vh) (fun x e1 h1 h => by
    obtain ⟨n, c, ns, xs, p, q, r, z⟩ := h
    exact ⟨n, c, ns, xs, p, q, r, wpEs_mono es K e1 h1 _ _ (fun ds e2 h2 h => (Φ (mN c m)).mono _ _ _ _ (fun o h3 z => match o, z with
      | .ok x, z => z
      | .exc c fs, z => z) h) z⟩) h
theorem e_mk {c q : Str} {es : List E} (e : mN c "__init__" = q) (h : wpEs Φ Γ es K env vh fun ds e1 h1 => (Φ q).run (.ref h1.length :: ds) (h1 ++ [.ins c [] []]) (callK (fun x h2 => x = .v .non ∧ Q (.v (.ref h1.length)) e1 h2) (fun c xs h2 => K c xs e1 h2))) : wpE Φ Γ (.mk c es) K false env vh Q := by
  subst e
  exact wpEs_mono es K env vh _ _ (fun ds e1 h1 h => (Φ (mN c "__init__")).mono _ _ _ _ (fun o h3 z => match o, z with
      | .ok x, z => z
      | .exc c fs, z => z) h) h
theorem e_shr {a : E} (h : wpE Φ Γ a K false env vh fun x e1 h1 => ∃ ds, x = .fr ds ∧ Q (.v (.ref h1.length)) e1 (h1 ++ [.lst ds])) : wpE Φ Γ (.shr a) K false env vh Q := h
def PutK (o : Op) (f : Str) (d : D) (e2 : VE) (h2 : VH) (P : VE → VH → Prop) : Prop := ∃ n c ns xs, o.raw e2 = some (.ref n) ∧ h2[n]? = some (.ins c ns xs) ∧ ns.length ≤ 100 ∧ P e2 (h2.set n (.ins c (putN f ns) (putX f d ns xs)))
theorem put_go {o : Op} {f : Str} {d : D} {P : VE → VH → Prop} {n : Nat} {c : Str} {ns : List Str} {xs : List D} (h1 : o.raw env = some (.ref n)) (h2 : vh[n]? = some (.ins c ns xs)) (h3 : ns.length ≤ 100) (h : P env (vh.set n (.ins c (putN f ns) (putX f d ns xs)))) : PutK o f d env vh P := ⟨n, c, ns, xs, h1, h2, h3, h⟩
theorem s_fset {o e : E} {f : Str} (h : wpE Φ Γ e K false env vh fun x e1 h1 => asO o (wpE Φ Γ o) K e1 h1 fun oo e2 h2 => PutK oo f x.d e2 h2 nx) : wpS Φ Γ (.fset o f e) K ⟨nx, rt, bk, ct⟩ env vh := h
def AugK (oo : Op) (f : Str) (e1 : VE) (h1 : VH) (P : Nat → Str → D → Prop) : Prop := ∃ n c ns xs, oo.raw e1 = some (.ref n) ∧ h1[n]? = some (.ins c ns xs) ∧ ∃ y, fldD f ns xs = some y ∧ P n c y
theorem aug_go {o : Op} {f : Str} {P : Nat → Str → D → Prop} {n : Nat} {c : Str} {ns : List Str} {xs : List D} {y : D} (h1 : o.raw env = some (.ref n)) (h2 : vh[n]? = some (.ins c ns xs)) (h3 : fldD f ns xs = some y) (h : P n c y) : AugK o f env vh P := ⟨n, c, ns, xs, h1, h2, y, h3, h⟩
def AugP (n : Nat) (c f : Str) (r : D) (e2 : VE) (h2 : VH) (P : VE → VH → Prop) : Prop := ∃ ns2 xs2, h2[n]? = some (.ins c ns2 xs2) ∧ ns2.length ≤ 100 ∧ P e2 (h2.set n (.ins c (putN f ns2) (putX f r ns2 xs2)))
theorem augp_go {n : Nat} {c f : Str} {r : D} {P : VE → VH → Prop} {ns : List Str} {xs : List D} (h2 : vh[n]? = some (.ins c ns xs)) (h3 : ns.length ≤ 100) (h : P env (vh.set n (.ins c (putN f ns) (putX f r ns xs)))) : AugP n c f r env vh P := ⟨ns, xs, h2, h3, h⟩
theorem s_faug {o e : E} {f : Str} {op : Operator} (h : asO o (wpE Φ Γ o) K env vh fun oo e1 h1 => AugK oo f e1 h1 fun n c y => wpE Φ Γ e K false e1 h1 fun z e2 h2 => wpAug op y z.d fun r => AugP n c f r e2 h2 nx) : wpS Φ Γ (.faug o f op e) K ⟨nx, rt, bk, ct⟩ env vh := h
theorem c_inT {FB : Bool → Prop} {x : D} {xs : List D} (h1 : flatD x = true) (h2 : xs.all flatD = true) (h : FB (inD x xs)) : wpCmp .In x (.tup xs) FB := by
  unfold wpCmp
  exact ⟨h1, h2, h⟩
theorem c_inL {FB : Bool → Prop} {x : D} {xs : List D} (h1 : flatD x = true) (h2 : xs.all flatD = true) (h : FB (inD x xs)) : wpCmp .In x (.lst xs) FB := by
  unfold wpCmp
  exact ⟨h1, h2, h⟩
theorem c_ninT {FB : Bool → Prop} {x : D} {xs : List D} (h1 : flatD x = true) (h2 : xs.all flatD = true) (h : FB (!inD x xs)) : wpCmp .NotIn x (.tup xs) FB := by
  unfold wpCmp
  exact ⟨h1, h2, h⟩
theorem c_ninL {FB : Bool → Prop} {x : D} {xs : List D} (h1 : flatD x = true) (h2 : xs.all flatD = true) (h : FB (!inD x xs)) : wpCmp .NotIn x (.lst xs) FB := by
  unfold wpCmp
  exact ⟨h1, h2, h⟩
theorem c_inS {FB : Bool → Prop} {x z : Str} {c : Nat} (h1 : x = ⟨#[c]⟩) (h : FB (decide (c ∈ z.cps.toList))) : wpCmp .In (.str x) (.str z) FB := ⟨c, h1, h⟩
theorem c_ninS {FB : Bool → Prop} {x z : Str} {c : Nat} (h1 : x = ⟨#[c]⟩) (h : FB (!decide (c ∈ z.cps.toList))) : wpCmp .NotIn (.str x) (.str z) FB := ⟨c, h1, h⟩
theorem g_Fld {x : Op} {f : Str} {P : D → Prop} (h : FldK x f env vh P) : FldK x f env vh P := h
theorem g_Mth {x : Op} {m : Str} {P : Nat → VSp → Prop} (h : MthK Φ x m env vh P) : MthK Φ x m env vh P := h
theorem g_Put {x : Op} {f : Str} {d : D} {P : VE → VH → Prop} (h : PutK x f d env vh P) : PutK x f d env vh P := h
/-! ### tests of values -/
theorem t_fin {ir : E} (hf : finK ir = true) (h : wpE Φ Γ ir K false env vh fun x e1 h1 => ∃ k, (deref h1 x.d).bind truD = some k ∧ Q (.v (.bl k)) e1 h1) : wpE Φ Γ ir K true env vh Q := by
  rw [fin_eq hf]
  exact h
theorem t_bor {i : Nat} {d : D} {k : Bool} (hl : (Op.slt i).ld env vh = some d) (hk : truD d = some k) (h : Q (.v (.bl k)) env vh) : wpE Φ Γ (.bor i) K true env vh Q := ⟨d, k, hl, hk, h⟩
/-! ### operands, lists -/
theorem o_bor {i : Nat} {s : Slot} {w : XP → Bool → VE → VH → QE → Prop} {P : Op → VE → VH → Prop} (hs : env[i]? = some s) (ho : s.ok) (h : P (.slt i) env vh) : asO (.bor i) w K env vh P := ⟨⟨s, hs, ho⟩, h⟩
theorem o_val {ir : E} {P : Op → VE → VH → Prop} (hb : isBor ir = false) (h : wpE Φ Γ ir K false env vh fun x e1 h1 => P (.dat x.d) e1 h1) : asO ir (wpE Φ Γ ir) K env vh P := by
  rw [asO_no hb]
  exact h
theorem l_nil {P : List D → VE → VH → Prop} (h : P [] env vh) : wpEs Φ Γ [] K env vh P := h
theorem l_cons {e : E} {es : List E} {P : List D → VE → VH → Prop} (h : wpE Φ Γ e K false env vh fun x e1 h1 => wpEs Φ Γ es K e1 h1 fun xs e2 h2 => P (x.d :: xs) e2 h2) : wpEs Φ Γ (e :: es) K env vh P := h
theorem os_nil {P : List Op → VE → VH → Prop} (h : P [] env vh) : wpOs Φ Γ [] K env vh P := h
theorem os_cons {e : E} {es : List E} {P : List Op → VE → VH → Prop} (h : asO e (wpE Φ Γ e) K env vh fun x e1 h1 => wpOs Φ Γ es K e1 h1 fun xs e2 h2 => P (x :: xs) e2 h2) : wpOs Φ Γ (e :: es) K env vh P := h
theorem ts_nil {P : Bool → VH → Prop} (h : P true vh) : wpTs Φ Γ [] env vh P := h
theorem ts_one {c : E} {P : Bool → VH → Prop} (h : wpE Φ Γ c (fun _ _ _ _ => False) true env vh fun x e1 h1 => e1 = env ∧ ∃ k, x = .v (.bl k) ∧ P k h1) : wpTs Φ Γ [c] env vh P := h
/-! ### operators -/
section
variable {F : DV → Prop} {FB : Bool → Prop} {i j : Int} {xs ys : List D} {x y : Str}
theorem b_add (h : F (.v (.int (i + j)))) : wpBin .Add (.int i) (.int j) F := h
theorem b_addT (hl : xs.length + ys.length ≤ 16777216) (h : F (.v (.tup (xs ++ ys)))) : wpBin .Add (.tup xs) (.tup ys) F := ⟨hl, h⟩
theorem b_addL (hl : xs.length + ys.length ≤ 16777216) (h : F (.fr (xs ++ ys))) : wpBin .Add (.lst xs) (.lst ys) F := ⟨hl, h⟩
theorem b_addS (hl : x.length + y.length ≤ 16777216) (h : F (.v (.str (x ++ y)))) : wpBin .Add (.str x) (.str y) F := ⟨hl, h⟩
theorem b_sub (h : F (.v (.int (i - j)))) : wpBin .Sub (.int i) (.int j) F := h
theorem b_mul (hl : mulOk i j) (h : F (.v (.int (i * j)))) : wpBin .Mult (.int i) (.int j) F := ⟨hl, h⟩
theorem b_mulL (h1 : -(2 ^ 62) < j ∧ j < 2 ^ 62 ∧ xs.length * j.toNat ≤ 16777216) (h : F (.fr (List.replicate j.toNat xs).flatten)) : wpBin .Mult (.lst xs) (.int j) F := ⟨h1, h⟩
theorem b_mulT (h1 : -1000 ≤ j) (h2 : j ≤ 1000) (h3 : xs.length ≤ 1000) (h : F (.v (.tup (List.replicate j.toNat xs).flatten))) : wpBin .Mult (.tup xs) (.int j) F := ⟨h1, h2, h3, h⟩
theorem b_mulS (hl : MulOk x j) (h : F (.v (.str (Txt.mul x j)))) : wpBin .Mult (.str x) (.int j) F := ⟨hl, h⟩
theorem b_div (hl : 0 < j ∧ j.natAbs.log2 < 9000) (h : F (.v (.int (i / j)))) : wpBin .FloorDiv (.int i) (.int j) F := ⟨hl, h⟩
theorem b_mod (hl : 0 < j) (h : F (.v (.int (i % j)))) : wpBin .Mod (.int i) (.int j) F := ⟨hl, h⟩
theorem b_pow (hl : 0 ≤ j ∧ j ≤ 1000000 ∧ i.natAbs < 2 ^ 64) (h : F (.v (.int (i ^ j.toNat)))) : wpBin .Pow (.int i) (.int j) F := ⟨hl, h⟩
theorem c_lt (h : FB (decide (i < j))) : wpCmp .Lt (.int i) (.int j) FB := h
theorem c_le (h : FB (decide (i ≤ j))) : wpCmp .LtE (.int i) (.int j) FB := h
theorem c_gt (h : FB (decide (j < i))) : wpCmp .Gt (.int i) (.int j) FB := h
theorem c_ge (h : FB (decide (j ≤ i))) : wpCmp .GtE (.int i) (.int j) FB := h
theorem c_eqI (h : FB (decide (i = j))) : wpCmp .Eq (.int i) (.int j) FB := ⟨rfl, rfl, by
  show FB (i == j)
  have e : (i == j) = decide (i = j) := by by_cases q : i = j <;> simp [q]
  rw [e]; exact h⟩
theorem c_neI (h : FB (!decide (i = j))) : wpCmp .NotEq (.int i) (.int j) FB := ⟨rfl, rfl, by
  show FB (!(i == j))
  have e : (i == j) = decide (i = j) := by by_cases q : i = j <;> simp [q]
  rw [e]; exact h⟩
theorem c_eq {a b : D} (h1 : okD 64 a = true) (h2 : okD 64 b = true) (h : FB (eqD a b)) : wpCmp .Eq a b FB := by
  cases a <;> exact ⟨h1, h2, h⟩
theorem c_ne {a b : D} (h1 : okD 64 a = true) (h2 : okD 64 b = true) (h : FB (!eqD a b)) : wpCmp .NotEq a b FB := by
  cases a <;> exact ⟨h1, h2, h⟩
theorem c_eqBt {a b : Bool} (h1 : (a == b) = true) (h : FB true) : wpCmp .Eq (.bl a) (.bl b) FB := ⟨by unfold okD; rfl, by unfold okD; rfl, by unfold eqD; rw [h1]; exact h⟩
theorem c_eqBf {a b : Bool} (h1 : (a == b) = false) (h : FB false) : wpCmp .Eq (.bl a) (.bl b) FB := ⟨by unfold okD; rfl, by unfold okD; rfl, by unfold eqD; rw [h1]; exact h⟩
theorem c_neBt {a b : Bool} (h1 : (a == b) = true) (h : FB false) : wpCmp .NotEq (.bl a) (.bl b) FB := ⟨by unfold okD; rfl, by unfold okD; rfl, by unfold eqD; rw [h1]; exact h⟩
theorem c_neBf {a b : Bool} (h1 : (a == b) = false) (h : FB true) : wpCmp .NotEq (.bl a) (.bl b) FB := ⟨by unfold okD; rfl, by unfold okD; rfl, by unfold eqD; rw [h1]; exact h⟩
theorem c_isN {a : D} (h : FB (isNon a)) : wpCmp .Is a .non FB := by
  cases a <;> exact h
theorem c_isB {a : D} {b : Bool} (h : FB (isB a b)) : wpCmp .Is a (.bl b) FB := by
  cases a <;> exact h
theorem c_isNotB {a : D} {b : Bool} (h : FB (!isB a b)) : wpCmp .IsNot a (.bl b) FB := by
  cases a <;> exact h
theorem c_isNotN {a : D} (h : FB (!isNon a)) : wpCmp .IsNot a .non FB := by
  cases a <;> exact h
theorem i_tup {FD : D → Prop} {d : D} (hi : atI xs i = some d) (h : FD d) : wpIdx (.tup xs) (.int i) FD := ⟨d, hi, h⟩
theorem i_lst {FD : D → Prop} {d : D} (hi : atI xs i = some d) (h : FD d) : wpIdx (.lst xs) (.int i) FD := ⟨d, hi, h⟩
theorem u_tup {lo hi : Option Int} (h : F (.v (.tup (cutL xs lo hi)))) : wpSli (.tup xs) lo hi F := h
theorem u_lst {lo hi : Option Int} (h : F (.fr (cutL xs lo hi))) : wpSli (.lst xs) lo hi F := h
theorem u_scr {ns : List Int} {lo hi : Option Int} (h : F (.fr ((cutL ns lo hi).map D.int))) : wpSli (.scr ns) lo hi F := h
theorem f_lenT (h : F (.v (.int xs.length))) : wpBlt .len [.tup xs] F := h
theorem f_lenL (h : F (.v (.int xs.length))) : wpBlt .len [.lst xs] F := h
theorem f_lenC {ns : List Int} (h : F (.v (.int ns.length))) : wpBlt .len [.scr ns] F := h
theorem f_lenS (hl : x.length ≤ 16777216) (h : F (.v (.int x.length))) : wpBlt .len [.str x] F := ⟨hl, h⟩
theorem f_int (h : F (.v (.int i))) : wpBlt .int [.int i] F := h
theorem f_intB {b : Bool} (h : F (.v (.int (if b then 1 else 0)))) : wpBlt .int [.bl b] F := h
theorem f_tupL (h : F (.v (.tup xs))) : wpBlt .tuple [.lst xs] F := h
theorem f_tupT (h : F (.v (.tup xs))) : wpBlt .tuple [.tup xs] F := h
theorem f_lstL (h : F (.fr xs)) : wpBlt .list [.lst xs] F := h
theorem f_lstT (h : F (.fr xs)) : wpBlt .list [.tup xs] F := h
theorem f_lstC {ns : List Int} (h : F (.fr (ns.map D.int))) : wpBlt .list [.scr ns] F := h
theorem f_abs (h : F (.v (.int (if i < 0 then -i else i)))) : wpBlt .abs [.int i] F := h
theorem f_min (h : F (.v (.int (if j < i then j else i)))) : wpBlt .min2 [.int i, .int j] F := h
theorem f_max (h : F (.v (.int (if j > i then j else i)))) : wpBlt .max2 [.int i, .int j] F := h
theorem f_all {bs : List Bool} (hx : xs = bs.map D.bl) (h : F (.v (.bl (bs.all id)))) : wpBlt .all [.lst xs] F := ⟨bs, hx, h⟩
theorem f_any {bs : List Bool} (hx : xs = bs.map D.bl) (h : F (.v (.bl (bs.any id)))) : wpBlt .any [.lst xs] F := ⟨bs, hx, h⟩
theorem f_sum {ns : List Int} (hx : xs = ns.map D.int) (h : F (.v (.int ns.sum))) : wpBlt .sum [.lst xs] F := ⟨ns, hx, h⟩
theorem f_strI (hl : i.natAbs.log2 < 1920) (h : F (.v (.str (Str.ofString (toString i))))) : wpBlt .str [.int i] F := ⟨hl, h⟩
theorem f_intS {n : Int} (he : PySem.intText? x = some n) (hl : x.length ≤ 640) (h : F (.v (.int n))) : wpBlt .int [.str x] F := ⟨n, he, hl, h⟩
theorem f_sumC {ns : List Int} (h : F (.v (.int ns.sum))) : wpBlt .sum [.scr ns] F := h
theorem p_true {p q : Prop} (h : p) : ifP true p q := h
theorem p_false {p q : Prop} (h : q) : ifP false p q := h
theorem p_isN {p q : Prop} (h : p) : ifP (isNon .non) p q := h
theorem p_nisN {p q : Prop} (h : q) : ifP (!isNon .non) p q := h
theorem p_isN0 {d : D} {p q : Prop} (e : isNon d = false) (h : q) : ifP (isNon d) p q := by rw [e]; exact h
theorem p_nisN0 {d : D} {p q : Prop} (e : isNon d = false) (h : p) : ifP (!isNon d) p q := by rw [e]; exact h
theorem p_nt {p q : Prop} (h : q) : ifP (!true) p q := h
theorem p_nf {p q : Prop} (h : p) : ifP (!false) p q := h
theorem p_ne {a b : D} {p q : Prop} (h : eqD a b = true) (hq : q) : ifP (!eqD a b) p q := by rw [h]; exact hq
theorem p_neF {a b : D} {p q : Prop} (h : eqD a b = false) (hq : p) : ifP (!eqD a b) p q := by rw [h]; exact hq
theorem p_dec {c : Prop} [Decidable c] {p q : Prop} (h1 : c → p) (h2 : ¬ c → q) : ifP (decide c) p q := by
  by_cases hc : c
  · rw [decide_eq_true hc]; exact h1 hc
  · rw [decide_eq_false hc]; exact h2 hc
theorem p_nd {c : Prop} [Decidable c] {p q : Prop} (h : c) (hq : q) : ifP (!decide c) p q := by rw [decide_eq_true h]; exact hq
theorem p_d {c : Prop} [Decidable c] {p q : Prop} (h : c) (hp : p) : ifP (decide c) p q := by rw [decide_eq_true h]; exact hp
theorem p_ndec {c : Prop} [Decidable c] {p q : Prop} (h1 : ¬ c → p) (h2 : c → q) : ifP (!decide c) p q := by
  by_cases hc : c
  · rw [decide_eq_true hc]; exact h2 hc
  · rw [decide_eq_false hc]; exact h1 hc
theorem p_bool {b : Bool} {p q : Prop} (h1 : b = true → p) (h2 : b = false → q) : ifP b p q := by
  cases b
  · exact h2 rfl
  · exact h1 rfl
end
/-! ### loops -/
theorem for_rule {turn : D → (VE → VH → Prop) → VE → VH → Prop} {F : VE → VH → Prop} (P : List D → VE → VH → Prop) (h0 : ∀ e h, P [] e h → F e h)
    (hs : ∀ d ds e h, P (d :: ds) e h → (∀ e' h', P ds e' h' → forGo turn ds e' h' F) → turn d (fun e h => forGo turn ds e h F) e h) : ∀ items e h, P items e h → forGo turn items e h F
  | [], e, h, p => h0 e h p
  | d :: ds, e, h, p => hs d ds e h p fun e' h' p' => for_rule P h0 hs ds e' h' p'
theorem fg_nil {turn : D → (VE → VH → Prop) → VE → VH → Prop} {F : VE → VH → Prop} {e : VE} {h : VH} (q : F e h) : forGo turn [] e h F := q
theorem fg_cons {turn : D → (VE → VH → Prop) → VE → VH → Prop} {F : VE → VH → Prop} {e : VE} {h : VH} {d : D} {ds : List D} (q : turn d (fun e h => forGo turn ds e h F) e h) : forGo turn (d :: ds) e h F := q
theorem lc_rule {turn : D → VH → (Option D → VH → Prop) → Prop} {F : List D → VH → Prop} (P : List D → VH → List D → Prop) (h0 : ∀ h acc, P [] h acc → F acc h)
    (hs : ∀ d ds h acc, P (d :: ds) h acc → (∀ h' acc', P ds h' acc' → lcGo turn ds h' acc' F) → turn d h fun o h' => match o with
      | some y => acc.length < 16777216 ∧ lcGo turn ds h' (acc ++ [y]) F
      | none => lcGo turn ds h' acc F) : ∀ items h acc, P items h acc → lcGo turn items h acc F
  | [], h, acc, p => h0 h acc p
  | d :: ds, h, acc, p => hs d ds h acc p fun h' acc' p' => lc_rule P h0 hs ds h' acc' p'
/-- what goes on behind a turn of a comprehension -/
@[reducible] def lcK (acc : List D) (k : List D → VH → Prop) : Option D → VH → Prop
  | some y, h => acc.length < 16777216 ∧ k (acc ++ [y]) h
  | none, h => k acc h
theorem lcg_nil {turn : D → VH → (Option D → VH → Prop) → Prop} {F : List D → VH → Prop} {acc : List D} {h : VH} (q : F acc h) : lcGo turn [] h acc F := q
theorem lcg_cons {K : XP} {Φ : Fns} {Γ : Cns} {tg : Tg} {env : VE} {own : List Nat} {cs : List E} {elt : E} {F : List D → VH → Prop} {acc : List D} {h : VH} {d : D} {ds : List D}
    (q : ∃ e2, bindT tg d (wipeE env own) = some e2 ∧ wpTs Φ Γ cs e2 h fun b h3 => ifP b (wpE Φ Γ elt K false e2 h3 fun x e4 h4 => e4 = e2 ∧ lcK acc (fun acc' h' => lcGo (fun d h R => ∃ e2, bindT tg d (wipeE env own) = some e2 ∧ wpTs Φ Γ cs e2 h fun b h3 => ifP b (wpE Φ Γ elt K false e2 h3 fun x e4 h4 => e4 = e2 ∧ R (some x.d) h4) (R none h3)) ds h' acc' F) (some x.d) h4)
      (lcK acc (fun acc' h' => lcGo (fun d h R => ∃ e2, bindT tg d (wipeE env own) = some e2 ∧ wpTs Φ Γ cs e2 h fun b h3 => ifP b (wpE Φ Γ elt K false e2 h3 fun x e4 h4 => e4 = e2 ∧ R (some x.d) h4) (R none h3)) ds h' acc' F) none h3)) :
    lcGo (fun d h R => ∃ e2, bindT tg d (wipeE env own) = some e2 ∧ wpTs Φ Γ cs e2 h fun b h3 => ifP b (wpE Φ Γ elt K false e2 h3 fun x e4 h4 => e4 = e2 ∧ R (some x.d) h4) (R none h3)) (d :: ds) h acc F := q
/-- a comprehension that turns each item into one, and nothing else -/
theorem lc_map {turn : D → VH → (Option D → VH → Prop) → Prop} {F : List D → VH → Prop} (f : D → D) : ∀ (items : List D) (h : VH) (acc : List D), (∀ d, d ∈ items → ∀ R : Option D → VH → Prop, R (some (f d)) h → turn d h R) → acc.length + items.length ≤ 16777216 → F (acc ++ items.map f) h → lcGo turn items h acc F
  | [], h, acc, _, _, q => by
    rw [List.map_nil, List.append_nil] at q
    exact q
  | d :: ds, h, acc, ht, hl, q => by
    rw [List.length_cons] at hl
    refine ht d List.mem_cons_self _ ⟨by omega, lc_map f ds h _ (fun x hx => ht x (List.mem_cons_of_mem _ hx)) (by rw [List.length_append, List.length_singleton]; omega) ?_⟩
    rw [List.append_assoc]
    exact q
end
theorem div_ok {j : Int} (h1 : 0 < j) (h2 : j < 340282366920938463463374607431768211456) : 0 < j ∧ j.natAbs.log2 < 9000 := by
  refine ⟨h1, Nat.lt_trans ((Nat.log2_lt (by omega)).mpr (?_ : j.natAbs < 2 ^ 128)) (by decide)⟩
  have e : (2 : Nat) ^ 128 = 340282366920938463463374607431768211456 := by decide
  rw [e]
  omega
theorem log_ok {i : Int} (h1 : -340282366920938463463374607431768211456 < i) (h2 : i < 340282366920938463463374607431768211456) : i.natAbs.log2 < 1920 := by
  by_cases h0 : i.natAbs = 0
  · rw [h0]
    decide
  refine Nat.lt_trans ((Nat.log2_lt h0).mpr (?_ : i.natAbs < 2 ^ 128)) (by decide)
  have e : (2 : Nat) ^ 128 = 340282366920938463463374607431768211456 := by decide
  rw [e]
  omega
theorem mul_l {i j : Int} (h1 : -18446744073709551616 < i) (h2 : i < 18446744073709551616) : mulOk i j := .inl ⟨h1, h2⟩
theorem mul_r {i j : Int} (h1 : -18446744073709551616 < j) (h2 : j < 18446744073709551616) : mulOk i j := .inr (.inl ⟨h1, h2⟩)
/-! ### what a goal is -/
section
variable {Φ : Fns} {Γ : Cns} {K : XP} {env : VE} {vh : VH}
theorem g_S {s : S} {V : VEnds} (h : wpS Φ Γ s K V env vh) : wpS Φ Γ s K V env vh := h
theorem g_B {s : List S} {V : VEnds} (h : wpB Φ Γ s K V env vh) : wpB Φ Γ s K V env vh := h
theorem g_E {e : E} {Q : QE} (h : wpE Φ Γ e K false env vh Q) : wpE Φ Γ e K false env vh Q := h
theorem g_T {e : E} {Q : QE} (h : wpE Φ Γ e K true env vh Q) : wpE Φ Γ e K true env vh Q := h
theorem g_O {e : E} {w : XP → Bool → VE → VH → QE → Prop} {Q : Op → VE → VH → Prop} (h : asO e w K env vh Q) : asO e w K env vh Q := h
theorem g_L {e : List E} {Q : List D → VE → VH → Prop} (h : wpEs Φ Γ e K env vh Q) : wpEs Φ Γ e K env vh Q := h
theorem g_Os {e : List E} {Q : List Op → VE → VH → Prop} (h : wpOs Φ Γ e K env vh Q) : wpOs Φ Γ e K env vh Q := h
theorem g_Bin {o : Operator} {a b : D} {Q : DV → Prop} (h : wpBin o a b Q) : wpBin o a b Q := h
theorem g_Cmp {o : CmpOp} {a b : D} {Q : Bool → Prop} (h : wpCmp o a b Q) : wpCmp o a b Q := h
theorem g_Blt {f : Bf} {a : List D} {Q : DV → Prop} (h : wpBlt f a Q) : wpBlt f a Q := h
theorem g_P {b : Bool} {p q : Prop} (h : ifP b p q) : ifP b p q := h
theorem g_Ex {A : Type} {P : A → Prop} (h : ∃ x, P x) : ∃ x, P x := h
end
/-! ### promises -/
/-- a promise by its arguments, what is asked ahead, what comes -/
def spec {A : Type} (args : A → List D) (pre : A → VH → Prop) (post : A → VH → DV → VH → Prop) : VSp :=
  ⟨fun ds vh R => ∃ a, ds = args a ∧ pre a vh ∧ ∀ x vh', post a vh x vh' → R (.ok x) vh', fun ds vh R R' f ⟨a, e, p, q⟩ => ⟨a, e, p, fun x vh' h => f _ _ (q x vh' h)⟩, True⟩
/-- of a def that changes nothing and tells one thing -/
def specF {A : Type} (args : A → List D) (pre : A → Prop) (val : A → DV) : VSp :=
  ⟨fun ds vh R => ∃ a, ds = args a ∧ pre a ∧ R (.ok (val a)) vh, fun ds vh R R' f ⟨a, e, p, q⟩ => ⟨a, e, p, f _ _ q⟩, True⟩
theorem sat_spec {A : Type} {Φ : Fns} {Γ : Cns} {irs : List S} {N ps : List Str} {args : A → List D} {pre : A → VH → Prop} {post : A → VH → DV → VH → Prop} (hl : ∀ a, (args a).length = ps.length)
    (h : ∀ a vh (R : Out → VH → Prop), pre a vh → (∀ x vh', post a vh x vh' → R (.ok x) vh') → wpB Φ Γ irs (fun c xs _ vh => R (.exc c xs) vh) ⟨fun _ vh => R (.ok (.v .non)) vh, fun x vh => R (.ok x) vh, fun _ _ => False, fun _ _ => False⟩ (startE N (args a)) vh) : Sat Φ Γ irs N ps (spec args pre post) := by
  rintro ds vh R ⟨a, rfl, p, q⟩
  exact ⟨hl a, h a vh R p q⟩
theorem sat_specF {A : Type} {Φ : Fns} {Γ : Cns} {irs : List S} {N ps : List Str} {args : A → List D} {pre : A → Prop} {val : A → DV} (hl : ∀ a, (args a).length = ps.length)
    (h : ∀ a vh (R : Out → VH → Prop), pre a → R (.ok (val a)) vh → wpB Φ Γ irs (fun c xs _ vh => R (.exc c xs) vh) ⟨fun _ vh => R (.ok (.v .non)) vh, fun x vh => R (.ok x) vh, fun _ _ => False, fun _ _ => False⟩ (startE N (args a)) vh) : Sat Φ Γ irs N ps (specF args pre val) := by
  rintro ds vh R ⟨a, rfl, p, q⟩
  exact ⟨hl a, h a vh R p q⟩
theorem call_specF {A : Type} {args : A → List D} {pre : A → Prop} {val : A → DV} {vh : VH} {k : DV → VH → Prop} {kx : Str → List D → VH → Prop} {ds : List D} (a : A) (e : ds = args a) (p : pre a) (q : k (val a) vh) : (specF args pre val).run ds vh (callK k kx) := ⟨a, e, p, q⟩
theorem call_spec {A : Type} {args : A → List D} {pre : A → VH → Prop} {post : A → VH → DV → VH → Prop} {vh : VH} {k : DV → VH → Prop} {kx : Str → List D → VH → Prop} {ds : List D} (a : A) (e : ds = args a) (p : pre a vh) (q : ∀ x vh', post a vh x vh' → k x vh') : (spec args pre post).run ds vh (callK k kx) := ⟨a, e, p, q⟩
/-- of a def that changes nothing and ends in one way -/
def specE {A : Type} (args : A → List D) (pre : A → Prop) (out : A → Out) : VSp :=
  ⟨fun ds vh R => ∃ a, ds = args a ∧ pre a ∧ R (out a) vh, fun ds vh R R' f ⟨a, e, p, q⟩ => ⟨a, e, p, f _ _ q⟩, True⟩
theorem sat_specE {A : Type} {Φ : Fns} {Γ : Cns} {irs : List S} {N ps : List Str} {args : A → List D} {pre : A → Prop} {out : A → Out} (hl : ∀ a, (args a).length = ps.length)
    (h : ∀ a vh (R : Out → VH → Prop), pre a → R (out a) vh → wpB Φ Γ irs (fun c xs _ vh => R (.exc c xs) vh) ⟨fun _ vh => R (.ok (.v .non)) vh, fun x vh => R (.ok x) vh, fun _ _ => False, fun _ _ => False⟩ (startE N (args a)) vh) : Sat Φ Γ irs N ps (specE args pre out) := by
  rintro ds vh R ⟨a, rfl, p, q⟩
  exact ⟨hl a, h a vh R p q⟩
theorem call_specE {A : Type} {args : A → List D} {pre : A → Prop} {out : A → Out} {vh : VH} {k : DV → VH → Prop} {kx : Str → List D → VH → Prop} {ds : List D} (a : A) (e : ds = args a) (p : pre a) (q : callK k kx (out a) vh) : (specE args pre out).run ds vh (callK k kx) := ⟨a, e, p, q⟩
/-! ### shared lists -/
theorem ld_ref {env : VE} {vh : VH} {i n : Nat} {xs : List D} (h1 : env[i]? = some (.val (.ref n))) (h2 : vh[n]? = some (.lst xs)) : (Op.slt i).ld env vh = some (.lst xs) := by
  unfold Op.ld
  dsimp only
  rw [h1]
  dsimp only [Slot.ld]
  unfold deref
  dsimp only
  rw [h2]
theorem ld_refD {env : VE} {vh : VH} {n : Nat} {xs : List D} (h2 : vh[n]? = some (.lst xs)) : (Op.dat (.ref n)).ld env vh = some (.lst xs) := by
  unfold Op.ld
  dsimp only
  unfold deref
  dsimp only
  rw [h2]
def noRef : D → Bool
  | .ref _ => false
  | _ => true
theorem deref_nr {vh : VH} {d : D} (h : noRef d = true) : deref vh d = some d := by
  cases d <;> first | rfl | cases h
theorem ld_nr {env : VE} {vh : VH} {d : D} (h : noRef d = true) : (Op.dat d).ld env vh = some d := deref_nr h
theorem ld_nrS {env : VE} {vh : VH} {i : Nat} {d : D} (h1 : env[i]? = some (.val d)) (h : noRef d = true) : (Op.slt i).ld env vh = some d := by
  unfold Op.ld
  dsimp only
  rw [h1]
  exact deref_nr h
theorem w_set {env : VE} {vh : VH} {i n m : Nat} {j : Int} {x : D} {xs : List D} {Q : VE → VH → Prop} (h1 : env[i]? = some (.val (.ref n))) (h2 : vh[n]? = some (.lst xs)) (hi : ixN xs.length j = some m)
    (q : ∀ vh' : VH, vh'[n]? = some (.lst (xs.set m x)) → (∀ o, vh'.set n o = vh.set n o) → Q env vh') : wpSet (.slt i) (.int j) x env vh Q := by
  unfold wpSet
  dsimp only
  rw [h1]
  dsimp only
  unfold setSh
  rw [h2]
  have hn : n < vh.length := (List.getElem?_eq_some_iff.mp h2).1
  exact ⟨m, hi, q _ (by rw [List.getElem?_set_self hn]) fun o => by rw [List.set_set]⟩
theorem set_same {vh : VH} {n : Nat} {o : VO} (h : vh[n]? = some o) : vh.set n o = vh := by
  obtain ⟨hn, e⟩ := List.getElem?_eq_some_iff.mp h
  rw [← e]
  exact List.set_getElem_self hn
theorem set_eq {vh vh2 : VH} {n : Nat} {o : VO} (g1 : vh2[n]? = some o) (g2 : ∀ o, vh2.set n o = vh.set n o) : vh2 = vh.set n o := by rw [← g2, set_same g1]
theorem atI_ok {xs : List D} {i : Int} (h0 : 0 ≤ i) (h1 : i < xs.length) : ∃ d, atI xs i = some d ∧ d ∈ xs := by
  have hi : i.toNat < xs.length := by omega
  refine ⟨xs[i.toNat], ?_, List.getElem_mem hi⟩
  unfold atI ixN
  rw [if_pos h0, if_pos h1]
  simp [hi]
theorem atI_int {xs : List Int} {i : Int} (h0 : 0 ≤ i) (h1 : i < xs.length) : ∃ c, atI (xs.map D.int) i = some (.int c) ∧ c ∈ xs := by
  obtain ⟨d, h, hm⟩ := atI_ok (xs := xs.map D.int) h0 (by rw [List.length_map]; exact h1)
  obtain ⟨c, hc, rfl⟩ := List.mem_map.mp hm
  exact ⟨c, h, hc⟩
theorem items_r1 {n : Int} (h1 : 0 ≤ n) (h2 : n < 1000000) : itemsD .rng1 [.int n] = some ((List.range n.toNat).map fun (i : Nat) => D.int (i : Int)) := by
  have e : (2 : Int) ^ 62 = 4611686018427387904 := by decide
  show (if -(2 ^ 62) ≤ n ∧ n < 2 ^ 62 then _ else none) = _
  rw [e, if_pos (by omega)]
theorem items_r2 {a b : Int} (h1 : -1000000 < a) (h2 : a < 1000000) (h3 : -1000000 < b) (h4 : b < 1000000) : itemsD .rng2 [.int a, .int b] = some ((List.range (b - a).toNat).map fun (i : Nat) => D.int (a + (i : Int))) := by
  have e : (2 : Int) ^ 62 = 4611686018427387904 := by decide
  show (if -(2 ^ 62) ≤ a ∧ a < 2 ^ 62 ∧ -(2 ^ 62) ≤ b ∧ b < 2 ^ 62 then _ else none) = _
  rw [e, if_pos (by omega)]
theorem items_r3 {a b : Int} (h1 : -1000000 < a) (h2 : a < 1000000) (h3 : -1000000 < b) (h4 : b < 1000000) : itemsD .rng3 [.int a, .int b, .int (-1)] = some ((List.range (a - b).toNat).map fun (i : Nat) => D.int (a - (i : Int))) := by
  have e : (2 : Int) ^ 62 = 4611686018427387904 := by decide
  show (if (-1 : Int) = -1 ∧ -(2 ^ 62) ≤ a ∧ a < 2 ^ 62 ∧ -(2 ^ 62) ≤ b ∧ b < 2 ^ 62 then _ else none) = _
  rw [e, if_pos (by omega)]
theorem ex_r1 {n : Int} {F : List D → Prop} (h1 : 0 ≤ n) (h2 : n < 1000000) (h : F ((List.range n.toNat).map fun (i : Nat) => D.int (i : Int))) : ∃ items, itemsD .rng1 [.int n] = some items ∧ F items := ⟨_, items_r1 h1 h2, h⟩
theorem ex_r2 {a b : Int} {F : List D → Prop} (h1 : -1000000 < a) (h2 : a < 1000000) (h3 : -1000000 < b) (h4 : b < 1000000) (h : F ((List.range (b - a).toNat).map fun (i : Nat) => D.int (a + (i : Int)))) : ∃ items, itemsD .rng2 [.int a, .int b] = some items ∧ F items := ⟨_, items_r2 h1 h2 h3 h4, h⟩
theorem ex_r3 {a b : Int} {F : List D → Prop} (h1 : -1000000 < a) (h2 : a < 1000000) (h3 : -1000000 < b) (h4 : b < 1000000) (h : F ((List.range (a - b).toNat).map fun (i : Nat) => D.int (a - (i : Int)))) : ∃ items, itemsD .rng3 [.int a, .int b, .int (-1)] = some items ∧ F items := ⟨_, items_r3 h1 h2 h3 h4, h⟩
/-- all is as it was but the n-th -/
def Fx (n : Nat) (vh vh' : VH) : Prop := vh'.length = vh.length ∧ ∀ j, j ≠ n → vh'[j]? = vh[j]?
theorem fx_set {n : Nat} {vh : VH} {o : VO} : Fx n vh (vh.set n o) := ⟨List.length_set, fun j h => List.getElem?_set_ne (Ne.symm h)⟩
theorem get_set {n : Nat} {vh : VH} {o u : VO} (h : vh[n]? = some u) : (vh.set n o)[n]? = some o := List.getElem?_set_self (List.getElem?_eq_some_iff.mp h).1
theorem df_none {P : Program} {w : World} {K : PySem.W.Frag} {mg : Str → Option Value} {base : Heap} {G : Wd} {k : Nat} {x : Str} {st : Stmt} {f : Addr} {fd : FuncData} {ps : List Str} {sp : VSp} (F : Fun K x x st f fd) (hm : mg x = some (.ref f)) (b : Binds K fd ps []) (hdb : (x == ("__debug__" : Str)) = false) (h : ∀ ds vh R, ¬ sp.run ds vh R) : Df P w K mg base G k x sp :=
  ⟨f, fd, ps, hm, F.kp, b, ⟨fun vs H Q E ⟨_, _, _, _, _, _, z⟩ => (h _ _ _ z).elim, fun A outer s H args us vs Q E hr e0 hb r ⟨_, _, _, _, _, _, z⟩ => (h _ _ _ z).elim⟩, hdb⟩
def none_sp : VSp := ⟨fun _ _ _ => False, fun _ _ _ _ _ h => h, False⟩
/-! ### equal data -/
mutual
theorem eqD_refl : ∀ (n : Nat) (d : D), okD n d = true → eqD d d = true
  | n, .non, _ => by unfold eqD; rfl
  | n, .bl b, _ => by unfold eqD; simp
  | n, .int i, _ => by unfold eqD; simp
  | n, .str x, _ => by unfold eqD; simp
  | 0, .lst xs, h => by unfold okD at h; cases h
  | 0, .tup xs, h => by unfold okD at h; cases h
  | n + 1, .lst xs, h => by unfold okD at h; unfold eqD; exact eqDs_refl n xs h
  | n + 1, .tup xs, h => by unfold okD at h; unfold eqD; exact eqDs_refl n xs h
  | n, .ty _, h => by cases n <;> (unfold okD at h; cases h)
  | n, .adr _, h => by cases n <;> (unfold okD at h; cases h)
  | n, .dct _ _, h => by cases n <;> (unfold okD at h; cases h)
  | n, .obj _ _ _, h => by cases n <;> (unfold okD at h; cases h)
  | n, .ref _, h => by cases n <;> (unfold okD at h; cases h)
  | n, .scr _, h => by cases n <;> (unfold okD at h; cases h)
theorem eqDs_refl : ∀ (n : Nat) (ds : List D), okDs n ds = true → eqDs ds ds = true
  | n, [], _ => by unfold eqDs; rfl
  | n, d :: ds, h => by
    unfold okDs at h
    rw [Bool.and_eq_true] at h
    unfold eqDs
    rw [eqD_refl n d h.1, eqDs_refl n ds h.2]
    rfl
end
theorem okDs_ints {n : Nat} : ∀ xs : List Int, okDs n (xs.map D.int) = true
  | [] => by unfold okDs; rfl
  | x :: xs => by
    rw [List.map_cons]
    unfold okDs
    rw [okDs_ints xs]
    cases n <;> (unfold okD; rfl)
theorem eqDs_ints : ∀ xs ys : List Int, eqDs (xs.map D.int) (ys.map D.int) = decide (xs = ys)
  | [], [] => by unfold eqDs; rfl
  | [], y :: ys => by unfold eqDs; rfl
  | x :: xs, [] => by unfold eqDs; rfl
  | x :: xs, y :: ys => by
    rw [List.map_cons, List.map_cons]
    unfold eqDs
    rw [eqDs_ints xs ys]
    unfold eqD
    by_cases q : x = y <;> by_cases r : xs = ys <;> simp [q, r]
theorem okD_tupI {n : Nat} {xs : List Int} : okD (n + 1) (.tup (xs.map D.int)) = true := by unfold okD; exact okDs_ints xs
theorem okD_lstI {n : Nat} {xs : List Int} : okD (n + 1) (.lst (xs.map D.int)) = true := by unfold okD; exact okDs_ints xs
theorem eqD_tupI {xs ys : List Int} : eqD (.tup (xs.map D.int)) (.tup (ys.map D.int)) = decide (xs = ys) := by unfold eqD; exact eqDs_ints xs ys
theorem cut_take {α : Type} {xs : List α} {v : Int} (h : 0 ≤ v) : cutL xs none (some v) = xs.take v.toNat := by
  unfold cutL HT.sIx
  dsimp only
  rw [if_neg (by omega), List.drop_zero, Nat.sub_zero, List.take_eq_take_iff]
  omega
theorem cut_takeN {α : Type} {xs : List α} {v : Int} (h : v < 0) : cutL xs none (some v) = xs.take (xs.length - (-v).toNat) := by
  unfold cutL HT.sIx
  dsimp only
  rw [if_pos h, List.drop_zero, Nat.sub_zero, List.take_eq_take_iff]
  omega
theorem cut_drop {α : Type} {xs : List α} {v : Int} (h : 0 ≤ v) : cutL xs (some v) none = xs.drop v.toNat := by
  unfold cutL HT.sIx
  dsimp only
  rw [if_neg (by omega)]
  by_cases q : v.toNat ≤ xs.length
  · rw [Nat.min_eq_left q, List.take_of_length_le]
    rw [List.length_drop]
    exact Nat.le_refl _
  · rw [Nat.min_eq_right (by omega), Nat.sub_self, List.take_zero, List.drop_eq_nil_of_le (by omega)]
theorem cutL_len {α : Type} {xs : List α} {lo hi : Option Int} : (cutL xs lo hi).length ≤ xs.length := by
  unfold cutL
  rw [List.length_take, List.length_drop]
  omega
theorem cutL_mem {α : Type} {xs : List α} {lo hi : Option Int} {x : α} (h : x ∈ cutL xs lo hi) : x ∈ xs := List.mem_of_mem_drop (List.mem_of_mem_take h)
theorem cutL_map {α β : Type} (f : α → β) (xs : List α) (lo hi : Option Int) : cutL (xs.map f) lo hi = (cutL xs lo hi).map f := by
  unfold cutL
  rw [List.length_map, ← List.map_drop, ← List.map_take]
/-! ### shared lists are written -/
section
variable {env : VE} {vh : VH} {i n m : Nat} {j : Int} {x : D} {xs ys : List D} {Q : VE → VH → Prop}
theorem w_setD (h2 : vh[n]? = some (.lst xs)) (hi : ixN xs.length j = some m) (h : ∀ vh', vh'[n]? = some (.lst (xs.set m x)) → Fx n vh vh' → Q env vh') : wpSet (.dat (.ref n)) (.int j) x env vh Q := by
  show setSh n (.int j) x vh (Q env)
  unfold setSh
  rw [h2]
  exact ⟨m, hi, h _ (get_set h2) fx_set⟩
theorem w_setR (h1 : env[i]? = some (.val (.ref n))) (h2 : vh[n]? = some (.lst xs)) (hi : ixN xs.length j = some m) (h : ∀ vh', vh'[n]? = some (.lst (xs.set m x)) → Fx n vh vh' → Q env vh') : wpSet (.slt i) (.int j) x env vh Q := by
  unfold wpSet
  dsimp only
  rw [h1]
  show setSh n (.int j) x vh (Q env)
  unfold setSh
  rw [h2]
  exact ⟨m, hi, h _ (get_set h2) fx_set⟩
theorem w_appD (h2 : vh[n]? = some (.lst xs)) (hl : xs.length < 16777216) (h : ∀ vh', vh'[n]? = some (.lst (xs ++ [x])) → Fx n vh vh' → Q env vh') : wpApp (.dat (.ref n)) x env vh Q := by
  show appSh n x vh (Q env)
  unfold appSh
  rw [h2]
  exact ⟨hl, h _ (get_set h2) fx_set⟩
theorem w_appR (h1 : env[i]? = some (.val (.ref n))) (h2 : vh[n]? = some (.lst xs)) (hl : xs.length < 16777216) (h : ∀ vh', vh'[n]? = some (.lst (xs ++ [x])) → Fx n vh vh' → Q env vh') : wpApp (.slt i) x env vh Q := by
  unfold wpApp
  dsimp only
  rw [h1]
  show appSh n x vh (Q env)
  unfold appSh
  rw [h2]
  exact ⟨hl, h _ (get_set h2) fx_set⟩
theorem w_extD (h2 : vh[n]? = some (.lst xs)) (hl : xs.length + ys.length ≤ 16777216) (h : ∀ vh', vh'[n]? = some (.lst (xs ++ ys)) → Fx n vh vh' → Q env vh') : wpExt (.dat (.ref n)) ys env vh Q := by
  show extSh n ys vh (Q env)
  unfold extSh
  rw [h2]
  exact ⟨hl, h _ (get_set h2) fx_set⟩
theorem ex_ld1 {F : List D → Prop} (h : vh[n]? = some (.lst xs)) (q : F [.lst xs]) : ∃ ds, ldAll env vh [.dat (.ref n)] = some ds ∧ F ds := by
  refine ⟨[.lst xs], ?_, q⟩
  unfold ldAll ldAll Op.ld deref
  dsimp only
  rw [h]
theorem ex_ld1s {F : List D → Prop} (h1 : env[i]? = some (.val (.ref n))) (h : vh[n]? = some (.lst xs)) (q : F [.lst xs]) : ∃ ds, ldAll env vh [.slt i] = some ds ∧ F ds := by
  refine ⟨[.lst xs], ?_, q⟩
  unfold ldAll ldAll Op.ld
  dsimp only
  rw [h1]
  dsimp only
  unfold Slot.ld deref
  dsimp only
  rw [h]
theorem ls_D (h2 : vh[n]? = some (.lst xs)) : isLs (.dat (.ref n)) env vh := ⟨xs, h2⟩
theorem ls_R (h1 : env[i]? = some (.val (.ref n))) (h2 : vh[n]? = some (.lst xs)) : isLs (.slt i) env vh := by
  unfold isLs
  dsimp only
  rw [h1]
  exact ⟨xs, h2⟩
end
end R

namespace L_k27
open PySem PySem.Spec PyProof.Rows L2 R
def top (i : Nat) : Stmt := PySem.Challenge.pw_swornworlds_k27_whole_books_by_an_own_ac.main.body.getD i (.Pass ⟨0, 0, 0, 0⟩)
def cls (i j : Nat) : Stmt := match top i with
  | .ClassDef _ _ _ b .. => b.getD j (.Pass ⟨0, 0, 0, 0⟩)
  | s => s
def tb : List (Str × List Str × List Str) := [("NoNumber", [], ["NoNumber", "WorldError", "ValueError", "Exception", "BaseException", "object"]), ("NoInputs", [], ["NoInputs", "WorldError", "ValueError", "Exception", "BaseException", "object"]), ("NoSeat", [], ["NoSeat", "WorldError", "ValueError", "Exception", "BaseException", "object"]), ("NotOpen", [], ["NotOpen", "WorldError", "ValueError", "Exception", "BaseException", "object"]), ("NotWaiting", [], ["NotWaiting", "WorldError", "ValueError", "Exception", "BaseException", "object"]), ("NoTick", [], ["NoTick", "WorldError", "ValueError", "Exception", "BaseException", "object"]), ("Gap", [], ["Gap", "WorldError", "ValueError", "Exception", "BaseException", "object"])]
def hs : List Str := ["NoSeat", "NotWaiting", "NoTick", "NotOpen", "Gap", "NoInputs"]
def shf : List Str := ["words", "begins", "told", "done"]
abbrev st__wall : Stmt := top 0
def tc__wall : Tc := ⟨["k"], [], [], [], tb, hs, shf, false⟩
def ir__wall : List S := [.whl (.bl true) [.pass]]
theorem tr__wall : eqO (trB tc__wall 60 (defScope st__wall) 100 (defBody st__wall)) ir__wall = true := by decide +kernel
theorem sc__wall : defB tc__wall.N ["k"] (defScope st__wall) = true := by decide +kernel
abbrev st_is_integer : Stmt := top 11
def tc_is_integer : Tc := ⟨["thing"], [], [], [], tb, hs, shf, false⟩
def ir_is_integer : List S := [.ret (.and (.isi (.bor 0) ["int"]) (.not (.isi (.bor 0) ["bool"])))]
theorem tr_is_integer : eqO (trB tc_is_integer 60 (defScope st_is_integer) 100 (defBody st_is_integer)) ir_is_integer = true := by decide +kernel
theorem sc_is_integer : defB tc_is_integer.N ["thing"] (defScope st_is_integer) = true := by decide +kernel
abbrev st_is_within : Stmt := top 12
def tc_is_within : Tc := ⟨["thing", "least", "most"], ["is_integer"], [], [], tb, hs, shf, false⟩
def ir_is_within : List S := [.ret (.and (.call "is_integer" [(.var 0)]) (.chain .LtE .LtE (.bor 1) (.bor 0) (.bor 2)))]
theorem tr_is_within : eqO (trB tc_is_within 60 (defScope st_is_within) 100 (defBody st_is_within)) ir_is_within = true := by decide +kernel
theorem sc_is_within : defB tc_is_within.N ["thing", "least", "most"] (defScope st_is_within) = true := by decide +kernel
abbrev st_is_below : Stmt := top 13
def tc_is_below : Tc := ⟨["thing", "many"], ["is_within"], [], [], tb, hs, shf, false⟩
def ir_is_below : List S := [.ret (.call "is_within" [(.var 0), (.int 0), (.bin .Sub (.bor 1) (.int 1))])]
theorem tr_is_below : eqO (trB tc_is_below 60 (defScope st_is_below) 100 (defBody st_is_below)) ir_is_below = true := by decide +kernel
theorem sc_is_below : defB tc_is_below.N ["thing", "many"] (defScope st_is_below) = true := by decide +kernel
abbrev st_check_within : Stmt := top 14
def tc_check_within : Tc := ⟨["thing", "least", "most"], ["is_within"], [], [], tb, hs, shf, false⟩
def ir_check_within : List S := [.cond (.not (.call "is_within" [(.var 0), (.var 1), (.var 2)])) [.raise "NoNumber" []] []]
theorem tr_check_within : eqO (trB tc_check_within 60 (defScope st_check_within) 100 (defBody st_check_within)) ir_check_within = true := by decide +kernel
theorem sc_check_within : defB tc_check_within.N ["thing", "least", "most"] (defScope st_check_within) = true := by decide +kernel
abbrev st_is_input : Stmt := top 18
def tc_is_input : Tc := ⟨["thing"], ["is_below"], [], [], tb, hs, shf, false⟩
def ir_is_input : List S := [.ret (.call "is_below" [(.var 0), (.glo "BYTE")])]
theorem tr_is_input : eqO (trB tc_is_input 60 (defScope st_is_input) 100 (defBody st_is_input)) ir_is_input = true := by decide +kernel
theorem sc_is_input : defB tc_is_input.N ["thing"] (defScope st_is_input) = true := by decide +kernel
abbrev st_are_inputs : Stmt := top 19
def tc_are_inputs : Tc := ⟨["thing", ".0", "item"], ["is_input"], [], [], tb, hs, shf, false⟩
def ir_are_inputs : List S := [.ret (.and (.isi (.bor 0) ["tuple"]) (.and (.cmp .LtE (.blt .len [(.bor 0)]) (.glo "MOST_INPUTS")) (.blt .all [(.lc (.call "is_input" [(.var 2)]) (.one 2) [1, 2] .seq [(.var 0)] [])])))]
theorem tr_are_inputs : eqO (trB tc_are_inputs 60 (defScope st_are_inputs) 100 (defBody st_are_inputs)) ir_are_inputs = true := by decide +kernel
theorem sc_are_inputs : defB tc_are_inputs.N ["thing"] (defScope st_are_inputs) = true := by decide +kernel
abbrev st_check_inputs : Stmt := top 20
def tc_check_inputs : Tc := ⟨["thing"], ["are_inputs"], [], [], tb, hs, shf, false⟩
def ir_check_inputs : List S := [.cond (.not (.call "are_inputs" [(.var 0)])) [.raise "NoInputs" []] []]
theorem tr_check_inputs : eqO (trB tc_check_inputs 60 (defScope st_check_inputs) 100 (defBody st_check_inputs)) ir_check_inputs = true := by decide +kernel
theorem sc_check_inputs : defB tc_check_inputs.N ["thing"] (defScope st_check_inputs) = true := by decide +kernel
abbrev st_Book___init__ : Stmt := cls 29 0
def tc_Book___init__ : Tc := ⟨["self", "players", ".0", "seat"], ["check_within", pfN "players", pfN "words", pfN "begins", pfN "told", pfN "done"], [], [], tb, hs, shf, true⟩
def ir_Book___init__ : List S := [.expr (.call "check_within" [(.var 1), (.int 1), (.glo "MOST_SEATS")]), .fset (.bor 0) "players" (.var 1), .fset (.bor 0) "words" (.shr (.bin .Mult (.lst [(.glo "WAITING")]) (.bor 1))), .fset (.bor 0) "begins" (.shr (.bin .Mult (.lst [(.int 0)]) (.bor 1))), .fset (.bor 0) "told" (.shr (.lc (.shr (.lst [])) (.one 3) [2, 3] .rng1 [(.var 1)] [])), .fset (.bor 0) "done" (.shr (.lst []))]
theorem tr_Book___init__ : eqO (trB tc_Book___init__ 60 (defScope st_Book___init__) 100 (defBody st_Book___init__)) ir_Book___init__ = true := by decide +kernel
theorem sc_Book___init__ : defB tc_Book___init__.N ["self", "players"] (defScope st_Book___init__) = true := by decide +kernel
abbrev st_Book_check_seat : Stmt := cls 29 1
def tc_Book_check_seat : Tc := ⟨["self", "seat"], ["is_below", pfN "players"], [], [], tb, hs, shf, false⟩
def ir_Book_check_seat : List S := [.cond (.not (.call "is_below" [(.var 1), (.fld (.bor 0) "players")])) [.raise "NoSeat" []] []]
theorem tr_Book_check_seat : eqO (trB tc_Book_check_seat 60 (defScope st_Book_check_seat) 100 (defBody st_Book_check_seat)) ir_Book_check_seat = true := by decide +kernel
theorem sc_Book_check_seat : defB tc_Book_check_seat.N ["self", "seat"] (defScope st_Book_check_seat) = true := by decide +kernel
abbrev st_Book_check_open : Stmt := cls 29 2
def tc_Book_check_open : Tc := ⟨["self", "seat"], [pmN "check_seat", pfN "words"], [], [], tb, hs, shf, false⟩
def ir_Book_check_open : List S := [.expr (.meth (.bor 0) "check_seat" [(.var 1)]), .cond (.cmp .NotEq (.idx (.fld (.bor 0) "words") (.bor 1)) (.glo "OPEN")) [.raise "NotOpen" []] []]
theorem tr_Book_check_open : eqO (trB tc_Book_check_open 60 (defScope st_Book_check_open) 100 (defBody st_Book_check_open)) ir_Book_check_open = true := by decide +kernel
theorem sc_Book_check_open : defB tc_Book_check_open.N ["self", "seat"] (defScope st_Book_check_open) = true := by decide +kernel
abbrev st_Book_word : Stmt := cls 29 3
def tc_Book_word : Tc := ⟨["self", "seat"], [pmN "check_seat", pfN "words"], [], [], tb, hs, shf, false⟩
def ir_Book_word : List S := [.expr (.meth (.bor 0) "check_seat" [(.var 1)]), .ret (.idx (.fld (.bor 0) "words") (.bor 1))]
theorem tr_Book_word : eqO (trB tc_Book_word 60 (defScope st_Book_word) 100 (defBody st_Book_word)) ir_Book_word = true := by decide +kernel
theorem sc_Book_word : defB tc_Book_word.N ["self", "seat"] (defScope st_Book_word) = true := by decide +kernel
abbrev st_Book_begin : Stmt := cls 29 4
def tc_Book_begin : Tc := ⟨["self", "seat"], [pmN "check_seat", pfN "begins"], [], [], tb, hs, shf, false⟩
def ir_Book_begin : List S := [.expr (.meth (.bor 0) "check_seat" [(.var 1)]), .ret (.idx (.fld (.bor 0) "begins") (.bor 1))]
theorem tr_Book_begin : eqO (trB tc_Book_begin 60 (defScope st_Book_begin) 100 (defBody st_Book_begin)) ir_Book_begin = true := by decide +kernel
theorem sc_Book_begin : defB tc_Book_begin.N ["self", "seat"] (defScope st_Book_begin) = true := by decide +kernel
abbrev st_Book_end_of : Stmt := cls 29 5
def tc_Book_end_of : Tc := ⟨["self", "seat"], [pfN "begins", pfN "told"], [], [], tb, hs, shf, false⟩
def ir_Book_end_of : List S := [.ret (.bin .Add (.idx (.fld (.bor 0) "begins") (.bor 1)) (.blt .len [(.idx (.fld (.bor 0) "told") (.bor 1))]))]
theorem tr_Book_end_of : eqO (trB tc_Book_end_of 60 (defScope st_Book_end_of) 100 (defBody st_Book_end_of)) ir_Book_end_of = true := by decide +kernel
theorem sc_Book_end_of : defB tc_Book_end_of.N ["self", "seat"] (defScope st_Book_end_of) = true := by decide +kernel
abbrev st_Book_ending : Stmt := cls 29 6
def tc_Book_ending : Tc := ⟨["self", "seat"], [pmN "check_seat", pmN "end_of"], [], [], tb, hs, shf, false⟩
def ir_Book_ending : List S := [.expr (.meth (.bor 0) "check_seat" [(.var 1)]), .ret (.meth (.bor 0) "end_of" [(.var 1)])]
theorem tr_Book_ending : eqO (trB tc_Book_ending 60 (defScope st_Book_ending) 100 (defBody st_Book_ending)) ir_Book_ending = true := by decide +kernel
theorem sc_Book_ending : defB tc_Book_ending.N ["self", "seat"] (defScope st_Book_ending) = true := by decide +kernel
abbrev st_Book_settled : Stmt := cls 29 7
def tc_Book_settled : Tc := ⟨["self", "ends", ".0", "seat"], [pmN "end_of", pfN "players", pfN "words"], [], [], tb, hs, shf, false⟩
def ir_Book_settled : List S := [.set 1 (.lc (.meth (.bor 0) "end_of" [(.var 3)]) (.one 3) [2, 3] .rng1 [(.fld (.bor 0) "players")] [(.cmp .Eq (.idx (.fld (.bor 0) "words") (.bor 3)) (.glo "OPEN"))]), .cond (.cmp .Gt (.blt .len [(.bor 1)]) (.int 0)) [.ret (.blt .min1 [(.bor 1)])] [], .ret (.blt .max1 [(.lc (.meth (.bor 0) "end_of" [(.var 3)]) (.one 3) [2, 3] .rng1 [(.fld (.bor 0) "players")] [])])]
theorem tr_Book_settled : eqO (trB tc_Book_settled 60 (defScope st_Book_settled) 100 (defBody st_Book_settled)) ir_Book_settled = true := by decide +kernel
theorem sc_Book_settled : defB tc_Book_settled.N ["self"] (defScope st_Book_settled) = true := by decide +kernel
abbrev st_Book_open_seat : Stmt := cls 29 8
def tc_Book_open_seat : Tc := ⟨["self", "seat", "tick"], ["is_within", pmN "check_seat", pmN "settled", pfN "words", pfN "begins", pfN "done"], [], [], tb, hs, shf, false⟩
def ir_Book_open_seat : List S := [.expr (.meth (.bor 0) "check_seat" [(.var 1)]), .cond (.cmp .NotEq (.idx (.fld (.bor 0) "words") (.bor 1)) (.glo "WAITING")) [.raise "NotWaiting" []] [], .cond (.not (.call "is_within" [(.var 2), (.meth (.bor 0) "settled" []), (.glo "LAST_TICK")])) [.raise "NoTick" []] [], .sidx (.fld (.bor 0) "words") (.var 1) (.glo "OPEN"), .sidx (.fld (.bor 0) "begins") (.var 1) (.var 2), .app (.fld (.bor 0) "done") (.tup [(.glo "OPEN"), (.var 1), (.var 2)])]
theorem tr_Book_open_seat : eqO (trB tc_Book_open_seat 60 (defScope st_Book_open_seat) 100 (defBody st_Book_open_seat)) ir_Book_open_seat = true := by decide +kernel
theorem sc_Book_open_seat : defB tc_Book_open_seat.N ["self", "seat", "tick"] (defScope st_Book_open_seat) = true := by decide +kernel
abbrev st_Book_tell : Stmt := cls 29 9
def tc_Book_tell : Tc := ⟨["self", "seat", "tick", "inputs", "end", "newer"], ["is_within", "check_inputs", pmN "check_open", pmN "end_of", pfN "told", pfN "done"], [], [], tb, hs, shf, false⟩
def ir_Book_tell : List S := [.expr (.meth (.bor 0) "check_open" [(.var 1)]), .cond (.not (.call "is_within" [(.var 2), (.int 0), (.glo "LAST_TICK")])) [.raise "NoTick" []] [], .set 4 (.meth (.bor 0) "end_of" [(.var 1)]), .cond (.cmp .Gt (.bor 2) (.bor 4)) [.raise "Gap" []] [], .expr (.call "check_inputs" [(.var 3)]), .set 5 (.sli (.bor 3) (.bin .Sub (.bor 4) (.bor 2)) (.bin .Sub (.glo "LAST_TICK") (.bor 2))), .cond (.cmp .Gt (.blt .len [(.bor 5)]) (.int 0)) [.ext (.idx (.fld (.bor 0) "told") (.bor 1)) (.var 5), .app (.fld (.bor 0) "done") (.tup [(.glo "TELL"), (.var 1), (.var 4), (.var 5)])] [], .ret (.blt .len [(.bor 5)])]
theorem tr_Book_tell : eqO (trB tc_Book_tell 60 (defScope st_Book_tell) 100 (defBody st_Book_tell)) ir_Book_tell = true := by decide +kernel
theorem sc_Book_tell : defB tc_Book_tell.N ["self", "seat", "tick", "inputs"] (defScope st_Book_tell) = true := by decide +kernel
abbrev st_Book_close_seat : Stmt := cls 29 10
def tc_Book_close_seat : Tc := ⟨["self", "seat"], [pmN "check_open", pfN "words", pfN "done"], [], [], tb, hs, shf, false⟩
def ir_Book_close_seat : List S := [.expr (.meth (.bor 0) "check_open" [(.var 1)]), .sidx (.fld (.bor 0) "words") (.var 1) (.glo "CLOSED"), .app (.fld (.bor 0) "done") (.tup [(.glo "CLOSE"), (.var 1)])]
theorem tr_Book_close_seat : eqO (trB tc_Book_close_seat 60 (defScope st_Book_close_seat) 100 (defBody st_Book_close_seat)) ir_Book_close_seat = true := by decide +kernel
theorem sc_Book_close_seat : defB tc_Book_close_seat.N ["self", "seat"] (defScope st_Book_close_seat) = true := by decide +kernel
abbrev st_Book_input_of : Stmt := cls 29 11
def tc_Book_input_of : Tc := ⟨["self", "seat", "tick"], [pmN "end_of", pfN "words", pfN "begins", pfN "told"], [], [], tb, hs, shf, false⟩
def ir_Book_input_of : List S := [.cond (.or (.cmp .Eq (.idx (.fld (.bor 0) "words") (.bor 1)) (.glo "WAITING")) (.cmp .Lt (.bor 2) (.idx (.fld (.bor 0) "begins") (.bor 1)))) [.ret (.int 0)] [], .cond (.cmp .Lt (.bor 2) (.meth (.bor 0) "end_of" [(.var 1)])) [.ret (.idx (.idx (.fld (.bor 0) "told") (.bor 1)) (.bin .Sub (.bor 2) (.idx (.fld (.bor 0) "begins") (.bor 1))))] [], .ret (.ite (.cmp .Eq (.idx (.fld (.bor 0) "words") (.bor 1)) (.glo "CLOSED")) (.int 0) .non)]
theorem tr_Book_input_of : eqO (trB tc_Book_input_of 60 (defScope st_Book_input_of) 100 (defBody st_Book_input_of)) ir_Book_input_of = true := by decide +kernel
theorem sc_Book_input_of : defB tc_Book_input_of.N ["self", "seat", "tick"] (defScope st_Book_input_of) = true := by decide +kernel
abbrev st_Book_input_at : Stmt := cls 29 12
def tc_Book_input_at : Tc := ⟨["self", "seat", "tick"], ["is_within", pmN "check_seat", pmN "input_of"], [], [], tb, hs, shf, false⟩
def ir_Book_input_at : List S := [.expr (.meth (.bor 0) "check_seat" [(.var 1)]), .cond (.not (.call "is_within" [(.var 2), (.int 0), (.glo "LAST_TICK")])) [.raise "NoTick" []] [], .ret (.meth (.bor 0) "input_of" [(.var 1), (.var 2)])]
theorem tr_Book_input_at : eqO (trB tc_Book_input_at 60 (defScope st_Book_input_at) 100 (defBody st_Book_input_at)) ir_Book_input_at = true := by decide +kernel
theorem sc_Book_input_at : defB tc_Book_input_at.N ["self", "seat", "tick"] (defScope st_Book_input_at) = true := by decide +kernel
abbrev st_Book_inputs_at : Stmt := cls 29 13
def tc_Book_inputs_at : Tc := ⟨["self", "tick", ".0", "seat"], [pmN "input_of", pfN "players"], [], [], tb, hs, shf, false⟩
def ir_Book_inputs_at : List S := [.ret (.blt .tuple [(.lc (.meth (.bor 0) "input_of" [(.var 3), (.var 1)]) (.one 3) [2, 3] .rng1 [(.fld (.bor 0) "players")] [])])]
theorem tr_Book_inputs_at : eqO (trB tc_Book_inputs_at 60 (defScope st_Book_inputs_at) 100 (defBody st_Book_inputs_at)) ir_Book_inputs_at = true := by decide +kernel
theorem sc_Book_inputs_at : defB tc_Book_inputs_at.N ["self", "tick"] (defScope st_Book_inputs_at) = true := by decide +kernel
abbrev st_Book_inputs : Stmt := cls 29 14
def tc_Book_inputs : Tc := ⟨["self", "tick"], ["is_below", pmN "settled", pmN "inputs_at"], [], [], tb, hs, shf, false⟩
def ir_Book_inputs : List S := [.cond (.not (.call "is_below" [(.var 1), (.meth (.bor 0) "settled" [])])) [.raise "NoTick" []] [], .ret (.meth (.bor 0) "inputs_at" [(.var 1)])]
theorem tr_Book_inputs : eqO (trB tc_Book_inputs 60 (defScope st_Book_inputs) 100 (defBody st_Book_inputs)) ir_Book_inputs = true := by decide +kernel
theorem sc_Book_inputs : defB tc_Book_inputs.N ["self", "tick"] (defScope st_Book_inputs) = true := by decide +kernel
abbrev st_Book_stretch : Stmt := cls 29 15
def tc_Book_stretch : Tc := ⟨["self", "seat", "tick", "most"], ["_wall"], [], [], tb, hs, shf, false⟩
def ir_Book_stretch : List S := [.expr (.call "_wall" [(.int 0)])]
theorem tr_Book_stretch : eqO (trB tc_Book_stretch 60 (defScope st_Book_stretch) 100 (defBody st_Book_stretch)) ir_Book_stretch = true := by decide +kernel
theorem sc_Book_stretch : defB tc_Book_stretch.N ["self", "seat", "tick", "most"] (defScope st_Book_stretch) = true := by decide +kernel
abbrev st_Book_deeds : Stmt := cls 29 16
def tc_Book_deeds : Tc := ⟨["self"], [pfN "done"], [], [], tb, hs, shf, false⟩
def ir_Book_deeds : List S := [.ret (.blt .list [(.fld (.bor 0) "done")])]
theorem tr_Book_deeds : eqO (trB tc_Book_deeds 60 (defScope st_Book_deeds) 100 (defBody st_Book_deeds)) ir_Book_deeds = true := by decide +kernel
theorem sc_Book_deeds : defB tc_Book_deeds.N ["self"] (defScope st_Book_deeds) = true := by decide +kernel
abbrev st_Book_copy : Stmt := cls 29 17
def tc_Book_copy : Tc := ⟨["self"], ["_wall"], [], [], tb, hs, shf, false⟩
def ir_Book_copy : List S := [.expr (.call "_wall" [(.int 1)])]
theorem tr_Book_copy : eqO (trB tc_Book_copy 60 (defScope st_Book_copy) 100 (defBody st_Book_copy)) ir_Book_copy = true := by decide +kernel
theorem sc_Book_copy : defB tc_Book_copy.N ["self"] (defScope st_Book_copy) = true := by decide +kernel
abbrev st_Book_is_next : Stmt := cls 29 18
def tc_Book_is_next : Tc := ⟨["self", "seat", "tick", "inputs"], ["_wall"], [], [], tb, hs, shf, false⟩
def ir_Book_is_next : List S := [.expr (.call "_wall" [(.int 2)])]
theorem tr_Book_is_next : eqO (trB tc_Book_is_next 60 (defScope st_Book_is_next) 100 (defBody st_Book_is_next)) ir_Book_is_next = true := by decide +kernel
theorem sc_Book_is_next : defB tc_Book_is_next.N ["self", "seat", "tick", "inputs"] (defScope st_Book_is_next) = true := by decide +kernel
abbrev st_Book_do : Stmt := cls 29 19
def tc_Book_do : Tc := ⟨["self", "deed"], ["_wall"], [], [], tb, hs, shf, false⟩
def ir_Book_do : List S := [.expr (.call "_wall" [(.int 3)])]
theorem tr_Book_do : eqO (trB tc_Book_do 60 (defScope st_Book_do) 100 (defBody st_Book_do)) ir_Book_do = true := by decide +kernel
theorem sc_Book_do : defB tc_Book_do.N ["self", "deed"] (defScope st_Book_do) = true := by decide +kernel
abbrev st__law_hand : Stmt := top 31
def tc__law_hand : Tc := ⟨["script", ".0", "cell"], [], [], [], tb, hs, shf, false⟩
def ir__law_hand : List S := [.ret (.lst [(.lc (.blt .int [(.bor 2)]) (.one 2) [1, 2] .seq [(.sli (.bor 0) .skip (.int 63))] []), (.int 0), (.int 0), (.bin .Add (.int 1) (.blt .len [(.sli (.bor 0) .skip (.int 63))])), (.int 0)])]
theorem tr__law_hand : eqO (trB tc__law_hand 60 (defScope st__law_hand) 100 (defBody st__law_hand)) ir__law_hand = true := by decide +kernel
theorem sc__law_hand : defB tc__law_hand.N ["script"] (defScope st__law_hand) = true := by decide +kernel
abbrev st__law_draw : Stmt := top 32
def tc__law_draw : Tc := ⟨["hand", "many", "cell", "digit", "number"], [], [], [], tb, hs, shf, false⟩
def ir__law_draw : List S := [.cond (.and (.cmp .Eq (.idx (.bor 0) (.int 2)) (.int 0)) (.cmp .Lt (.idx (.bor 0) (.int 1)) (.blt .len [(.idx (.bor 0) (.int 0))]))) [.set 2 (.idx (.idx (.bor 0) (.int 0)) (.idx (.bor 0) (.int 1))), .sidx (.bor 0) (.int 1) (.bin .Add (.idx (.bor 0) (.int 1)) (.int 1)), .sidx (.bor 0) (.int 3) (.bin .Mod (.blt .int [(.bin .Add (.bin .Add (.bin .Mult (.idx (.bor 0) (.int 3)) (.int 69621)) (.bin .Mult (.bor 2) (.int 16))) (.int 11))]) (.int 2147483629)), .cond (.cmp .GtE (.bor 2) (.bin .Pow (.int 10) (.int 18))) [.sidx (.bor 0) (.int 2) (.var 2)] []] [], .cond (.cmp .Gt (.idx (.bor 0) (.int 2)) (.int 0)) [.set 3 (.bin .Mod (.blt .int [(.idx (.bor 0) (.int 2))]) (.bor 1)), .sidx (.bor 0) (.int 2) (.bin .FloorDiv (.idx (.bor 0) (.int 2)) (.bor 1)), .ret (.var 3)] [], .sidx (.bor 0) (.int 4) (.bin .Add (.idx (.bor 0) (.int 4)) (.int 1)), .set 4 (.bin .Mod (.blt .int [(.bin .Mult (.blt .int [(.bin .Add (.idx (.bor 0) (.int 3)) (.bin .Mult (.int 7919) (.idx (.bor 0) (.int 4))))]) (.int 48271))]) (.int 2147483647)), .set 4 (.bin .Mod (.blt .int [(.bin .Mult (.bor 4) (.bin .Add (.bin .FloorDiv (.bor 4) (.int 1009)) (.int 69621)))]) (.int 2147483647)), .set 4 (.bin .Mod (.blt .int [(.bin .Mult (.bor 4) (.bin .Add (.bin .FloorDiv (.bor 4) (.int 2003)) (.int 40692)))]) (.int 2147483399)), .ret (.bin .Mod (.blt .int [(.bin .FloorDiv (.bor 4) (.int 16))]) (.bor 1))]
theorem tr__law_draw : eqO (trB tc__law_draw 60 (defScope st__law_draw) 100 (defBody st__law_draw)) ir__law_draw = true := by decide +kernel
theorem sc__law_draw : defB tc__law_draw.N ["hand", "many"] (defScope st__law_draw) = true := by decide +kernel
abbrev st__law_is : Stmt := top 33
def tc__law_is : Tc := ⟨["told", "due", ".0", "one", "two"], ["_law_is"], [], ["due"], tb, hs, shf, false⟩
def ir__law_is : List S := [.cond (.isi (.bor 1) ["tuple", "list"]) [.cond (.or (.cmp .NotEq (.isi (.bor 0) ["tuple"]) (.isi (.bor 1) ["tuple"])) (.not (.isi (.bor 0) ["tuple", "list"]))) [.ret (.bl false)] [], .ret (.and (.cmp .Eq (.blt .len [(.bor 0)]) (.blt .len [(.bor 1)])) (.blt .all [(.lc (.call "_law_is" [(.var 3), (.var 4)]) (.many [3, 4]) [2, 3, 4] .zipS [(.var 0), (.var 1)] [])]))] [], .ret (.and (.cmp .Eq (.isi (.bor 0) ["bool"]) (.isi (.bor 1) ["bool"])) (.cmp .Eq (.bor 0) (.bor 1)))]
theorem tr__law_is : eqO (trB tc__law_is 60 (defScope st__law_is) 100 (defBody st__law_is)) ir__law_is = true := by decide +kernel
theorem sc__law_is : defB tc__law_is.N ["told", "due"] (defScope st__law_is) = true := by decide +kernel
abbrev st__law_end : Stmt := top 34
def tc__law_end : Tc := ⟨["seat"], [], [], [], tb, hs, shf, false⟩
def ir__law_end : List S := [.ret (.bin .Add (.idx (.bor 0) (.int 1)) (.blt .len [(.idx (.bor 0) (.int 2))]))]
theorem tr__law_end : eqO (trB tc__law_end 60 (defScope st__law_end) 100 (defBody st__law_end)) ir__law_end = true := by decide +kernel
theorem sc__law_end : defB tc__law_end.N ["seat"] (defScope st__law_end) = true := by decide +kernel
abbrev st__law_settled : Stmt := top 35
def tc__law_settled : Tc := ⟨["seats", "ends", ".0", "seat"], ["_law_end"], [], ["seats"], tb, hs, shf, false⟩
def ir__law_settled : List S := [.set 1 (.lc (.call "_law_end" [(.var 3)]) (.one 3) [2, 3] .seqS [(.var 0)] [(.cmp .Eq (.idx (.bor 3) (.int 0)) (.str "open"))]), .cond (.cmp .Gt (.blt .len [(.bor 1)]) (.int 0)) [.ret (.blt .min1 [(.bor 1)])] [], .ret (.blt .max1 [(.lc (.call "_law_end" [(.var 3)]) (.one 3) [2, 3] .seqS [(.var 0)] [])])]
theorem tr__law_settled : eqO (trB tc__law_settled 60 (defScope st__law_settled) 100 (defBody st__law_settled)) ir__law_settled = true := by decide +kernel
theorem sc__law_settled : defB tc__law_settled.N ["seats"] (defScope st__law_settled) = true := by decide +kernel
abbrev st__law_told_input : Stmt := top 36
def tc__law_told_input : Tc := ⟨["seat", "tick"], ["_law_end"], [], [], tb, hs, shf, false⟩
def ir__law_told_input : List S := [.cond (.or (.cmp .Eq (.idx (.bor 0) (.int 0)) (.str "waiting")) (.cmp .Lt (.bor 1) (.idx (.bor 0) (.int 1)))) [.ret (.int 0)] [], .cond (.cmp .Lt (.bor 1) (.call "_law_end" [(.var 0)])) [.ret (.idx (.idx (.bor 0) (.int 2)) (.bin .Sub (.bor 1) (.idx (.bor 0) (.int 1))))] [], .cond (.cmp .Eq (.idx (.bor 0) (.int 0)) (.str "closed")) [.ret (.int 0)] [], .ret .non]
theorem tr__law_told_input : eqO (trB tc__law_told_input 60 (defScope st__law_told_input) 100 (defBody st__law_told_input)) ir__law_told_input = true := by decide +kernel
theorem sc__law_told_input : defB tc__law_told_input.N ["seat", "tick"] (defScope st__law_told_input) = true := by decide +kernel
abbrev st__law_told_inputs : Stmt := top 37
def tc__law_told_inputs : Tc := ⟨["hand", ".0", "turn"], ["_law_draw"], [], [], tb, hs, shf, false⟩
def ir__law_told_inputs : List S := [.cond (.cmp .Eq (.call "_law_draw" [(.var 0), (.int 12)]) (.int 0)) [.ret (.bin .Mult (.tup [(.call "_law_draw" [(.var 0), (.int 256)])]) (.call "_law_draw" [(.var 0), (.int 301)]))] [], .ret (.blt .tuple [(.lc (.call "_law_draw" [(.var 0), (.int 256)]) (.one 2) [1, 2] .rng1 [(.call "_law_draw" [(.var 0), (.int 7)])] [])])]
theorem tr__law_told_inputs : eqO (trB tc__law_told_inputs 60 (defScope st__law_told_inputs) 100 (defBody st__law_told_inputs)) ir__law_told_inputs = true := by decide +kernel
theorem sc__law_told_inputs : defB tc__law_told_inputs.N ["hand"] (defScope st__law_told_inputs) = true := by decide +kernel
abbrev st__law_book_deed : Stmt := top 38
def tc__law_book_deed : Tc := ⟨["hand", "seats", "at", "seat", "here", "wrong", "kind", "tick", "inputs"], ["_law_draw", "_law_settled", "_law_end", "_law_told_inputs"], [], [], tb, hs, shf, false⟩
def ir__law_book_deed : List S := [.set 2 (.call "_law_draw" [(.var 0), (.blt .len [(.bor 1)])]), .set 3 (.var 2), .cond (.cmp .Eq (.call "_law_draw" [(.var 0), (.int 16)]) (.int 0)) [.set 3 (.idx (.lst [(.blt .len [(.bor 1)]), (.neg (.int 1)), (.bl true), .non, (.bin .Pow (.int 10) (.int 19))]) (.call "_law_draw" [(.var 0), (.int 5)]))] [], .set 4 (.call "_law_settled" [(.var 1)]), .set 5 (.call "_law_draw" [(.var 0), (.int 24)]), .set 6 (.call "_law_draw" [(.var 0), (.int 10)]), .cond (.cmp .Eq (.bor 6) (.int 0)) [.ret (.tup [(.str "close"), (.var 3)])] [], .cond (.or (.cmp .Lt (.bor 6) (.int 3)) (.cmp .Eq (.idx (.idx (.bor 1) (.bor 2)) (.int 0)) (.str "waiting"))) [.set 7 (.blt .max2 [(.int 0), (.bin .Add (.bin .Add (.bor 4) (.idx (.lst [(.int 0), (.int 0), (.int 1), (.neg (.int 1)), (.int 9), (.bin .Sub (.int 99990) (.bor 4))]) (.call "_law_draw" [(.var 0), (.int 6)]))) (.call "_law_draw" [(.var 0), (.int 4)]))]), .cond (.cmp .Eq (.bor 5) (.int 0)) [.set 7 (.idx (.lst [(.neg (.int 1)), (.int 100001), (.bl false), .non, (.bin .Pow (.int 10) (.int 18))]) (.call "_law_draw" [(.var 0), (.int 5)]))] [], .ret (.tup [(.str "open"), (.var 3), (.var 7)])] [], .set 7 (.blt .max2 [(.int 0), (.bin .Sub (.call "_law_end" [(.idx (.bor 1) (.bor 2))]) (.idx (.lst [(.int 0), (.int 0), (.int 0), (.int 1), (.int 3), (.int 50), (.neg (.int 1)), (.int 100000)]) (.call "_law_draw" [(.var 0), (.int 8)])))]), .cond (.cmp .Eq (.bor 5) (.int 0)) [.set 7 (.idx (.lst [(.neg (.int 1)), (.int 100001), (.bl true), .non]) (.call "_law_draw" [(.var 0), (.int 4)]))] [], .set 8 (.call "_law_told_inputs" [(.var 0)]), .cond (.cmp .Eq (.bor 5) (.int 1)) [.set 8 (.idx (.lst [(.blt .list [(.bor 8)]), (.bin .Add (.bor 8) (.tup [(.int 256)])), (.bin .Add (.tup [(.bl true)]) (.bor 8)), .non, (.bin .Add (.bor 8) (.tup [(.neg (.int 1))])), (.str "a")]) (.call "_law_draw" [(.var 0), (.int 6)]))] [], .ret (.tup [(.str "tell"), (.var 3), (.var 7), (.var 8)])]
theorem tr__law_book_deed : eqO (trB tc__law_book_deed 60 (defScope st__law_book_deed) 100 (defBody st__law_book_deed)) ir__law_book_deed = true := by decide +kernel
theorem sc__law_book_deed : defB tc__law_book_deed.N ["hand", "seats"] (defScope st__law_book_deed) = true := by decide +kernel
abbrev st__law_number_up_to : Stmt := top 39
def tc__law_number_up_to : Tc := ⟨["thing", "most"], [], [], [], tb, hs, shf, false⟩
def ir__law_number_up_to : List S := [.ret (.and (.isi (.bor 0) ["int"]) (.and (.not (.isi (.bor 0) ["bool"])) (.chain .LtE .LtE (.int 0) (.bor 0) (.bor 1))))]
theorem tr__law_number_up_to : eqO (trB tc__law_number_up_to 60 (defScope st__law_number_up_to) 100 (defBody st__law_number_up_to)) ir__law_number_up_to = true := by decide +kernel
theorem sc__law_number_up_to : defB tc__law_number_up_to.N ["thing", "most"] (defScope st__law_number_up_to) = true := by decide +kernel
abbrev st__law_are_inputs : Stmt := top 40
def tc__law_are_inputs : Tc := ⟨["thing", ".0", "item"], ["_law_number_up_to"], [], [], tb, hs, shf, false⟩
def ir__law_are_inputs : List S := [.ret (.and (.isi (.bor 0) ["tuple"]) (.blt .all [(.lc (.call "_law_number_up_to" [(.var 2), (.int 255)]) (.one 2) [1, 2] .seq [(.var 0)] [])]))]
theorem tr__law_are_inputs : eqO (trB tc__law_are_inputs 60 (defScope st__law_are_inputs) 100 (defBody st__law_are_inputs)) ir__law_are_inputs = true := by decide +kernel
theorem sc__law_are_inputs : defB tc__law_are_inputs.N ["thing"] (defScope st__law_are_inputs) = true := by decide +kernel
abbrev st__law_account : Stmt := top 41
def tc__law_account : Tc := ⟨["seats", "done", "deed", "seat", "end", "newer"], ["_law_number_up_to", "_law_settled", "_law_end", "_law_are_inputs"], [], ["seats", "done"], tb, hs, shf, false⟩
def ir__law_account : List S := [.cond (.not (.call "_law_number_up_to" [(.idx (.bor 2) (.int 1)), (.bin .Sub (.blt .len [(.bor 0)]) (.int 1))])) [.ret (.tup [(.str "refused"), (.str "seat")])] [], .set 3 (.idx (.bor 0) (.idx (.bor 2) (.int 1))), .cond (.cmp .Eq (.idx (.bor 2) (.int 0)) (.str "open")) [.cond (.cmp .NotEq (.idx (.bor 3) (.int 0)) (.str "waiting")) [.ret (.tup [(.str "refused"), (.str "waiting")])] [], .cond (.or (.not (.call "_law_number_up_to" [(.idx (.bor 2) (.int 2)), (.int 100000)])) (.cmp .Lt (.idx (.bor 2) (.int 2)) (.call "_law_settled" [(.var 0)]))) [.ret (.tup [(.str "refused"), (.str "tick")])] [], .sidx (.bor 3) (.int 0) (.str "open"), .sidx (.bor 3) (.int 1) (.idx (.bor 2) (.int 2)), .app (.bor 1) (.var 2), .ret (.tup [(.str "told"), .non])] [], .cond (.cmp .NotEq (.idx (.bor 3) (.int 0)) (.str "open")) [.ret (.tup [(.str "refused"), (.str "open")])] [], .cond (.cmp .Eq (.idx (.bor 2) (.int 0)) (.str "close")) [.sidx (.bor 3) (.int 0) (.str "closed"), .app (.bor 1) (.var 2), .ret (.tup [(.str "told"), .non])] [], .set 4 (.call "_law_end" [(.var 3)]), .cond (.not (.call "_law_number_up_to" [(.idx (.bor 2) (.int 2)), (.int 100000)])) [.ret (.tup [(.str "refused"), (.str "tick")])] [], .cond (.cmp .Gt (.idx (.bor 2) (.int 2)) (.bor 4)) [.ret (.tup [(.str "refused"), (.str "gap")])] [], .cond (.not (.call "_law_are_inputs" [(.idx (.bor 2) (.int 3))])) [.ret (.tup [(.str "refused"), (.str "inputs")])] [], .set 5 (.sli (.sli (.idx (.bor 2) (.int 3)) (.bin .Sub (.bor 4) (.idx (.bor 2) (.int 2))) .skip) .skip (.bin .Sub (.int 100000) (.bor 4))), .cond (.cmp .Gt (.blt .len [(.bor 5)]) (.int 0)) [.ext (.idx (.bor 3) (.int 2)) (.var 5), .app (.bor 1) (.tup [(.str "tell"), (.idx (.bor 2) (.int 1)), (.var 4), (.var 5)])] [], .ret (.tup [(.str "told"), (.blt .len [(.bor 5)])])]
theorem tr__law_account : eqO (trB tc__law_account 60 (defScope st__law_account) 100 (defBody st__law_account)) ir__law_account = true := by decide +kernel
theorem sc__law_account : defB tc__law_account.N ["seats", "done", "deed"] (defScope st__law_account) = true := by decide +kernel
abbrev st__law_done : Stmt := top 42
def tc__law_done : Tc := ⟨["book", "deed", "told"], [pmN "open_seat", pmN "close_seat", pmN "tell"], [], [], tb, hs, shf, false⟩
def ir__law_done : List S := [.tryS tb [.cond (.cmp .Eq (.idx (.bor 1) (.int 0)) (.str "open")) [.set 2 (.meth (.bor 0) "open_seat" [(.idx (.bor 1) (.int 1)), (.idx (.bor 1) (.int 2))])] [.cond (.cmp .Eq (.idx (.bor 1) (.int 0)) (.str "close")) [.set 2 (.meth (.bor 0) "close_seat" [(.idx (.bor 1) (.int 1))])] [.set 2 (.meth (.bor 0) "tell" [(.idx (.bor 1) (.int 1)), (.idx (.bor 1) (.int 2)), (.idx (.bor 1) (.int 3))])]]] [("NoSeat", none), ("NotWaiting", none), ("NoTick", none), ("NotOpen", none), ("Gap", none), ("NoInputs", none)] [[.ret (.tup [(.str "refused"), (.str "seat")])], [.ret (.tup [(.str "refused"), (.str "waiting")])], [.ret (.tup [(.str "refused"), (.str "tick")])], [.ret (.tup [(.str "refused"), (.str "open")])], [.ret (.tup [(.str "refused"), (.str "gap")])], [.ret (.tup [(.str "refused"), (.str "inputs")])]], .ret (.tup [(.str "told"), (.var 2)])]
theorem tr__law_done : eqO (trB tc__law_done 60 (defScope st__law_done) 100 (defBody st__law_done)) ir__law_done = true := by decide +kernel
theorem sc__law_done : defB tc__law_done.N ["book", "deed"] (defScope st__law_done) = true := by decide +kernel
abbrev st__law_inputs_told : Stmt := top 43
def tc__law_inputs_told : Tc := ⟨["book", "tick"], [pmN "inputs"], [], [], tb, hs, shf, false⟩
def ir__law_inputs_told : List S := [.tryS tb [.ret (.tup [(.str "told"), (.meth (.bor 0) "inputs" [(.var 1)])])] [("NoTick", none)] [[.ret (.tup [(.str "refused"), (.str "tick")])]]]
theorem tr__law_inputs_told : eqO (trB tc__law_inputs_told 60 (defScope st__law_inputs_told) 100 (defBody st__law_inputs_told)) ir__law_inputs_told = true := by decide +kernel
theorem sc__law_inputs_told : defB tc__law_inputs_told.N ["book", "tick"] (defScope st__law_inputs_told) = true := by decide +kernel
abbrev st__law_book_is : Stmt := top 44
def tc__law_book_is : Tc := ⟨["hand", "book", "seats", "done", "here", "at", "seat", "end", "tick", "due", ".0"], ["_law_settled", "_law_is", "_law_end", "_law_draw", "_law_told_input", "_law_inputs_told", pmN "settled", pmN "deeds", pmN "word", pmN "begin", pmN "ending", pmN "input_at"], [], ["seats", "done"], tb, hs, shf, false⟩
def ir__law_book_is : List S := [.set 4 (.call "_law_settled" [(.var 2)]), .cond (.or (.not (.call "_law_is" [(.meth (.bor 1) "settled" []), (.var 4)])) (.not (.call "_law_is" [(.meth (.bor 1) "deeds" []), (.var 3)]))) [.ret (.bl false)] [], .forS (.one 5) .rng1 [(.blt .len [(.bor 2)])] [.set 6 (.idx (.bor 2) (.bor 5)), .set 7 (.call "_law_end" [(.var 6)]), .cond (.not (.call "_law_is" [(.tup [(.meth (.bor 1) "word" [(.var 5)]), (.meth (.bor 1) "begin" [(.var 5)]), (.meth (.bor 1) "ending" [(.var 5)])]), (.tup [(.idx (.bor 6) (.int 0)), (.idx (.bor 6) (.int 1)), (.var 7)])])) [.ret (.bl false)] [], .forS (.one 8) .seq [(.lst [(.int 0), (.blt .max2 [(.int 0), (.bin .Sub (.idx (.bor 6) (.int 1)) (.int 1))]), (.idx (.bor 6) (.int 1)), (.blt .max2 [(.int 0), (.bin .Sub (.bor 7) (.int 1))]), (.var 7), (.call "_law_draw" [(.var 0), (.int 100001)])])] [.set 8 (.blt .min2 [(.bor 8), (.int 100000)]), .cond (.not (.call "_law_is" [(.meth (.bor 1) "input_at" [(.var 5), (.var 8)]), (.call "_law_told_input" [(.var 6), (.var 8)])])) [.ret (.bl false)] []]], .forS (.one 8) .seq [(.lst [(.int 0), (.bin .Sub (.bor 4) (.int 1)), (.call "_law_draw" [(.var 0), (.bin .Add (.bor 4) (.int 1))]), (.var 4)])] [.set 9 (.tup [(.str "refused"), (.str "tick")]), .cond (.chain .LtE .Lt (.int 0) (.bor 8) (.bor 4)) [.set 9 (.tup [(.str "told"), (.blt .tuple [(.lc (.call "_law_told_input" [(.var 6), (.var 8)]) (.one 6) [10, 6] .seqS [(.var 2)] [])])])] [], .cond (.not (.call "_law_is" [(.call "_law_inputs_told" [(.var 1), (.var 8)]), (.var 9)])) [.ret (.bl false)] []], .ret (.bl true)]
theorem tr__law_book_is : eqO (trB tc__law_book_is 60 (defScope st__law_book_is) 100 (defBody st__law_book_is)) ir__law_book_is = true := by decide +kernel
theorem sc__law_book_is : defB tc__law_book_is.N ["hand", "book", "seats", "done"] (defScope st__law_book_is) = true := by decide +kernel
abbrev st_law : Stmt := top 45
def tc_law : Tc := ⟨["script", "hand", "players", "many", "book", "seats", "done", "turn", "deed", "due", "spoilt", ".0", "seat"], ["_law_hand", "_law_draw", "_law_book_is", "_law_book_deed", "_law_account", "_law_is", "_law_done", pmN "deeds", pcN "Book"], ["spoilt"], ["hand", "seats", "done"], tb, hs, shf, true⟩
def ir_law : List S := [.setS 1 (.call "_law_hand" [(.var 0)]), .set 2 (.bin .Add (.int 1) (.call "_law_draw" [(.var 1), (.int 4)])), .set 3 (.bin .Add (.int 1) (.call "_law_draw" [(.var 1), (.int 60)])), .set 4 (.mk "Book" [(.var 2)]), .setS 5 (.lc (.shr (.lst [(.str "waiting"), (.int 0), (.shr (.lst []))])) (.one 12) [11, 12] .rng1 [(.var 2)] []), .setS 6 (.lst []), .cond (.not (.call "_law_book_is" [(.var 1), (.var 4), (.var 5), (.var 6)])) [.ret (.bl false)] [], .forS (.one 7) .rng1 [(.var 3)] [.set 8 (.call "_law_book_deed" [(.var 1), (.var 5)]), .set 9 (.call "_law_account" [(.var 5), (.var 6), (.var 8)]), .cond (.or (.not (.call "_law_is" [(.call "_law_done" [(.var 4), (.var 8)]), (.var 9)])) (.not (.call "_law_book_is" [(.var 1), (.var 4), (.var 5), (.var 6)]))) [.ret (.bl false)] [], .cond (.cmp .Eq (.bin .Mod (.bor 7) (.int 8)) (.int 3)) [.setO 10 (.meth (.bor 4) "deeds" []), .app (.bor 10) (.tup [(.str "close"), (.int 0)]), .sidx (.bor 10) (.int 0) .non] []], .ret (.call "_law_book_is" [(.var 1), (.var 4), (.var 5), (.var 6)])]
theorem tr_law : eqO (trB tc_law 60 (defScope st_law) 100 (defBody st_law)) ir_law = true := by decide +kernel
theorem sc_law : defB tc_law.N ["script"] (defScope st_law) = true := by decide +kernel
theorem mN_Book___init__ : mN "Book" "__init__" = "Book.__init__" := by decide +kernel
theorem mN_Book_check_seat : mN "Book" "check_seat" = "Book.check_seat" := by decide +kernel
theorem mN_Book_check_open : mN "Book" "check_open" = "Book.check_open" := by decide +kernel
theorem mN_Book_word : mN "Book" "word" = "Book.word" := by decide +kernel
theorem mN_Book_begin : mN "Book" "begin" = "Book.begin" := by decide +kernel
theorem mN_Book_end_of : mN "Book" "end_of" = "Book.end_of" := by decide +kernel
theorem mN_Book_ending : mN "Book" "ending" = "Book.ending" := by decide +kernel
theorem mN_Book_settled : mN "Book" "settled" = "Book.settled" := by decide +kernel
theorem mN_Book_open_seat : mN "Book" "open_seat" = "Book.open_seat" := by decide +kernel
theorem mN_Book_tell : mN "Book" "tell" = "Book.tell" := by decide +kernel
theorem mN_Book_close_seat : mN "Book" "close_seat" = "Book.close_seat" := by decide +kernel
theorem mN_Book_input_of : mN "Book" "input_of" = "Book.input_of" := by decide +kernel
theorem mN_Book_input_at : mN "Book" "input_at" = "Book.input_at" := by decide +kernel
theorem mN_Book_inputs_at : mN "Book" "inputs_at" = "Book.inputs_at" := by decide +kernel
theorem mN_Book_inputs : mN "Book" "inputs" = "Book.inputs" := by decide +kernel
theorem mN_Book_stretch : mN "Book" "stretch" = "Book.stretch" := by decide +kernel
theorem mN_Book_deeds : mN "Book" "deeds" = "Book.deeds" := by decide +kernel
theorem mN_Book_copy : mN "Book" "copy" = "Book.copy" := by decide +kernel
theorem mN_Book_is_next : mN "Book" "is_next" = "Book.is_next" := by decide +kernel
theorem mN_Book_do : mN "Book" "do" = "Book.do" := by decide +kernel
local macro_rules | `(tactic| walk_at "mn") => `(tactic| first
  | (with_reducible exact mN_Book___init__)
  | (with_reducible exact mN_Book_check_seat)
  | (with_reducible exact mN_Book_check_open)
  | (with_reducible exact mN_Book_word)
  | (with_reducible exact mN_Book_begin)
  | (with_reducible exact mN_Book_end_of)
  | (with_reducible exact mN_Book_ending)
  | (with_reducible exact mN_Book_settled)
  | (with_reducible exact mN_Book_open_seat)
  | (with_reducible exact mN_Book_tell)
  | (with_reducible exact mN_Book_close_seat)
  | (with_reducible exact mN_Book_input_of)
  | (with_reducible exact mN_Book_input_at)
  | (with_reducible exact mN_Book_inputs_at)
  | (with_reducible exact mN_Book_inputs)
  | (with_reducible exact mN_Book_stretch)
  | (with_reducible exact mN_Book_deeds)
  | (with_reducible exact mN_Book_copy)
  | (with_reducible exact mN_Book_is_next)
  | (with_reducible exact mN_Book_do))
end L_k27

set_option autoImplicit true
namespace L_k27
open PySem PySem.Spec PyProof.Rows L2 R
local macro_rules | `(tactic| walk_at "r1") => `(tactic| first
  | ((with_reducible refine' b_cons ?h1 ?_); (case h1 => first | (simp only [List.set_cons_succ, List.set_cons_zero]; done) | (simp only [List.set_cons_succ, List.set_cons_zero]; rfl) | rfl))
  | ((with_reducible refine' g_E ?_); first
    | ((with_reducible refine' e_var ?h1 ?_); (case h1 => first | rfl | trivial | assumption | decide))
    | (with_reducible refine' e_int ?_)
    | (with_reducible refine' e_bin ?_)
    | (with_reducible refine' e_call ?_)
    | (with_reducible refine' e_idx ?_)
    | (with_reducible refine' e_blt ?_)
    | (with_reducible refine' e_cmp ?_)
    | (with_reducible refine' e_sli ?_)
    | (with_reducible refine' e_skip ?_)
    | (with_reducible refine' e_tup ?_)
    | (with_reducible refine' e_lst ?_)
    | (with_reducible refine' e_dct ?_)
    | (with_reducible refine' e_bl ?_)
    | (with_reducible refine' e_non ?_)
    | (with_reducible refine' e_str ?_)
    | ((with_reducible refine' e_glo ?h1 ?_); (case h1 => first | rfl | trivial | assumption | decide))
    | ((with_reducible refine' e_fld1 ?h1 ?_); (case h1 => first | rfl | trivial | assumption | decide))
    | (with_reducible refine' e_and ?_)
    | (with_reducible refine' e_or ?_)
    | (with_reducible refine' e_not ?_)
    | (with_reducible refine' e_ite ?_)
    | (with_reducible refine' e_isi ?_)
    | (with_reducible refine' e_neg ?_)
    | (with_reducible refine' e_chain ?_)
    | (with_reducible refine' e_fld ?_)
    | (with_reducible refine' e_meth ?_)
    | (with_reducible refine' e_shr ?_)
    | ((with_reducible refine' e_lc ?h1 ?_); (case h1 => first | rfl | trivial | assumption | decide))
    | (with_reducible refine' e_lcS ?_)
    | ((with_reducible refine' e_mk ?h1 ?_); (case h1 => walk_at "mn"))
    | ((with_reducible refine' e_varO ?h1 ?_); (case h1 => first | rfl | trivial | assumption | decide)))
  | ((with_reducible refine' g_O ?_); first
    | ((with_reducible refine' o_bor ?h1 ?h2 ?_); (case h1 => first | rfl | trivial | assumption | decide); (case h2 => first | rfl | trivial | assumption | decide))
    | ((with_reducible refine' o_val ?h1 ?_); (case h1 => first | rfl | trivial | assumption | decide)))
  | ((with_reducible refine' g_Ex ?_); first
    | ((with_reducible refine' ⟨_, _, ?h1, ?h2, ?_⟩); (case h1 => first | rfl | ((with_reducible refine' ld_ref ?g1 ?g2); (case g1 => rfl); (case g2 => assumption)) | ((with_reducible refine' ld_refD ?g2); (case g2 => assumption)) | ((with_reducible refine' ld_nr ?g1); (case g1 => assumption)) | ((with_reducible refine' ld_nrS ?g1 ?g2); (case g1 => rfl); (case g2 => assumption))); (case h2 => first | rfl | ((with_reducible refine' ld_ref ?g3 ?g4); (case g3 => rfl); (case g4 => assumption)) | ((with_reducible refine' ld_refD ?g4); (case g4 => assumption)) | ((with_reducible refine' ld_nr ?g3); (case g3 => assumption)) | ((with_reducible refine' ld_nrS ?g3 ?g4); (case g3 => rfl); (case g4 => assumption))))
    | ((with_reducible refine' ex_r1 ?h1 ?h2 ?_); (case h1 => omega); (case h2 => omega))
    | ((with_reducible refine' ex_r2 ?h1 ?h2 ?h3 ?h4 ?_); (case h1 => omega); (case h2 => omega); (case h3 => omega); (case h4 => omega))
    | ((with_reducible refine' ex_r3 ?h1 ?h2 ?h3 ?h4 ?_); (case h1 => omega); (case h2 => omega); (case h3 => omega); (case h4 => omega))
    | ((with_reducible refine' ⟨_, ?h1, ?_⟩); (case h1 => (fail_if_success (with_reducible show itemsD .rng1 _ = _)); (fail_if_success (with_reducible show itemsD .rng2 _ = _)); (fail_if_success (with_reducible show itemsD .rng3 _ = _)); rfl)))
  | ((with_reducible refine' g_Bin ?_); first
    | (with_reducible refine' b_add ?_)
    | (with_reducible refine' b_sub ?_)
    | ((with_reducible refine' b_mod ?h1 ?_); (first | (case h1 => (first | omega | decide)) | rotate_left))
    | ((with_reducible refine' b_mul ?h1 ?_); (first | (case h1 => (first | exact mul_l (by omega) (by omega) | exact mul_r (by omega) (by omega))) | rotate_left))
    | ((with_reducible refine' b_div ?h1 ?_); (first | (case h1 => (first | exact div_ok (by omega) (by omega))) | rotate_left))
    | ((with_reducible refine' b_mulS ?h1 ?_); (first | (case h1 => (first | decide)) | rotate_left))
    | ((with_reducible refine' b_addT ?h1 ?_); (first | (case h1 => (first | omega)) | rotate_left))
    | ((with_reducible refine' b_addL ?h1 ?_); (first | (case h1 => (first | omega)) | rotate_left))
    | ((with_reducible refine' b_mulT ?h1 ?h2 ?h3 ?_); (first | (case h1 => (first | omega)) | rotate_left); (first | (case h2 => (first | omega)) | rotate_left); (first | (case h3 => (first | omega)) | rotate_left))
    | ((with_reducible refine' b_mulL ?h1 ?_); (first | (case h1 => (first | exact ⟨by omega, by omega, by simp; omega⟩)) | rotate_left))
    | ((with_reducible refine' b_pow ?h1 ?_); (first | (case h1 => (first | exact ⟨by omega, by omega, by decide⟩)) | rotate_left))
    | ((with_reducible refine' b_addS ?h1 ?_); (first | (case h1 => (first | omega)) | rotate_left)))
  | ((with_reducible refine' g_Cmp ?_); first
    | (with_reducible refine' c_eqI ?_)
    | (with_reducible refine' c_lt ?_)
    | (with_reducible refine' c_le ?_)
    | (with_reducible refine' c_gt ?_)
    | (with_reducible refine' c_ge ?_)
    | (with_reducible refine' c_neI ?_)
    | (with_reducible refine' c_isN ?_)
    | (with_reducible refine' c_isNotN ?_)
    | (with_reducible refine' c_isB ?_)
    | (with_reducible refine' c_isNotB ?_)
    | ((with_reducible refine' c_eqBt ?h1 ?_); (case h1 => first | rfl | trivial | assumption | decide))
    | ((with_reducible refine' c_eqBf ?h1 ?_); (case h1 => first | rfl | trivial | assumption | decide))
    | ((with_reducible refine' c_neBt ?h1 ?_); (case h1 => first | rfl | trivial | assumption | decide))
    | ((with_reducible refine' c_neBf ?h1 ?_); (case h1 => first | rfl | trivial | assumption | decide))
    | ((with_reducible refine' c_eq ?h1 ?h2 ?_); (first | (case h1 => (first | rfl | exact okD_tupI | exact okD_lstI | (walk_at "ok1"))) | rotate_left); (first | (case h2 => (first | rfl | exact okD_tupI | exact okD_lstI | (walk_at "ok1"))) | rotate_left))
    | ((with_reducible refine' c_ne ?h1 ?h2 ?_); (first | (case h1 => (first | rfl | exact okD_tupI | exact okD_lstI | (walk_at "ok1"))) | rotate_left); (first | (case h2 => (first | rfl | exact okD_tupI | exact okD_lstI | (walk_at "ok1"))) | rotate_left)))
  | ((with_reducible refine' fld_go ?h1 ?h2 ?h3 ?_); (case h1 => rfl); (case h2 => first | assumption | (walk_at "vh")); (case h3 => rfl))
  | ((with_reducible refine' mth_go ?h1 ?h2 ?h3 ?h4 ?h5 ?_); (case h1 => rfl); (case h2 => first | assumption | (walk_at "vh")); (case h3 => walk_at "mn"); (case h4 => first | rfl | decide); (case h5 => exact True.intro))
  | ((with_reducible refine' put_go ?h1 ?h2 ?h3 ?_); (case h1 => rfl); (case h2 => first | assumption | (walk_at "vh")); (case h3 => first | exact Nat.le_of_ble_eq_true rfl | decide))
  | ((with_reducible refine' aug_go ?h1 ?h2 ?h3 ?_); (case h1 => rfl); (case h2 => first | assumption | (walk_at "vh")); (case h3 => rfl))
  | ((with_reducible refine' augp_go ?h2 ?h3 ?_); (case h2 => first | assumption | (walk_at "vh")); (case h3 => first | exact Nat.le_of_ble_eq_true rfl | decide))
  | ((with_reducible refine' ex_S ?h1 ?_); (case h1 => assumption))
  | ((with_reducible refine' ex_ld1 ?h1 ?_); (case h1 => assumption))
  | ((with_reducible refine' ex_ld1s ?h1 ?h2 ?_); (case h1 => rfl); (case h2 => assumption))
  | ((with_reducible refine' g_L ?_); first
    | (with_reducible refine' l_cons ?_)
    | (with_reducible refine' l_nil ?_))
  | ((with_reducible refine' g_Os ?_); first
    | (with_reducible refine' os_cons ?_)
    | (with_reducible refine' os_nil ?_))
  | ((with_reducible refine' g_Blt ?_); first
    | (with_reducible refine' f_int ?_)
    | (with_reducible refine' f_lenT ?_)
    | (with_reducible refine' f_lenL ?_)
    | (with_reducible refine' f_lenC ?_)
    | (with_reducible refine' f_tupL ?_)
    | (with_reducible refine' f_tupT ?_)
    | (with_reducible refine' f_lstL ?_)
    | (with_reducible refine' f_lstT ?_)
    | (with_reducible refine' f_lstC ?_)
    | (with_reducible refine' f_abs ?_)
    | (with_reducible refine' f_min ?_)
    | (with_reducible refine' f_max ?_)
    | (with_reducible refine' f_sumC ?_)
    | (with_reducible refine' f_intB ?_)
    | ((with_reducible refine' f_lenS ?h1 ?_); (first | (case h1 => (first | omega)) | rotate_left))
    | ((with_reducible refine' f_strI ?h1 ?_); (first | (case h1 => (first | exact log_ok (by omega) (by omega))) | rotate_left))
    | ((with_reducible refine' f_intS ?h1 ?h2 ?_); (first | (case h1 => (first | assumption)) | rotate_left); (first | (case h2 => (first | decide)) | rotate_left)))
  | ((with_reducible refine' g_S ?_); first
    | (with_reducible refine' s_set ?_)
    | (with_reducible refine' s_ret ?_)
    | (with_reducible refine' s_cond ?_)
    | (with_reducible refine' s_sidx ?_)
    | (with_reducible refine' s_expr ?_)
    | (with_reducible refine' s_par ?_)
    | (with_reducible refine' s_setS ?_)
    | (with_reducible refine' s_setO ?_)
    | (with_reducible refine' s_fset ?_)
    | (with_reducible refine' s_faug ?_)
    | (with_reducible refine' s_app ?_)
    | (with_reducible refine' s_ext ?_)
    | (with_reducible refine' s_retN ?_)
    | (with_reducible refine' s_unp ?_)
    | (with_reducible refine' s_pass ?_)
    | (with_reducible refine' s_brk ?_)
    | (with_reducible refine' s_cont ?_)
    | (with_reducible refine' s_try ?_)
    | (with_reducible refine' s_raise ?_)
    | ((with_reducible refine' s_for ?h1 ?_); (case h1 => first | rfl | trivial | assumption | decide))
    | (with_reducible refine' s_forS ?_)
    | ((with_reducible refine' s_retO ?h1 ?_); (case h1 => first | rfl | trivial | assumption | decide))
    | ((with_reducible refine' s_aug ?h1 ?_); (case h1 => first | rfl | trivial | assumption | decide)))
  | (with_reducible refine' b_nil ?_)
  | ((with_reducible refine' g_T ?_); first
    | ((with_reducible refine' t_bor ?h1 ?h2 ?_); (case h1 => first | rfl | trivial | assumption | decide); (case h2 => first | rfl | trivial | assumption | decide))
    | (with_reducible refine' e_cmp ?_)
    | (with_reducible refine' e_andT ?_)
    | (with_reducible refine' e_orT ?_)
    | (with_reducible refine' e_notT ?_)
    | (with_reducible refine' e_ite ?_)
    | (with_reducible refine' e_chain ?_)
    | ((with_reducible refine' t_fin ?h1 ?_); (case h1 => first | rfl | trivial | assumption | decide)))
  | ((with_reducible refine' i_tup ?h1 ?_); (case h1 => rfl))
  | ((with_reducible refine' i_lst ?h1 ?_); (case h1 => rfl))
  | (with_reducible refine' p_isN ?_)
  | (with_reducible refine' p_nisN ?_)
  | ((with_reducible refine' p_isN0 ?h1 ?_); (case h1 => first | rfl | trivial | assumption | decide))
  | ((with_reducible refine' p_nisN0 ?h1 ?_); (case h1 => first | rfl | trivial | assumption | decide))
  | (with_reducible refine' aug_add ?_)
  | (with_reducible refine' aug_sub ?_)
  | (with_reducible refine' fg_cons ?_)
  | (with_reducible refine' fg_nil ?_)
  | (with_reducible refine' lcg_cons ?_)
  | (with_reducible refine' lcg_nil ?_)
  | (with_reducible refine' p_nt ?_)
  | (with_reducible refine' p_nf ?_)
  | (with_reducible refine' p_true ?_)
  | (with_reducible refine' p_false ?_)
  | (with_reducible refine' u_tup ?_)
  | (with_reducible refine' u_lst ?_)
  | (with_reducible refine' u_scr ?_)
  | (with_reducible refine' ts_nil ?_)
  | (with_reducible refine' ts_one ?_)
  | ((with_reducible refine' isi_t ?h1 ?h2 ?_); (case h1 => first | rfl | trivial | assumption | decide); (case h2 => first | rfl | trivial | assumption | decide))
  | ((with_reducible refine' isi_f ?h1 ?h2 ?_); (case h1 => first | rfl | trivial | assumption | decide); (case h2 => first | rfl | trivial | assumption | decide))
  | ((with_reducible refine' And.intro ?h1 ?_); (case h1 => first | rfl | exact Nat.le_of_ble_eq_true rfl | trivial | exact ⟨rfl, by decide, by decide⟩ | exact fun _ _ => rfl))
  | ((with_reducible refine' w_set ?h1 ?h2 ?h3 ?_); (case h1 => rfl); (case h2 => assumption); (case h3 => rfl))
  | (with_reducible refine' g_P ?_; first | (change ifP true _ _; refine p_true ?_) | (change ifP false _ _; refine p_false ?_))
  | ((with_reducible refine' x_hit ?h1 ?_); (case h1 => first | rfl | (walk_at "tb1")))
  | ((with_reducible refine' h_yes ?h1 ?_); (case h1 => rfl); intro aE)
  | ((with_reducible refine' h_no ?h1 ?_); (case h1 => rfl))
  | (with_reducible refine' h_nil ?_)
  | ((with_reducible refine' And.intro ?h1 ?_); (case h1 => exact stl_1 rfl))
  | walk_at "call1")
local macro_rules | `(tactic| walk_at "r") => `(tactic| repeat (walk_at "r1"))
local macro_rules | `(tactic| walk_at "mn") => `(tactic| first
  | (with_reducible exact mN_Book___init__)
  | (with_reducible exact mN_Book_check_seat)
  | (with_reducible exact mN_Book_check_open)
  | (with_reducible exact mN_Book_word)
  | (with_reducible exact mN_Book_begin)
  | (with_reducible exact mN_Book_end_of)
  | (with_reducible exact mN_Book_ending)
  | (with_reducible exact mN_Book_settled)
  | (with_reducible exact mN_Book_open_seat)
  | (with_reducible exact mN_Book_tell)
  | (with_reducible exact mN_Book_close_seat)
  | (with_reducible exact mN_Book_input_of)
  | (with_reducible exact mN_Book_input_at)
  | (with_reducible exact mN_Book_inputs_at)
  | (with_reducible exact mN_Book_inputs)
  | (with_reducible exact mN_Book_stretch)
  | (with_reducible exact mN_Book_deeds)
  | (with_reducible exact mN_Book_copy)
  | (with_reducible exact mN_Book_is_next)
  | (with_reducible exact mN_Book_do))
/-! ### what is said -/
inductive W where
  | wt | op | cl
  deriving DecidableEq
@[reducible] def W.s : W → Str
  | .wt => "waiting"
  | .op => "open"
  | .cl => "closed"
structure Seat where
  w : W
  b : Nat
  t : List Int
def Seat.e (s : Seat) : Nat := s.b + s.t.length
def Byt (bs : List Int) : Prop := ∀ b, b ∈ bs → 0 ≤ b ∧ b < 256
@[reducible] def tupI (bs : List Int) : D := .tup (bs.map D.int)
def isI : D → Bool
  | .int _ => true
  | _ => false
def wIn (d : D) (l m : Int) : Bool := match d with
  | .int i => decide (l ≤ i ∧ i ≤ m)
  | _ => false
def Ty (d : D) : Prop := ∃ n, tyD d = some n
def byteD (d : D) : Bool := wIn d 0 255
def rowD (d : D) : Bool := match d with
  | .tup xs => xs.all byteD
  | _ => false
/-- a thing in the place of inputs -/
def Th (d : D) : Prop := Ty d ∧ ∀ xs, d = .tup xs → xs.length ≤ 400 ∧ ∀ x, x ∈ xs → Ty x
def isHand (o : VO) : Prop := ∃ (cs : List Int) (a b c d : Int), o = .lst [.lst (cs.map D.int), .int a, .int b, .int c, .int d] ∧ 0 ≤ a
def Seat.Ok (s : Seat) : Prop := (s.w = .wt → s.b = 0 ∧ s.t = []) ∧ s.e ≤ 100000 ∧ Byt s.t
def Good (ss : List Seat) : Prop := 1 ≤ ss.length ∧ ss.length ≤ 4 ∧ ∀ s, s ∈ ss → s.Ok
/-! ### up to which tick all is told -/
def opn (ss : List Seat) : List Nat := (ss.filter fun s => decide (s.w = .op)).map Seat.e
def stt (ss : List Seat) : Nat := match (opn ss).min? with
  | some m => m
  | none => ((ss.map Seat.e).max?).getD 0
theorem stt_open {ss : List Seat} {m : Nat} (h : m ∈ opn ss) (h2 : ∀ y, y ∈ opn ss → m ≤ y) : stt ss = m := by
  unfold stt
  have e : (opn ss).min? = some m := List.min?_eq_some_iff.mpr ⟨h, h2⟩
  rw [e]
theorem stt_none {ss : List Seat} {m : Nat} (h0 : opn ss = []) (h : m ∈ ss.map Seat.e) (h2 : ∀ y, y ∈ ss.map Seat.e → y ≤ m) : stt ss = m := by
  unfold stt
  have e : (opn ss).min? = none := by rw [h0]; rfl
  have e2 : (ss.map Seat.e).max? = some m := List.max?_eq_some_iff.mpr ⟨h, h2⟩
  rw [e, e2]
  rfl
theorem stt_le {ss : List Seat} (g : Good ss) : stt ss ≤ 100000 := by
  have hm : ∀ y, y ∈ ss.map Seat.e → y ≤ 100000 := fun y hy => by
    obtain ⟨s, hs, rfl⟩ := List.mem_map.mp hy
    exact (g.2.2 s hs).2.1
  have ho : ∀ y, y ∈ opn ss → y ≤ 100000 := fun y hy => by
    obtain ⟨s, hs, rfl⟩ := List.mem_map.mp hy
    exact (g.2.2 s (List.mem_filter.mp hs).1).2.1
  unfold stt
  split
  · rename_i m e
    exact ho m (List.min?_eq_some_iff.mp e).1
  · cases e : (ss.map Seat.e).max? with
    | none => exact Nat.zero_le _
    | some m => exact hm m (List.max?_eq_some_iff.mp e).1
/-! ### what is told of a tick -/
def inp (s : Seat) (k : Int) : D := if s.w = .wt ∨ k < s.b then .int 0 else if k < s.e then .int (s.t[(k - s.b).toNat]?.getD 0) else if s.w = .cl then .int 0 else .non
/-! ### deeds -/
inductive Dd where
  | op (s t : D) | cl (s : D) | te (s t i : D)
@[reducible] def Dd.d : Dd → D
  | .op s t => .tup [.str "open", s, t]
  | .cl s => .tup [.str "close", s]
  | .te s t i => .tup [.str "tell", s, t, i]
def Dd.Ok : Dd → Prop
  | .op s t => Ty s ∧ Ty t
  | .cl s => Ty s
  | .te s t i => Ty s ∧ Ty t ∧ Th i
inductive Rs where
  | told (d : D) | ref (w : Str)
@[reducible] def Rs.d : Rs → D
  | .told d => .tup [.str "told", d]
  | .ref w => .tup [.str "refused", .str w]
def seatAt (ss : List Seat) (d : D) : Option (Nat × Seat) := match d with
  | .int i => if 0 ≤ i then (ss[i.toNat]?).map fun s => (i.toNat, s) else none
  | _ => none
def intsD : D → List Int
  | .tup xs => xs.map fun d => match d with
    | .int i => i
    | _ => 0
  | _ => []
/-- the seats and what is done, behind a deed -/
def step (ss : List Seat) (done : List D) : Dd → List Seat × List D × Rs
  | .op s t => match seatAt ss s with
    | none => (ss, done, .ref "seat")
    | some (k, se) => if se.w ≠ .wt then (ss, done, .ref "waiting") else if wIn t (stt ss) 100000 = false then (ss, done, .ref "tick") else (match t with
      | .int i => (ss.set k ⟨.op, i.toNat, se.t⟩, done ++ [.tup [.str "open", s, t]], .told .non)
      | _ => (ss, done, .ref "tick"))
  | .cl s => match seatAt ss s with
    | none => (ss, done, .ref "seat")
    | some (k, se) => if se.w ≠ .op then (ss, done, .ref "open") else (ss.set k ⟨.cl, se.b, se.t⟩, done ++ [.tup [.str "close", s]], .told .non)
  | .te s t i => match seatAt ss s with
    | none => (ss, done, .ref "seat")
    | some (k, se) => if se.w ≠ .op then (ss, done, .ref "open") else if wIn t 0 100000 = false then (ss, done, .ref "tick") else (match t with
      | .int j => if (se.e : Int) < j then (ss, done, .ref "gap") else if rowD i = false then (ss, done, .ref "inputs") else
        (if ((intsD i).drop (se.e - j.toNat)).take (100000 - se.e) = [] then (ss, done, .told (.int 0)) else
          (ss.set k ⟨.op, se.b, se.t ++ ((intsD i).drop (se.e - j.toNat)).take (100000 - se.e)⟩, done ++ [.tup [.str "tell", s, .int se.e, tupI (((intsD i).drop (se.e - j.toNat)).take (100000 - se.e))]], .told (.int (((intsD i).drop (se.e - j.toNat)).take (100000 - se.e)).length)))
      | _ => (ss, done, .ref "tick"))
/-! ### where it stands -/
structure BR where
  n : Nat
  rw : Nat
  rb : Nat
  rt : Nat
  rd : Nat
  rs : List Nat
def BR.all (r : BR) : List Nat := r.n :: r.rw :: r.rb :: r.rt :: r.rd :: r.rs
@[reducible] def FB : List Str := ["players", "words", "begins", "told", "done"]
structure IsBk (r : BR) (ss : List Seat) (done : List D) (vh : VH) : Prop where
  bk : vh[r.n]? = some (.ins "Book" FB [.int ss.length, .ref r.rw, .ref r.rb, .ref r.rt, .ref r.rd])
  ws : vh[r.rw]? = some (.lst (ss.map fun s => .str s.w.s))
  bs : vh[r.rb]? = some (.lst (ss.map fun s => .int s.b))
  rt : vh[r.rt]? = some (.lst (r.rs.map .ref))
  dn : vh[r.rd]? = some (.lst done)
  ln : r.rs.length = ss.length
  ts : ∀ (i q : Nat) (s : Seat), r.rs[i]? = some q → ss[i]? = some s → vh[q]? = some (.lst (s.t.map .int))
  nd : r.all.Nodup
structure SR where
  m : Nat
  md : Nat
  qs : List Nat
  ts : List Nat
def SR.all (a : SR) : List Nat := a.m :: a.md :: (a.qs ++ a.ts)
/-- a seat of the own account -/
def SeatS (q t : Nat) (s : Seat) (vh : VH) : Prop := vh[q]? = some (.lst [.str s.w.s, .int s.b, .ref t]) ∧ vh[t]? = some (.lst (s.t.map .int))
structure IsSt (a : SR) (ss : List Seat) (done : List D) (vh : VH) : Prop where
  mm : vh[a.m]? = some (.lst (a.qs.map .ref))
  dn : vh[a.md]? = some (.lst done)
  lq : a.qs.length = ss.length
  lt : a.ts.length = ss.length
  st : ∀ (i q t : Nat) (s : Seat), a.qs[i]? = some q → a.ts[i]? = some t → ss[i]? = some s → SeatS q t s vh
  nd : a.all.Nodup
def Hd (n : Nat) (vh : VH) : Prop := ∃ o, vh[n]? = some o ∧ isHand o
/-- all is as it was but some -/
def FxS (F : List Nat) (vh vh' : VH) : Prop := vh'.length = vh.length ∧ ∀ j, j ∉ F → vh'[j]? = vh[j]?
theorem FxS.refl {F : List Nat} {vh : VH} : FxS F vh vh := ⟨rfl, fun _ _ => rfl⟩
theorem FxS.trans {F : List Nat} {a b c : VH} (h1 : FxS F a b) (h2 : FxS F b c) : FxS F a c := ⟨h2.1.trans h1.1, fun j e => (h2.2 j e).trans (h1.2 j e)⟩
theorem FxS.of {F : List Nat} {n : Nat} {a b : VH} (h : Fx n a b) (hn : n ∈ F) : FxS F a b := ⟨h.1, fun j e => h.2 j fun z => e (by rw [z]; exact hn)⟩
theorem IsBk.move {r : BR} {ss : List Seat} {done : List D} {vh vh' : VH} (h : IsBk r ss done vh) (e : ∀ j, j ∈ r.all → vh'[j]? = vh[j]?) : IsBk r ss done vh' where
  bk := (e _ (by simp [BR.all])).trans h.bk
  ws := (e _ (by simp [BR.all])).trans h.ws
  bs := (e _ (by simp [BR.all])).trans h.bs
  rt := (e _ (by simp [BR.all])).trans h.rt
  dn := (e _ (by simp [BR.all])).trans h.dn
  ln := h.ln
  ts := fun i q s h1 h2 => (e q (by
    have := List.mem_of_getElem? h1
    simp [BR.all, this])).trans (h.ts i q s h1 h2)
  nd := h.nd
theorem IsSt.move {a : SR} {ss : List Seat} {done : List D} {vh vh' : VH} (h : IsSt a ss done vh) (e : ∀ j, j ∈ a.all → vh'[j]? = vh[j]?) : IsSt a ss done vh' where
  mm := (e _ (by simp [SR.all])).trans h.mm
  dn := (e _ (by simp [SR.all])).trans h.dn
  lq := h.lq
  lt := h.lt
  st := fun i q t s h1 h2 h3 => by
    have m1 := List.mem_of_getElem? h1
    have m2 := List.mem_of_getElem? h2
    obtain ⟨g1, g2⟩ := h.st i q t s h1 h2 h3
    exact ⟨(e q (by simp [SR.all, m1])).trans g1, (e t (by simp [SR.all, m2])).trans g2⟩
  nd := h.nd
theorem Hd.move {n : Nat} {vh vh' : VH} (h : Hd n vh) (e : vh'[n]? = vh[n]?) : Hd n vh' := by
  obtain ⟨o, h1, h2⟩ := h
  exact ⟨o, e.trans h1, h2⟩
theorem IsBk.off {r : BR} {ss : List Seat} {done : List D} {vh vh' : VH} {F : List Nat} (h : IsBk r ss done vh) (f : FxS F vh vh') (d : ∀ j, j ∈ r.all → j ∉ F) : IsBk r ss done vh' := h.move fun j hj => f.2 j (d j hj)
theorem IsSt.off {r : SR} {ss : List Seat} {done : List D} {vh vh' : VH} {F : List Nat} (h : IsSt r ss done vh) (f : FxS F vh vh') (d : ∀ j, j ∈ r.all → j ∉ F) : IsSt r ss done vh' := h.move fun j hj => f.2 j (d j hj)
theorem Hd.off {n : Nat} {vh vh' : VH} {F : List Nat} (h : Hd n vh) (f : FxS F vh vh') (d : n ∉ F) : Hd n vh' := h.move (f.2 n d)
/-! ### promises of more than one ending -/
def specO {A : Type} (args : A → List D) (pre : A → VH → Prop) (post : A → VH → Out → VH → Prop) : VSp :=
  ⟨fun ds vh R => ∃ a, ds = args a ∧ pre a vh ∧ ∀ o vh', post a vh o vh' → R o vh', fun ds vh R R' f ⟨a, e, p, q⟩ => ⟨a, e, p, fun x vh' h => f _ _ (q x vh' h)⟩, True⟩
theorem sat_specO {A : Type} {Φ : Fns} {Γ : Cns} {irs : List S} {N ps : List Str} {args : A → List D} {pre : A → VH → Prop} {post : A → VH → Out → VH → Prop} (hl : ∀ a, (args a).length = ps.length)
    (h : ∀ a vh (R : Out → VH → Prop), pre a vh → (∀ x vh', post a vh x vh' → R x vh') → wpB Φ Γ irs (fun c xs _ vh => R (.exc c xs) vh) ⟨fun _ vh => R (.ok (.v .non)) vh, fun x vh => R (.ok x) vh, fun _ _ => False, fun _ _ => False⟩ (startE N (args a)) vh) : Sat Φ Γ irs N ps (specO args pre post) := by
  rintro ds vh R ⟨a, rfl, p, q⟩
  exact ⟨hl a, h a vh R p q⟩
theorem call_specO {A : Type} {args : A → List D} {pre : A → VH → Prop} {post : A → VH → Out → VH → Prop} {vh : VH} {k : DV → VH → Prop} {kx : Str → List D → VH → Prop} {ds : List D} (a : A) (e : ds = args a) (p : pre a vh) (q : ∀ o vh', post a vh o vh' → callK k kx o vh') : (specO args pre post).run ds vh (callK k kx) := ⟨a, e, p, q⟩
/-- of a def that changes nothing -/
def specV {A : Type} (args : A → List D) (pre : A → VH → Prop) (out : A → Out) : VSp :=
  ⟨fun ds vh R => ∃ a, ds = args a ∧ pre a vh ∧ R (out a) vh, fun ds vh R R' f ⟨a, e, p, q⟩ => ⟨a, e, p, f _ _ q⟩, True⟩
theorem sat_specV {A : Type} {Φ : Fns} {Γ : Cns} {irs : List S} {N ps : List Str} {args : A → List D} {pre : A → VH → Prop} {out : A → Out} (hl : ∀ a, (args a).length = ps.length)
    (h : ∀ a vh (R : Out → VH → Prop), pre a vh → R (out a) vh → wpB Φ Γ irs (fun c xs _ vh => R (.exc c xs) vh) ⟨fun _ vh => R (.ok (.v .non)) vh, fun x vh => R (.ok x) vh, fun _ _ => False, fun _ _ => False⟩ (startE N (args a)) vh) : Sat Φ Γ irs N ps (specV args pre out) := by
  rintro ds vh R ⟨a, rfl, p, q⟩
  exact ⟨hl a, h a vh R p q⟩
theorem call_specV {A : Type} {args : A → List D} {pre : A → VH → Prop} {out : A → Out} {vh : VH} {k : DV → VH → Prop} {kx : Str → List D → VH → Prop} {ds : List D} (a : A) (e : ds = args a) (p : pre a vh) (q : callK k kx (out a) vh) : (specV args pre out).run ds vh (callK k kx) := ⟨a, e, p, q⟩
/-! ### promises -/
def Gam : Cns := fun x => if x = "BYTE" then some (.int 256) else if x = "MOST_INPUTS" then some (.int 100000) else if x = "MOST_SEATS" then some (.int 4) else if x = "LAST_TICK" then some (.int 100000) else if x = "WAITING" then some (.str "waiting") else if x = "OPEN" then some (.str "open")
  else if x = "CLOSED" then some (.str "closed") else if x = "TELL" then some (.str "tell") else if x = "CLOSE" then some (.str "close") else none
/-- data that _law_is looks at, so deep -/
def plD : Nat → D → Bool
  | _, .non => true
  | _, .bl _ => true
  | _, .int _ => true
  | _, .str x => PyData.canLay0 (.str x)
  | n + 1, .tup xs => decide (xs.length ≤ 16777216) && xs.all (plD n)
  | n + 1, .lst xs => decide (xs.length ≤ 16777216) && xs.all (plD n)
  | _, _ => false
structure BA where
  r : BR
  ss : List Seat
  done : List D
@[reducible] def BA.is (a : BA) (vh : VH) : Prop := IsBk a.r a.ss a.done vh ∧ Good a.ss
structure SA where
  a : SR
  ss : List Seat
  done : List D
@[reducible] def SA.is (a : SA) (vh : VH) : Prop := IsSt a.a a.ss a.done vh ∧ Good a.ss
def okOr (b : Bool) (c : Str) (d : D) : Out := if b then .ok (.v d) else .exc c []
def xOf (w : Str) : Str := if w = "seat" then "NoSeat" else if w = "waiting" then "NotWaiting" else if w = "tick" then "NoTick" else if w = "open" then "NotOpen" else if w = "gap" then "Gap" else "NoInputs"
def Rs.out : Rs → Out
  | .told d => .ok (.v d)
  | .ref w => .exc (xOf w) []
def isInps (d : D) : Bool := rowD d
def s_is_integer : VSp := specF (A := D) (fun d => [d]) Ty fun d => .v (.bl (isI d))
def s_is_within : VSp := specF (A := D × Int × Int) (fun a => [a.1, .int a.2.1, .int a.2.2]) (fun a => Ty a.1) fun a => .v (.bl (wIn a.1 a.2.1 a.2.2))
def s_is_below : VSp := specF (A := D × Int) (fun a => [a.1, .int a.2]) (fun a => Ty a.1) fun a => .v (.bl (wIn a.1 0 (a.2 - 1)))
def s_check_within : VSp := specE (A := D × Int × Int) (fun a => [a.1, .int a.2.1, .int a.2.2]) (fun a => Ty a.1) fun a => okOr (wIn a.1 a.2.1 a.2.2) "NoNumber" .non
def s_is_input : VSp := specF (A := D) (fun d => [d]) Ty fun d => .v (.bl (byteD d))
def s_are_inputs : VSp := specF (A := D) (fun d => [d]) Th fun d => .v (.bl (rowD d))
def s_check_inputs : VSp := specE (A := D) (fun d => [d]) Th fun d => okOr (rowD d) "NoInputs" .non
def s_Book___init__ : VSp := spec (A := Nat × Nat) (fun a => [.ref a.1, .int a.2]) (fun a vh => vh[a.1]? = some (.ins "Book" [] []) ∧ 1 ≤ a.2 ∧ a.2 ≤ 4) fun a vh x vh' => x = .v .non ∧ ∃ r : BR, r.n = a.1 ∧ IsBk r (List.replicate a.2 ⟨.wt, 0, []⟩) [] vh' ∧ vh.length ≤ vh'.length ∧ (∀ j, j < vh.length → j ≠ a.1 → vh'[j]? = vh[j]?) ∧ ∀ j, j ∈ r.all → j = a.1 ∨ vh.length ≤ j
def s_Book_check_seat : VSp := specV (A := BA × D) (fun a => [.ref a.1.r.n, a.2]) (fun a vh => a.1.is vh ∧ Ty a.2) fun a => okOr (seatAt a.1.ss a.2).isSome "NoSeat" .non
def s_Book_check_open : VSp := specV (A := BA × D) (fun a => [.ref a.1.r.n, a.2]) (fun a vh => a.1.is vh ∧ Ty a.2) fun a => match seatAt a.1.ss a.2 with
  | none => .exc "NoSeat" []
  | some (_, s) => okOr (decide (s.w = .op)) "NotOpen" .non
def onSeat (ss : List Seat) (i : Nat) (f : Seat → D) : Out := match ss[i]? with
  | none => .exc "NoSeat" []
  | some s => .ok (.v (f s))
def s_Book_word : VSp := specV (A := BA × Nat) (fun a => [.ref a.1.r.n, .int a.2]) (fun a vh => a.1.is vh) fun a => onSeat a.1.ss a.2 fun s => .str s.w.s
def s_Book_begin : VSp := specV (A := BA × Nat) (fun a => [.ref a.1.r.n, .int a.2]) (fun a vh => a.1.is vh) fun a => onSeat a.1.ss a.2 fun s => .int s.b
def s_Book_end_of : VSp := specV (A := BA × Nat × Seat) (fun a => [.ref a.1.r.n, .int a.2.1]) (fun a vh => a.1.is vh ∧ a.1.ss[a.2.1]? = some a.2.2) fun a => .ok (.v (.int a.2.2.e))
def s_Book_ending : VSp := specV (A := BA × Nat) (fun a => [.ref a.1.r.n, .int a.2]) (fun a vh => a.1.is vh) fun a => onSeat a.1.ss a.2 fun s => .int s.e
def s_Book_settled : VSp := specV (A := BA) (fun a => [.ref a.r.n]) (fun a vh => a.is vh) fun a => .ok (.v (.int (stt a.ss)))
def stepP (dd : Dd) (a : BA) (vh : VH) (o : Out) (vh' : VH) : Prop := o = (step a.ss a.done dd).2.2.out ∧ IsBk a.r (step a.ss a.done dd).1 (step a.ss a.done dd).2.1 vh' ∧ FxS a.r.all vh vh'
def s_Book_open_seat : VSp := specO (A := BA × D × D) (fun a => [.ref a.1.r.n, a.2.1, a.2.2]) (fun a vh => a.1.is vh ∧ a.1.done.length < 1000 ∧ Ty a.2.1 ∧ Ty a.2.2) fun a => stepP (.op a.2.1 a.2.2) a.1
def s_Book_tell : VSp := specO (A := BA × D × D × D) (fun a => [.ref a.1.r.n, a.2.1, a.2.2.1, a.2.2.2]) (fun a vh => a.1.is vh ∧ a.1.done.length < 1000 ∧ Ty a.2.1 ∧ Ty a.2.2.1 ∧ Th a.2.2.2) fun a => stepP (.te a.2.1 a.2.2.1 a.2.2.2) a.1
def s_Book_close_seat : VSp := specO (A := BA × D) (fun a => [.ref a.1.r.n, a.2]) (fun a vh => a.1.is vh ∧ a.1.done.length < 1000 ∧ Ty a.2) fun a => stepP (.cl a.2) a.1
def s_Book_input_of : VSp := specV (A := BA × Nat × Seat × Int) (fun a => [.ref a.1.r.n, .int a.2.1, .int a.2.2.2]) (fun a vh => a.1.is vh ∧ a.1.ss[a.2.1]? = some a.2.2.1) fun a => .ok (.v (inp a.2.2.1 a.2.2.2))
def s_Book_input_at : VSp := specV (A := BA × Nat × Int) (fun a => [.ref a.1.r.n, .int a.2.1, .int a.2.2]) (fun a vh => a.1.is vh ∧ 0 ≤ a.2.2 ∧ a.2.2 ≤ 100000) fun a => onSeat a.1.ss a.2.1 fun s => inp s a.2.2
def s_Book_inputs_at : VSp := specV (A := BA × Int) (fun a => [.ref a.1.r.n, .int a.2]) (fun a vh => a.1.is vh) fun a => .ok (.v (.tup (a.1.ss.map fun s => inp s a.2)))
def s_Book_inputs : VSp := specV (A := BA × Int) (fun a => [.ref a.1.r.n, .int a.2]) (fun a vh => a.1.is vh) fun a => okOr (decide (0 ≤ a.2 ∧ a.2 < stt a.1.ss)) "NoTick" (.tup (a.1.ss.map fun s => inp s a.2))
def s_Book_deeds : VSp := specV (A := BA) (fun a => [.ref a.r.n]) (fun a vh => a.is vh) fun a => .ok (.fr a.done)
def s__law_hand : VSp := spec (A := List Int) (fun ns => [.scr ns]) (fun _ _ => True) fun ns vh x vh' => ∃ ds, x = .fr ds ∧ isHand (.lst ds) ∧ vh' = vh
def s__law_draw : VSp := spec (A := Nat × Int) (fun a => [.ref a.1, .int a.2]) (fun a vh => (∃ o, vh[a.1]? = some o ∧ isHand o) ∧ 0 < a.2 ∧ a.2 ≤ 18446744073709551616) fun a vh x vh' => ∃ k o, x = .v (.int k) ∧ 0 ≤ k ∧ k < a.2 ∧ isHand o ∧ vh' = vh.set a.1 o
def s__law_is : Nat → VSp
  | 0 => none_sp
  | n + 1 => specV (A := D × D) (fun a => [a.1, a.2]) (fun a vh => plD n a.1 = true ∧ (a.2 = a.1 ∨ ∃ m xs, a.2 = .ref m ∧ vh[m]? = some (.lst xs) ∧ a.1 = .lst xs)) fun _ => .ok (.v (.bl true))
def s__law_end : VSp := specV (A := Nat × Nat × Seat) (fun a => [.ref a.1]) (fun a vh => SeatS a.1 a.2.1 a.2.2 vh) fun a => .ok (.v (.int a.2.2.e))
def s__law_settled : VSp := specV (A := SA) (fun a => [.ref a.a.m]) (fun a vh => a.is vh) fun a => .ok (.v (.int (stt a.ss)))
def s__law_told_input : VSp := specV (A := Nat × Nat × Seat × Int) (fun a => [.ref a.1, .int a.2.2.2]) (fun a vh => SeatS a.1 a.2.1 a.2.2.1 vh) fun a => .ok (.v (inp a.2.2.1 a.2.2.2))
def s__law_told_inputs : VSp := spec (A := Nat) (fun n => [.ref n]) (fun n vh => Hd n vh) fun n vh x vh' => ∃ bs, x = .v (tupI bs) ∧ Byt bs ∧ bs.length ≤ 300 ∧ Hd n vh' ∧ Fx n vh vh'
def s__law_book_deed : VSp := spec (A := Nat × SA) (fun a => [.ref a.1, .ref a.2.a.m]) (fun a vh => Hd a.1 vh ∧ a.2.is vh ∧ a.1 ∉ a.2.a.all) fun a vh x vh' => ∃ dd : Dd, x = .v dd.d ∧ dd.Ok ∧ Hd a.1 vh' ∧ Fx a.1 vh vh'
def s__law_number_up_to : VSp := specF (A := D × Int) (fun a => [a.1, .int a.2]) (fun a => Ty a.1) fun a => .v (.bl (wIn a.1 0 a.2))
def s__law_are_inputs : VSp := specF (A := D) (fun d => [d]) Th fun d => .v (.bl (rowD d))
def s__law_account : VSp := spec (A := SA × Dd) (fun a => [.ref a.1.a.m, .ref a.1.a.md, a.2.d]) (fun a vh => a.1.is vh ∧ a.1.done.length < 1000 ∧ a.2.Ok) fun a vh x vh' => x = .v (step a.1.ss a.1.done a.2).2.2.d ∧ IsSt a.1.a (step a.1.ss a.1.done a.2).1 (step a.1.ss a.1.done a.2).2.1 vh' ∧ FxS a.1.a.all vh vh'
def s__law_done : VSp := spec (A := BA × Dd) (fun a => [.ref a.1.r.n, a.2.d]) (fun a vh => a.1.is vh ∧ a.1.done.length < 1000 ∧ a.2.Ok) fun a vh x vh' => x = .v (step a.1.ss a.1.done a.2).2.2.d ∧ IsBk a.1.r (step a.1.ss a.1.done a.2).1 (step a.1.ss a.1.done a.2).2.1 vh' ∧ FxS a.1.r.all vh vh'
def s__law_inputs_told : VSp := specV (A := BA × Int) (fun a => [.ref a.1.r.n, .int a.2]) (fun a vh => a.1.is vh) fun a => .ok (.v (if 0 ≤ a.2 ∧ a.2 < stt a.1.ss then .tup [.str "told", .tup (a.1.ss.map fun s => inp s a.2)] else .tup [.str "refused", .str "tick"]))
def DoneOk (done : List D) : Prop := done.length ≤ 1000 ∧ ∀ d, d ∈ done → plD 3 d = true
def s__law_book_is : VSp := spec (A := Nat × BR × SR × List Seat × List D) (fun a => [.ref a.1, .ref a.2.1.n, .ref a.2.2.1.m, .ref a.2.2.1.md]) (fun a vh => Hd a.1 vh ∧ IsBk a.2.1 a.2.2.2.1 a.2.2.2.2 vh ∧ IsSt a.2.2.1 a.2.2.2.1 a.2.2.2.2 vh ∧ Good a.2.2.2.1 ∧ DoneOk a.2.2.2.2 ∧ a.1 ∉ a.2.1.all ∧ a.1 ∉ a.2.2.1.all) fun a vh x vh' => x = .v (.bl true) ∧ Hd a.1 vh' ∧ Fx a.1 vh vh'
def s_law : VSp := spec (A := List Int) (fun ns => [.scr ns]) (fun _ _ => True) fun _ _ x _ => x = .v (.bl true)
def PhiL (n : Nat) : Fns := fun x => if x = "is_integer" then s_is_integer else if x = "is_within" then s_is_within else if x = "is_below" then s_is_below else if x = "check_within" then s_check_within else if x = "is_input" then s_is_input else if x = "are_inputs" then s_are_inputs else if x = "check_inputs" then s_check_inputs else if x = "Book.__init__" then s_Book___init__ else 
  if x = "Book.check_seat" then s_Book_check_seat else if x = "Book.check_open" then s_Book_check_open else if x = "Book.word" then s_Book_word else if x = "Book.begin" then s_Book_begin else if x = "Book.end_of" then s_Book_end_of else if x = "Book.ending" then s_Book_ending else if x = "Book.settled" then s_Book_settled else if x = "Book.open_seat" then s_Book_open_seat else 
  if x = "Book.tell" then s_Book_tell else if x = "Book.close_seat" then s_Book_close_seat else if x = "Book.input_of" then s_Book_input_of else if x = "Book.input_at" then s_Book_input_at else if x = "Book.inputs_at" then s_Book_inputs_at else if x = "Book.inputs" then s_Book_inputs else if x = "Book.deeds" then s_Book_deeds else if x = "_law_hand" then s__law_hand else 
  if x = "_law_draw" then s__law_draw else if x = "_law_is" then s__law_is n else if x = "_law_end" then s__law_end else if x = "_law_settled" then s__law_settled else if x = "_law_told_input" then s__law_told_input else if x = "_law_told_inputs" then s__law_told_inputs else if x = "_law_book_deed" then s__law_book_deed else if x = "_law_number_up_to" then s__law_number_up_to else 
  if x = "_law_are_inputs" then s__law_are_inputs else if x = "_law_account" then s__law_account else if x = "_law_done" then s__law_done else if x = "_law_inputs_told" then s__law_inputs_told else if x = "_law_book_is" then s__law_book_is else if x = "law" then s_law else none_sp
@[reducible] def Phi : Fns := PhiL 5
/-! ### calls -/
section
variable {vh : VH} {k : DV → VH → Prop} {kx : Str → List D → VH → Prop} {m : Nat} {r : BR} {ss : List Seat} {done : List D}
theorem c_is_integer {d : D} (h : Ty d) (q : k (.v (.bl (isI d))) vh) : (PhiL m "is_integer").run [d] vh (callK k kx) := call_specF (A := D) d rfl h q
theorem c_is_within {d : D} {l u : Int} (h : Ty d) (q : k (.v (.bl (wIn d l u))) vh) : (PhiL m "is_within").run [d, .int l, .int u] vh (callK k kx) := call_specF (A := D × Int × Int) (d, l, u) rfl h q
theorem c_is_below {d : D} {u : Int} (h : Ty d) (q : k (.v (.bl (wIn d 0 (u - 1)))) vh) : (PhiL m "is_below").run [d, .int u] vh (callK k kx) := call_specF (A := D × Int) (d, u) rfl h q
theorem c_check_within {d : D} {l u : Int} (h : Ty d) (q : callK k kx (okOr (wIn d l u) "NoNumber" .non) vh) : (PhiL m "check_within").run [d, .int l, .int u] vh (callK k kx) := call_specE (A := D × Int × Int) (d, l, u) rfl h q
theorem c_is_input {d : D} (h : Ty d) (q : k (.v (.bl (byteD d))) vh) : (PhiL m "is_input").run [d] vh (callK k kx) := call_specF (A := D) d rfl h q
theorem c_are_inputs {d : D} (h : Th d) (q : k (.v (.bl (rowD d))) vh) : (PhiL m "are_inputs").run [d] vh (callK k kx) := call_specF (A := D) d rfl h q
theorem c_check_inputs {d : D} (h : Th d) (q : callK k kx (okOr (rowD d) "NoInputs" .non) vh) : (PhiL m "check_inputs").run [d] vh (callK k kx) := call_specE (A := D) d rfl h q
theorem c_check_seat {d : D} (h : IsBk r ss done vh) (g : Good ss) (t : Ty d) (q : callK k kx (okOr (seatAt ss d).isSome "NoSeat" .non) vh) : (PhiL m "Book.check_seat").run [.ref r.n, d] vh (callK k kx) := call_specV (A := BA × D) (⟨r, ss, done⟩, d) rfl ⟨⟨h, g⟩, t⟩ q
theorem c_check_open {d : D} (h : IsBk r ss done vh) (g : Good ss) (t : Ty d) (q : callK k kx (match seatAt ss d with
  | none => .exc "NoSeat" []
  | some (_, s) => okOr (decide (s.w = .op)) "NotOpen" .non) vh) : (PhiL m "Book.check_open").run [.ref r.n, d] vh (callK k kx) := call_specV (A := BA × D) (⟨r, ss, done⟩, d) rfl ⟨⟨h, g⟩, t⟩ q
theorem c_word {i : Nat} {s : Seat} (h : IsBk r ss done vh) (g : Good ss) (e : ss[i]? = some s) (q : k (.v (.str s.w.s)) vh) : (PhiL m "Book.word").run [.ref r.n, .int i] vh (callK k kx) := call_specV (A := BA × Nat) (⟨r, ss, done⟩, i) rfl ⟨h, g⟩ (by
  show callK k kx (onSeat ss i _) vh
  unfold onSeat
  rw [e]
  exact q)
theorem c_begin {i : Nat} {s : Seat} (h : IsBk r ss done vh) (g : Good ss) (e : ss[i]? = some s) (q : k (.v (.int s.b)) vh) : (PhiL m "Book.begin").run [.ref r.n, .int i] vh (callK k kx) := call_specV (A := BA × Nat) (⟨r, ss, done⟩, i) rfl ⟨h, g⟩ (by
  show callK k kx (onSeat ss i _) vh
  unfold onSeat
  rw [e]
  exact q)
theorem c_ending {i : Nat} {s : Seat} (h : IsBk r ss done vh) (g : Good ss) (e : ss[i]? = some s) (q : k (.v (.int s.e)) vh) : (PhiL m "Book.ending").run [.ref r.n, .int i] vh (callK k kx) := call_specV (A := BA × Nat) (⟨r, ss, done⟩, i) rfl ⟨h, g⟩ (by
  show callK k kx (onSeat ss i _) vh
  unfold onSeat
  rw [e]
  exact q)
theorem c_end_of {i : Nat} {s : Seat} (h : IsBk r ss done vh) (g : Good ss) (e : ss[i]? = some s) (q : k (.v (.int s.e)) vh) : (PhiL m "Book.end_of").run [.ref r.n, .int i] vh (callK k kx) := call_specV (A := BA × Nat × Seat) (⟨r, ss, done⟩, i, s) rfl ⟨⟨h, g⟩, e⟩ q
theorem c_end_ofI {i : Int} {s : Seat} (h : IsBk r ss done vh) (g : Good ss) (i0 : 0 ≤ i) (e : ss[i.toNat]? = some s) (q : k (.v (.int s.e)) vh) : (PhiL m "Book.end_of").run [.ref r.n, .int i] vh (callK k kx) := by
  rw [← Int.toNat_of_nonneg i0]
  exact c_end_of h g e q
theorem c_settled (h : IsBk r ss done vh) (g : Good ss) (q : k (.v (.int (stt ss))) vh) : (PhiL m "Book.settled").run [.ref r.n] vh (callK k kx) := call_specV (A := BA) ⟨r, ss, done⟩ rfl ⟨h, g⟩ q
theorem c_open_seat {s t : D} (h : IsBk r ss done vh) (g : Good ss) (l : done.length < 1000) (t1 : Ty s) (t2 : Ty t) (q : ∀ vh', IsBk r (step ss done (.op s t)).1 (step ss done (.op s t)).2.1 vh' → FxS r.all vh vh' → callK k kx (step ss done (.op s t)).2.2.out vh') : (PhiL m "Book.open_seat").run [.ref r.n, s, t] vh (callK k kx) :=
  call_specO (A := BA × D × D) (⟨r, ss, done⟩, s, t) rfl ⟨⟨h, g⟩, l, t1, t2⟩ (by
    rintro o vh' ⟨rfl, h1, h2⟩
    exact q vh' h1 h2)
theorem c_tell {s t i : D} (h : IsBk r ss done vh) (g : Good ss) (l : done.length < 1000) (t1 : Ty s) (t2 : Ty t) (t3 : Th i) (q : ∀ vh', IsBk r (step ss done (.te s t i)).1 (step ss done (.te s t i)).2.1 vh' → FxS r.all vh vh' → callK k kx (step ss done (.te s t i)).2.2.out vh') : (PhiL m "Book.tell").run [.ref r.n, s, t, i] vh (callK k kx) :=
  call_specO (A := BA × D × D × D) (⟨r, ss, done⟩, s, t, i) rfl ⟨⟨h, g⟩, l, t1, t2, t3⟩ (by
    rintro o vh' ⟨rfl, h1, h2⟩
    exact q vh' h1 h2)
theorem c_close_seat {s : D} (h : IsBk r ss done vh) (g : Good ss) (l : done.length < 1000) (t1 : Ty s) (q : ∀ vh', IsBk r (step ss done (.cl s)).1 (step ss done (.cl s)).2.1 vh' → FxS r.all vh vh' → callK k kx (step ss done (.cl s)).2.2.out vh') : (PhiL m "Book.close_seat").run [.ref r.n, s] vh (callK k kx) :=
  call_specO (A := BA × D) (⟨r, ss, done⟩, s) rfl ⟨⟨h, g⟩, l, t1⟩ (by
    rintro o vh' ⟨rfl, h1, h2⟩
    exact q vh' h1 h2)
theorem c_input_of {i : Nat} {s : Seat} {j : Int} (h : IsBk r ss done vh) (g : Good ss) (e : ss[i]? = some s) (q : k (.v (inp s j)) vh) : (PhiL m "Book.input_of").run [.ref r.n, .int i, .int j] vh (callK k kx) := call_specV (A := BA × Nat × Seat × Int) (⟨r, ss, done⟩, i, s, j) rfl ⟨⟨h, g⟩, e⟩ q
theorem c_input_at {i : Nat} {s : Seat} {j : Int} (h : IsBk r ss done vh) (g : Good ss) (j0 : 0 ≤ j) (j1 : j ≤ 100000) (e : ss[i]? = some s) (q : k (.v (inp s j)) vh) : (PhiL m "Book.input_at").run [.ref r.n, .int i, .int j] vh (callK k kx) := call_specV (A := BA × Nat × Int) (⟨r, ss, done⟩, i, j) rfl ⟨⟨h, g⟩, j0, j1⟩ (by
  show callK k kx (onSeat ss i _) vh
  unfold onSeat
  rw [e]
  exact q)
theorem c_inputs_at {j : Int} (h : IsBk r ss done vh) (g : Good ss) (q : k (.v (.tup (ss.map fun s => inp s j))) vh) : (PhiL m "Book.inputs_at").run [.ref r.n, .int j] vh (callK k kx) := call_specV (A := BA × Int) (⟨r, ss, done⟩, j) rfl ⟨h, g⟩ q
theorem c_inputs {j : Int} (h : IsBk r ss done vh) (g : Good ss) (q : callK k kx (okOr (decide (0 ≤ j ∧ j < stt ss)) "NoTick" (.tup (ss.map fun s => inp s j))) vh) : (PhiL m "Book.inputs").run [.ref r.n, .int j] vh (callK k kx) := call_specV (A := BA × Int) (⟨r, ss, done⟩, j) rfl ⟨h, g⟩ q
theorem c_deeds (h : IsBk r ss done vh) (g : Good ss) (q : k (.fr done) vh) : (PhiL m "Book.deeds").run [.ref r.n] vh (callK k kx) := call_specV (A := BA) ⟨r, ss, done⟩ rfl ⟨h, g⟩ q
theorem c__law_hand {ns : List Int} (q : ∀ ds, isHand (.lst ds) → k (.fr ds) vh) : (PhiL m "_law_hand").run [.scr ns] vh (callK k kx) := call_spec (A := List Int) ns rfl trivial (by
  rintro _ _ ⟨ds, rfl, h, rfl⟩
  exact q ds h)
theorem c__law_draw {n : Nat} {u : Int} (h : Hd n vh) (h3 : 0 < u ∧ u ≤ 18446744073709551616) (q : ∀ (x : Int) (vh' : VH), 0 ≤ x → x < u → Hd n vh' → Fx n vh vh' → k (.v (.int x)) vh') : (PhiL m "_law_draw").run [.ref n, .int u] vh (callK k kx) := by
  obtain ⟨o0, h1, h2⟩ := h
  refine call_spec (A := Nat × Int) (n, u) rfl ⟨⟨o0, h1, h2⟩, h3⟩ ?_
  rintro _ _ ⟨x, o, rfl, a1, a2, a3, rfl⟩
  exact q x _ a1 a2 ⟨o, get_set h1, a3⟩ fx_set
theorem c__law_is {d e : D} (hd : d = e) (h : plD m d = true) (q : k (.v (.bl true)) vh) : (PhiL (m + 1) "_law_is").run [d, e] vh (callK k kx) := by
  subst hd
  exact call_specV (A := D × D) (d, d) rfl ⟨h, .inl rfl⟩ q
theorem c__law_isR {xs : List D} {n : Nat} (hn : vh[n]? = some (.lst xs)) (h : plD m (.lst xs) = true) (q : k (.v (.bl true)) vh) : (PhiL (m + 1) "_law_is").run [.lst xs, .ref n] vh (callK k kx) :=
  call_specV (A := D × D) (.lst xs, .ref n) rfl ⟨h, .inr ⟨n, xs, rfl, hn, rfl⟩⟩ q
theorem c__law_end {n t : Nat} {s : Seat} (h : SeatS n t s vh) (q : k (.v (.int s.e)) vh) : (PhiL m "_law_end").run [.ref n] vh (callK k kx) := call_specV (A := Nat × Nat × Seat) (n, t, s) rfl h q
theorem c__law_settled {a : SR} (h : IsSt a ss done vh) (g : Good ss) (q : k (.v (.int (stt ss))) vh) : (PhiL m "_law_settled").run [.ref a.m] vh (callK k kx) := call_specV (A := SA) ⟨a, ss, done⟩ rfl ⟨h, g⟩ q
theorem c__law_told_input {n t : Nat} {s : Seat} {j : Int} (h : SeatS n t s vh) (q : k (.v (inp s j)) vh) : (PhiL m "_law_told_input").run [.ref n, .int j] vh (callK k kx) := call_specV (A := Nat × Nat × Seat × Int) (n, t, s, j) rfl h q
theorem c__law_told_inputs {n : Nat} (h : Hd n vh) (q : ∀ bs vh', Byt bs → bs.length ≤ 300 → Hd n vh' → Fx n vh vh' → k (.v (tupI bs)) vh') : (PhiL m "_law_told_inputs").run [.ref n] vh (callK k kx) := call_spec (A := Nat) n rfl h (by
  rintro _ _ ⟨bs, rfl, h1, h2, h3, h4⟩
  exact q bs _ h1 h2 h3 h4)
theorem c__law_book_deed {n : Nat} {a : SR} (h : Hd n vh) (h2 : IsSt a ss done vh) (g : Good ss) (hn : n ∉ a.all) (q : ∀ (dd : Dd) vh', dd.Ok → Hd n vh' → Fx n vh vh' → k (.v dd.d) vh') : (PhiL m "_law_book_deed").run [.ref n, .ref a.m] vh (callK k kx) := call_spec (A := Nat × SA) (n, ⟨a, ss, done⟩) rfl ⟨h, ⟨h2, g⟩, hn⟩ (by
  rintro _ _ ⟨dd, rfl, h1, h3, h4⟩
  exact q dd _ h1 h3 h4)
theorem c__law_number_up_to {d : D} {u : Int} (h : Ty d) (q : k (.v (.bl (wIn d 0 u))) vh) : (PhiL m "_law_number_up_to").run [d, .int u] vh (callK k kx) := call_specF (A := D × Int) (d, u) rfl h q
theorem c__law_are_inputs {d : D} (h : Th d) (q : k (.v (.bl (rowD d))) vh) : (PhiL m "_law_are_inputs").run [d] vh (callK k kx) := call_specF (A := D) d rfl h q
theorem c__law_account {a : SR} {dd : Dd} (h : IsSt a ss done vh) (g : Good ss) (l : done.length < 1000) (ok : dd.Ok) (q : ∀ vh', IsSt a (step ss done dd).1 (step ss done dd).2.1 vh' → FxS a.all vh vh' → k (.v (step ss done dd).2.2.d) vh') : (PhiL m "_law_account").run [.ref a.m, .ref a.md, dd.d] vh (callK k kx) := call_spec (A := SA × Dd) (⟨a, ss, done⟩, dd) rfl ⟨⟨h, g⟩, l, ok⟩ (by
  rintro _ _ ⟨rfl, h1, h2⟩
  exact q _ h1 h2)
theorem c__law_done {dd : Dd} (h : IsBk r ss done vh) (g : Good ss) (l : done.length < 1000) (ok : dd.Ok) (q : ∀ vh', IsBk r (step ss done dd).1 (step ss done dd).2.1 vh' → FxS r.all vh vh' → k (.v (step ss done dd).2.2.d) vh') : (PhiL m "_law_done").run [.ref r.n, dd.d] vh (callK k kx) := call_spec (A := BA × Dd) (⟨r, ss, done⟩, dd) rfl ⟨⟨h, g⟩, l, ok⟩ (by
  rintro _ _ ⟨rfl, h1, h2⟩
  exact q _ h1 h2)
theorem c__law_inputs_told {j : Int} (h : IsBk r ss done vh) (g : Good ss) (q : k (.v (if 0 ≤ j ∧ j < stt ss then .tup [.str "told", .tup (ss.map fun s => inp s j)] else .tup [.str "refused", .str "tick"])) vh) : (PhiL m "_law_inputs_told").run [.ref r.n, .int j] vh (callK k kx) := call_specV (A := BA × Int) (⟨r, ss, done⟩, j) rfl ⟨h, g⟩ q
theorem c__law_book_is {n : Nat} {a : SR} (h0 : Hd n vh) (h : IsBk r ss done vh) (h2 : IsSt a ss done vh) (g : Good ss) (dk : DoneOk done) (n1 : n ∉ r.all) (n2 : n ∉ a.all) (q : ∀ vh', Hd n vh' → Fx n vh vh' → k (.v (.bl true)) vh') : (PhiL m "_law_book_is").run [.ref n, .ref r.n, .ref a.m, .ref a.md] vh (callK k kx) := call_spec (A := Nat × BR × SR × List Seat × List D) (n, r, a, ss, done) rfl ⟨h0, h, h2, g, dk, n1, n2⟩ (by
  rintro _ _ ⟨rfl, h3, h4⟩
  exact q _ h3 h4)
end
local macro_rules | `(tactic| walk_at "call1") => `(tactic| first
  | ((with_reducible refine' c_is_integer ?h1 ?_); (case h1 => first | exact ⟨_, rfl⟩ | assumption)) | ((with_reducible refine' c_is_within ?h1 ?_); (case h1 => first | exact ⟨_, rfl⟩ | assumption)) | ((with_reducible refine' c_is_below ?h1 ?_); (case h1 => first | exact ⟨_, rfl⟩ | assumption)))
/-! ### each def keeps its promise: checks -/
theorem k_is_integer : Sat Phi Gam ir_is_integer tc_is_integer.N ["thing"] s_is_integer := by
  refine sat_specF (fun _ => rfl) ?_
  rintro d vh R ⟨n, hn⟩ q
  show wpB Phi Gam ir_is_integer _ _ [.val d] vh
  unfold ir_is_integer
  cases d <;> first
    | (cases hn; done)
    | (walk_at "r"; exact q)
theorem k_is_within : Sat Phi Gam ir_is_within tc_is_within.N ["thing", "least", "most"] s_is_within := by
  refine sat_specF (fun _ => rfl) ?_
  rintro ⟨d, l, m⟩ vh R hd q
  show wpB Phi Gam ir_is_within _ _ [.val d, .val (.int l), .val (.int m)] vh
  unfold ir_is_within
  walk_at "r"
  obtain ⟨n, hn⟩ := hd
  cases d <;> first
    | (cases hn; done)
    | (walk_at "r"; exact q)
    | (walk_at "r"
       refine p_true ?_
       walk_at "r"
       refine p_dec (fun h1 => ?_) (fun h1 => ?_)
       · walk_at "r"
         simpa [h1, wIn] using q
       · simpa [h1, wIn] using q)
theorem k_is_below : Sat Phi Gam ir_is_below tc_is_below.N ["thing", "many"] s_is_below := by
  refine sat_specF (fun _ => rfl) ?_
  rintro ⟨d, m⟩ vh R hd q
  show wpB Phi Gam ir_is_below _ _ [.val d, .val (.int m)] vh
  unfold ir_is_below
  dsimp only at hd
  walk_at "r"
  exact q
theorem k_check_within : Sat Phi Gam ir_check_within tc_check_within.N ["thing", "least", "most"] s_check_within := by
  refine sat_specE (fun _ => rfl) ?_
  rintro ⟨d, l, m⟩ vh R hd q
  show wpB Phi Gam ir_check_within _ _ [.val d, .val (.int l), .val (.int m)] vh
  unfold ir_check_within
  dsimp only at hd q
  walk_at "r"
  unfold okOr at q
  refine p_bool (fun h1 => ?_) (fun h1 => ?_)
  · walk_at "r"
    have h2 : wIn d l m = false := by simpa using h1
    rw [h2] at q
    exact q
  · walk_at "r"
    have h2 : wIn d l m = true := by simpa using h1
    rw [h2] at q
    exact q
theorem k_is_input : Sat Phi Gam ir_is_input tc_is_input.N ["thing"] s_is_input := by
  refine sat_specF (fun _ => rfl) ?_
  rintro d vh R hd q
  show wpB Phi Gam ir_is_input _ _ [.val d] vh
  unfold ir_is_input
  walk_at "r"
  exact q
theorem k_are_inputs : Sat Phi Gam ir_are_inputs tc_are_inputs.N ["thing"] s_are_inputs := by
  refine sat_specF (fun _ => rfl) ?_
  rintro d vh R ⟨hd, hx⟩ q
  show wpB Phi Gam ir_are_inputs _ _ [.val d, .no, .no] vh
  unfold ir_are_inputs
  cases d with
  | tup xs =>
    obtain ⟨hl, ht⟩ := hx xs rfl
    walk_at "r"
    refine p_dec (fun h1 => ?_) (fun h1 => ?_)
    · walk_at "r"
      refine lc_map (fun d => .bl (byteD d)) _ _ _ (fun d hd R q => ?_) ?_ ?_
      · have htd := ht d hd
        walk_at "r"
        refine c_is_input htd ?_
        walk_at "r"
        exact q
      · simp
        omega
      · walk_at "r"
        refine f_all (bs := xs.map byteD) (by simp) ?_
        have e : (xs.map byteD).all id = xs.all byteD := by
          rw [List.all_map]
          rfl
        (rw [e]; try rfl)
        exact q
    · omega
  | _ =>
    obtain ⟨n, hn⟩ := hd
    first
      | (cases hn; done)
      | (walk_at "r"; exact q)
theorem k_check_inputs : Sat Phi Gam ir_check_inputs tc_check_inputs.N ["thing"] s_check_inputs := by
  refine sat_specE (fun _ => rfl) ?_
  rintro d vh R hd q
  show wpB Phi Gam ir_check_inputs _ _ [.val d] vh
  unfold ir_check_inputs
  walk_at "r"
  refine c_are_inputs hd ?_
  walk_at "r"
  unfold okOr at q
  refine p_bool (fun h1 => ?_) (fun h1 => ?_)
  · walk_at "r"
    have h2 : rowD d = false := by simpa using h1
    rw [h2] at q
    exact q
  · walk_at "r"
    have h2 : rowD d = true := by simpa using h1
    rw [h2] at q
    exact q
theorem okW (w : W) : okD 64 (.str w.s) = true := by cases w <;> decide +kernel
theorem eqW (w v : W) : eqD (.str w.s) (.str v.s) = decide (w = v) := by cases w <;> cases v <;> decide +kernel
local macro_rules | `(tactic| walk_at "ok1") => `(tactic| first
  | exact okW .op | exact okW .wt | exact okW .cl | exact okW _)
theorem seatAt_is {ss : List Seat} {d : D} : (seatAt ss d).isSome = wIn d 0 ((ss.length : Int) - 1) := by
  cases d with
  | int i =>
    unfold seatAt wIn
    dsimp only
    by_cases h0 : 0 ≤ i
    · rw [if_pos h0]
      by_cases h1 : i.toNat < ss.length
      · rw [List.getElem?_eq_getElem h1, decide_eq_true (by omega)]
        rfl
      · rw [List.getElem?_eq_none (by omega), decide_eq_false (by omega)]
        rfl
    · rw [if_neg h0, decide_eq_false (by omega)]
      rfl
  | _ => rfl
theorem seatAt_ok {ss : List Seat} {d : D} {k : Nat} {s : Seat} (h : seatAt ss d = some (k, s)) : d = .int k ∧ ss[k]? = some s ∧ k < ss.length := by
  cases d with
  | int i =>
    unfold seatAt at h
    dsimp only at h
    by_cases h0 : 0 ≤ i
    · rw [if_pos h0] at h
      cases e : ss[i.toNat]? with
      | none => rw [e] at h; cases h
      | some s' =>
        rw [e] at h
        cases h
        exact ⟨by rw [Int.toNat_of_nonneg h0], e, (List.getElem?_eq_some_iff.mp e).1⟩
    · rw [if_neg h0] at h
      cases h
  | _ => cases h
theorem seatAt_nat {ss : List Seat} {i : Nat} {s : Seat} (h : ss[i]? = some s) : seatAt ss (.int i) = some (i, s) := by
  unfold seatAt
  dsimp only
  rw [if_pos (by omega), Int.toNat_natCast, h]
  rfl
/-- an item of a list by its place -/
theorem at_map {α : Type} {xs : List α} {f : α → D} {i : Nat} {x : α} (h : xs[i]? = some x) : atI (xs.map f) (i : Int) = some (f x) := by
  have hl := (List.getElem?_eq_some_iff.mp h).1
  unfold atI ixN
  rw [List.length_map, if_pos (by omega), if_pos (by omega), Int.toNat_natCast]
  show (xs.map f)[i]? = _
  rw [List.getElem?_map, h]
  rfl
theorem IsBk.rsAt {r : BR} {ss : List Seat} {done : List D} {vh : VH} (h : IsBk r ss done vh) {i : Nat} {s : Seat} (e : ss[i]? = some s) : ∃ q, r.rs[i]? = some q ∧ vh[q]? = some (.lst (s.t.map .int)) := by
  have hl := (List.getElem?_eq_some_iff.mp e).1
  have hq : i < r.rs.length := by rw [h.ln]; exact hl
  exact ⟨r.rs[i], List.getElem?_eq_getElem hq, h.ts i _ s (List.getElem?_eq_getElem hq) e⟩
theorem k_Book_check_seat : Sat Phi Gam ir_Book_check_seat tc_Book_check_seat.N ["self", "seat"] s_Book_check_seat := by
  refine sat_specV (fun _ => rfl) ?_
  rintro ⟨⟨r, ss, done⟩, d⟩ vh R ⟨⟨h, g⟩, t⟩ q
  dsimp only at h g t q
  show wpB Phi Gam ir_Book_check_seat _ _ [.val (.ref r.n), .val d] vh
  unfold ir_Book_check_seat
  have hb := h.bk
  walk_at "r"
  rw [seatAt_is] at q
  unfold okOr at q
  refine p_bool (fun h1 => ?_) (fun h1 => ?_)
  · walk_at "r"
    have h2 : wIn d 0 ((ss.length : Int) - 1) = false := by simpa using h1
    rw [h2] at q
    exact q
  · walk_at "r"
    have h2 : wIn d 0 ((ss.length : Int) - 1) = true := by simpa using h1
    rw [h2] at q
    exact q
theorem k_Book_check_open : Sat Phi Gam ir_Book_check_open tc_Book_check_open.N ["self", "seat"] s_Book_check_open := by
  refine sat_specV (fun _ => rfl) ?_
  rintro ⟨⟨r, ss, done⟩, d⟩ vh R ⟨⟨h, g⟩, t⟩ q
  dsimp only at h g t q
  show wpB Phi Gam ir_Book_check_open _ _ [.val (.ref r.n), .val d] vh
  unfold ir_Book_check_open
  have hb := h.bk
  walk_at "r"
  refine c_check_seat h g t ?_
  cases e : seatAt ss d with
  | none =>
    rw [e] at q
    exact q
  | some p =>
    obtain ⟨k, s⟩ := p
    rw [e] at q
    obtain ⟨rfl, e1, e2⟩ := seatAt_ok e
    have hw := h.ws
    show callK _ _ (.ok (.v .non)) vh
    walk_at "r"
    refine i_lst (at_map e1) ?_
    unfold okOr at q
    rcases s with ⟨w, b, ts⟩
    cases w with
    | op =>
      walk_at "r"
      exact q
    | _ =>
      walk_at "r"
      exact q
theorem k_Book_word : Sat Phi Gam ir_Book_word tc_Book_word.N ["self", "seat"] s_Book_word := by
  refine sat_specV (fun _ => rfl) ?_
  rintro ⟨⟨r, ss, done⟩, i⟩ vh R ⟨h, g⟩ q
  dsimp only at h g q
  show wpB Phi Gam ir_Book_word _ _ [.val (.ref r.n), .val (.int i)] vh
  unfold ir_Book_word
  have hb := h.bk
  have hw := h.ws
  unfold onSeat at q
  walk_at "r"
  refine c_check_seat h g ⟨_, rfl⟩ ?_
  cases e : ss[i]? with
  | none =>
    rw [e] at q
    have e2 : seatAt ss (.int i) = none := by
      unfold seatAt
      dsimp only
      rw [if_pos (by omega), Int.toNat_natCast, e]
      rfl
    rw [e2]
    exact q
  | some s =>
    rw [e] at q
    rw [seatAt_nat e]
    show callK _ _ (.ok (.v .non)) vh
    walk_at "r"
    refine i_lst (at_map e) ?_
    exact q
theorem k_Book_begin : Sat Phi Gam ir_Book_begin tc_Book_begin.N ["self", "seat"] s_Book_begin := by
  refine sat_specV (fun _ => rfl) ?_
  rintro ⟨⟨r, ss, done⟩, i⟩ vh R ⟨h, g⟩ q
  dsimp only at h g q
  show wpB Phi Gam ir_Book_begin _ _ [.val (.ref r.n), .val (.int i)] vh
  unfold ir_Book_begin
  have hb := h.bk
  have hw := h.bs
  unfold onSeat at q
  walk_at "r"
  refine c_check_seat h g ⟨_, rfl⟩ ?_
  cases e : ss[i]? with
  | none =>
    rw [e] at q
    have e2 : seatAt ss (.int i) = none := by
      unfold seatAt
      dsimp only
      rw [if_pos (by omega), Int.toNat_natCast, e]
      rfl
    rw [e2]
    exact q
  | some s =>
    rw [e] at q
    rw [seatAt_nat e]
    show callK _ _ (.ok (.v .non)) vh
    walk_at "r"
    refine i_lst (at_map e) ?_
    exact q
theorem k_Book_end_of : Sat Phi Gam ir_Book_end_of tc_Book_end_of.N ["self", "seat"] s_Book_end_of := by
  refine sat_specV (fun _ => rfl) ?_
  rintro ⟨⟨r, ss, done⟩, i, s⟩ vh R ⟨⟨h, g⟩, e⟩ q
  dsimp only at h g e q
  show wpB Phi Gam ir_Book_end_of _ _ [.val (.ref r.n), .val (.int i)] vh
  unfold ir_Book_end_of
  have hb := h.bk
  have hw := h.bs
  have ht := h.rt
  obtain ⟨p, hp, hs⟩ := h.rsAt e
  walk_at "r"
  refine i_lst (at_map e) ?_
  walk_at "r"
  refine i_lst (at_map hp) ?_
  walk_at "r"
  rw [List.length_map]
  have e1 : (s.b : Int) + (s.t.length : Int) = ((s.e : Nat) : Int) := by unfold Seat.e; omega
  rw [e1]
  exact q
theorem k_Book_ending : Sat Phi Gam ir_Book_ending tc_Book_ending.N ["self", "seat"] s_Book_ending := by
  refine sat_specV (fun _ => rfl) ?_
  rintro ⟨⟨r, ss, done⟩, i⟩ vh R ⟨h, g⟩ q
  dsimp only at h g q
  show wpB Phi Gam ir_Book_ending _ _ [.val (.ref r.n), .val (.int i)] vh
  unfold ir_Book_ending
  have hb := h.bk
  unfold onSeat at q
  walk_at "r"
  refine c_check_seat h g ⟨_, rfl⟩ ?_
  cases e : ss[i]? with
  | none =>
    rw [e] at q
    have e2 : seatAt ss (.int i) = none := by
      unfold seatAt
      dsimp only
      rw [if_pos (by omega), Int.toNat_natCast, e]
      rfl
    rw [e2]
    exact q
  | some s =>
    rw [e] at q
    rw [seatAt_nat e]
    show callK _ _ (.ok (.v .non)) vh
    walk_at "r"
    refine c_end_of h g e ?_
    exact q
theorem k_Book_deeds : Sat Phi Gam ir_Book_deeds tc_Book_deeds.N ["self"] s_Book_deeds := by
  refine sat_specV (fun _ => rfl) ?_
  rintro ⟨r, ss, done⟩ vh R ⟨h, g⟩ q
  dsimp only at h g q
  show wpB Phi Gam ir_Book_deeds _ _ [.val (.ref r.n)] vh
  unfold ir_Book_deeds
  have hb := h.bk
  have hw := h.dn
  walk_at "r"
  exact q
theorem f_minN {ns : List Nat} {F : DV → Prop} (h0 : 0 < ns.length) (q : ∀ m, m ∈ ns → (∀ y, y ∈ ns → m ≤ y) → F (.v (.int (m : Nat)))) : wpBlt .min1 [.lst (ns.map fun (n : Nat) => D.int (n : Int))] F := by
  refine ⟨ns.map fun (n : Nat) => (n : Int), by rw [List.map_map]; rfl, by rw [List.length_map]; exact h0, fun m hm hle => ?_⟩
  obtain ⟨k, hk, rfl⟩ := List.mem_map.mp hm
  refine q k hk fun y hy => ?_
  have := hle (y : Int) (List.mem_map_of_mem hy)
  omega
theorem f_maxN {ns : List Nat} {F : DV → Prop} (h0 : 0 < ns.length) (q : ∀ m, m ∈ ns → (∀ y, y ∈ ns → y ≤ m) → F (.v (.int (m : Nat)))) : wpBlt .max1 [.lst (ns.map fun (n : Nat) => D.int (n : Int))] F := by
  refine ⟨ns.map fun (n : Nat) => (n : Int), by rw [List.map_map]; rfl, by rw [List.length_map]; exact h0, fun m hm hle => ?_⟩
  obtain ⟨k, hk, rfl⟩ := List.mem_map.mp hm
  refine q k hk fun y hy => ?_
  have := hle (y : Int) (List.mem_map_of_mem hy)
  omega
theorem opn_take {ss : List Seat} {i : Nat} {s : Seat} (h : ss[i]? = some s) : opn (ss.take (i + 1)) = opn (ss.take i) ++ if s.w = .op then [s.e] else [] := by
  obtain ⟨hl, he⟩ := List.getElem?_eq_some_iff.mp h
  unfold opn
  rw [List.take_succ_eq_append_getElem hl, List.filter_append, List.map_append, he]
  congr 1
  by_cases q : s.w = .op
  · rw [if_pos q, List.filter_cons_of_pos (by simp [q])]
    rfl
  · rw [if_neg q, List.filter_cons_of_neg (by simp [q])]
    rfl
theorem rng_cons {n i : Nat} {d : D} {ds : List D} (h : d :: ds = ((List.range n).drop i).map fun (j : Nat) => D.int (j : Int)) : i < n ∧ d = .int i ∧ ds = ((List.range n).drop (i + 1)).map fun (j : Nat) => D.int (j : Int) := by
  have hi : i < n := by
    have := congrArg List.length h
    simp at this
    omega
  rw [List.drop_eq_getElem_cons (by simpa using hi), List.map_cons] at h
  obtain ⟨h1, h2⟩ := List.cons.inj h
  exact ⟨hi, by rw [h1, List.getElem_range], h2⟩
theorem rng_nil {n i : Nat} (h : [] = ((List.range n).drop i).map fun (j : Nat) => D.int (j : Int)) : n ≤ i := by
  have := congrArg List.length h
  simp at this
  omega
theorem k_Book_input_of : Sat Phi Gam ir_Book_input_of tc_Book_input_of.N ["self", "seat", "tick"] s_Book_input_of := by
  refine sat_specV (fun _ => rfl) ?_
  rintro ⟨⟨r, ss, done⟩, i, s, j⟩ vh R ⟨⟨h, g⟩, e⟩ q
  dsimp only at h g e q
  show wpB Phi Gam ir_Book_input_of _ _ [.val (.ref r.n), .val (.int i), .val (.int j)] vh
  unfold ir_Book_input_of
  have hb := h.bk
  have hw := h.ws
  have hs := h.bs
  have ht := h.rt
  obtain ⟨p, hp, hpt⟩ := h.rsAt e
  have hE : (s.e : Int) = s.b + s.t.length := by unfold Seat.e; omega
  unfold inp at q
  walk_at "r"
  refine i_lst (at_map e) ?_
  walk_at "r"
  rw [eqW s.w .wt]
  refine p_dec (fun h1 => ?_) (fun h1 => ?_)
  · walk_at "r"
    rw [if_pos (.inl h1)] at q
    exact q
  · walk_at "r"
    refine i_lst (at_map e) ?_
    walk_at "r"
    refine p_dec (fun h2 => ?_) (fun h2 => ?_)
    · walk_at "r"
      rw [if_pos (.inr h2)] at q
      exact q
    · rw [if_neg (by rintro (z | z); exact h1 z; exact h2 z)] at q
      walk_at "r"
      refine c_end_of h g e ?_
      walk_at "r"
      refine p_dec (fun h3 => ?_) (fun h3 => ?_)
      · rw [if_pos h3] at q
        have hk : (j - s.b).toNat < s.t.length := by omega
        rw [List.getElem?_eq_getElem hk] at q
        walk_at "r"
        refine i_lst (at_map hp) ?_
        walk_at "r"
        refine i_lst (at_map e) ?_
        walk_at "r"
        have ej : j - (s.b : Int) = (((j - s.b).toNat : Nat) : Int) := by omega
        rw [ej]
        refine i_lst (at_map (List.getElem?_eq_getElem hk)) ?_
        exact q
      · rw [if_neg h3] at q
        walk_at "r"
        refine i_lst (at_map e) ?_
        walk_at "r"
        rw [eqW s.w .cl]
        refine p_dec (fun h4 => ?_) (fun h4 => ?_)
        · rw [if_pos h4] at q
          walk_at "r"
          exact q
        · rw [if_neg h4] at q
          walk_at "r"
          exact q
theorem k_Book_input_at : Sat Phi Gam ir_Book_input_at tc_Book_input_at.N ["self", "seat", "tick"] s_Book_input_at := by
  refine sat_specV (fun _ => rfl) ?_
  rintro ⟨⟨r, ss, done⟩, i, j⟩ vh R ⟨⟨h, g⟩, j0, j1⟩ q
  dsimp only at h g j0 j1 q
  show wpB Phi Gam ir_Book_input_at _ _ [.val (.ref r.n), .val (.int i), .val (.int j)] vh
  unfold ir_Book_input_at
  have hb := h.bk
  unfold onSeat at q
  walk_at "r"
  refine c_check_seat h g ⟨_, rfl⟩ ?_
  cases e : ss[i]? with
  | none =>
    rw [e] at q
    have e2 : seatAt ss (.int i) = none := by
      unfold seatAt
      dsimp only
      rw [if_pos (by omega), Int.toNat_natCast, e]
      rfl
    rw [e2]
    exact q
  | some s =>
    rw [e] at q
    rw [seatAt_nat e]
    show callK _ _ (.ok (.v .non)) vh
    walk_at "r"
    refine p_ndec (fun h1 => absurd ⟨j0, j1⟩ h1) (fun _ => ?_)
    walk_at "r"
    refine c_input_of h g e ?_
    exact q
theorem k_Book_inputs_at : Sat Phi Gam ir_Book_inputs_at tc_Book_inputs_at.N ["self", "tick"] s_Book_inputs_at := by
  refine sat_specV (fun _ => rfl) ?_
  rintro ⟨⟨r, ss, done⟩, j⟩ vh R ⟨h, g⟩ q
  dsimp only at h g q
  show wpB Phi Gam ir_Book_inputs_at _ _ [.val (.ref r.n), .val (.int j), .no, .no] vh
  unfold ir_Book_inputs_at
  have hb := h.bk
  have hg := g.2.1
  walk_at "r"
  rw [Int.toNat_natCast]
  refine lc_rule (fun rest h acc => h = vh ∧ ∃ i, i ≤ ss.length ∧ rest = ((List.range ss.length).drop i).map (fun (k : Nat) => D.int (k : Int)) ∧ acc = (ss.take i).map fun s => inp s j) ?_ ?_ _ _ _ ⟨rfl, 0, Nat.zero_le _, rfl, rfl⟩
  · rintro _ _ ⟨rfl, i, hi, hr, rfl⟩
    have := rng_nil hr
    have ei : i = ss.length := by omega
    subst ei
    walk_at "r"
    rw [List.take_length]
    exact q
  · rintro d ds _ _ ⟨rfl, i, hi, hr, rfl⟩ ih
    obtain ⟨hi2, rfl, hr2⟩ := rng_cons hr
    have e := List.getElem?_eq_getElem hi2
    walk_at "r"
    refine c_input_of h g e ?_
    walk_at "r"
    refine ⟨by rw [List.length_map, List.length_take]; omega, ih _ _ ⟨rfl, i + 1, hi2, hr2, ?_⟩⟩
    rw [List.take_succ_eq_append_getElem hi2, List.map_append]
    rfl
theorem k_Book_settled : Sat Phi Gam ir_Book_settled tc_Book_settled.N ["self"] s_Book_settled := by
  refine sat_specV (fun _ => rfl) ?_
  rintro ⟨r, ss, done⟩ vh R ⟨h, g⟩ q
  dsimp only at h g q
  show wpB Phi Gam ir_Book_settled _ _ [.val (.ref r.n), .no, .no, .no] vh
  unfold ir_Book_settled
  have hb := h.bk
  have hw := h.ws
  have hg := g.2.1
  have hg1 := g.1
  refine b_cut (fun e h => h = vh ∧ e = [.val (.ref r.n), .val (.lst ((opn ss).map fun (n : Nat) => D.int (n : Int))), .no, .no]) ?_ ?_
  · walk_at "r"
    rw [Int.toNat_natCast]
    refine lc_rule (fun rest h acc => h = vh ∧ ∃ i, i ≤ ss.length ∧ rest = ((List.range ss.length).drop i).map (fun (k : Nat) => D.int (k : Int)) ∧ acc = (opn (ss.take i)).map fun (n : Nat) => D.int (n : Int)) ?_ ?_ _ _ _ ⟨rfl, 0, Nat.zero_le _, rfl, rfl⟩
    · rintro _ _ ⟨rfl, i, hi, hr, rfl⟩
      have := rng_nil hr
      have ei : i = ss.length := by omega
      subst ei
      walk_at "r"
      rw [List.take_length]
      exact hold ⟨rfl, rfl⟩
    · rintro d ds _ _ ⟨rfl, i, hi, hr, rfl⟩ ih
      obtain ⟨hi2, rfl, hr2⟩ := rng_cons hr
      have e := List.getElem?_eq_getElem hi2
      have ol : (opn (ss.take i)).length ≤ 4 := by
        unfold opn
        rw [List.length_map]
        have := List.length_filter_le (fun s : Seat => decide (s.w = .op)) (ss.take i)
        rw [List.length_take] at this
        omega
      walk_at "r"
      refine i_lst (at_map e) ?_
      walk_at "r"
      rw [eqW _ .op]
      refine p_dec (fun h1 => ?_) (fun h1 => ?_)
      · walk_at "r"
        refine c_end_of h g e ?_
        walk_at "r"
        refine ⟨by rw [List.length_map]; omega, ih _ _ ⟨rfl, i + 1, hi2, hr2, ?_⟩⟩
        rw [opn_take e, if_pos h1, List.map_append]
        rfl
      · refine ih _ _ ⟨rfl, i + 1, hi2, hr2, ?_⟩
        rw [opn_take e, if_neg h1, List.append_nil]
  rintro _ vh2 ⟨hv, rfl⟩
  subst hv
  have hlo : ((opn ss).map fun (n : Nat) => D.int (n : Int)).length = (opn ss).length := List.length_map _
  walk_at "r"
  refine p_dec (fun h1 => ?_) (fun h1 => ?_)
  · walk_at "r"
    refine f_minN (by omega) fun m hm hle => ?_
    rw [stt_open hm hle] at q
    exact q
  · have h0 : opn ss = [] := List.eq_nil_of_length_eq_zero (by omega)
    walk_at "r"
    rw [Int.toNat_natCast]
    refine lc_rule (fun rest h acc => h = vh2 ∧ ∃ i, i ≤ ss.length ∧ rest = ((List.range ss.length).drop i).map (fun (k : Nat) => D.int (k : Int)) ∧ acc = ((ss.take i).map Seat.e).map fun (n : Nat) => D.int (n : Int)) ?_ ?_ _ _ _ ⟨rfl, 0, Nat.zero_le _, rfl, rfl⟩
    · rintro _ _ ⟨rfl, i, hi, hr, rfl⟩
      have := rng_nil hr
      have ei : i = ss.length := by omega
      subst ei
      walk_at "r"
      rw [List.take_length]
      refine f_maxN (by rw [List.length_map]; omega) fun m hm hle => ?_
      rw [stt_none h0 hm hle] at q
      exact q
    · rintro d ds _ _ ⟨rfl, i, hi, hr, rfl⟩ ih
      obtain ⟨hi2, rfl, hr2⟩ := rng_cons hr
      have e := List.getElem?_eq_getElem hi2
      walk_at "r"
      refine c_end_of h g e ?_
      walk_at "r"
      refine ⟨by rw [List.length_map, List.length_map, List.length_take]; omega, ih _ _ ⟨rfl, i + 1, hi2, hr2, ?_⟩⟩
      rw [List.take_succ_eq_append_getElem hi2, List.map_append, List.map_append]
      rfl
theorem k_Book_inputs : Sat Phi Gam ir_Book_inputs tc_Book_inputs.N ["self", "tick"] s_Book_inputs := by
  refine sat_specV (fun _ => rfl) ?_
  rintro ⟨⟨r, ss, done⟩, j⟩ vh R ⟨h, g⟩ q
  dsimp only at h g q
  show wpB Phi Gam ir_Book_inputs _ _ [.val (.ref r.n), .val (.int j)] vh
  unfold ir_Book_inputs
  have hb := h.bk
  walk_at "r"
  refine c_settled h g ?_
  walk_at "r"
  unfold okOr at q
  refine p_ndec (fun h1 => ?_) (fun h1 => ?_)
  · rw [decide_eq_false (by omega)] at q
    walk_at "r"
    exact q
  · rw [decide_eq_true (by omega)] at q
    walk_at "r"
    refine c_inputs_at h g ?_
    exact q
theorem ix_nat {n k : Nat} (h : k < n) : ixN n (k : Int) = some k := by
  unfold ixN
  rw [if_pos (by omega), if_pos (by omega), Int.toNat_natCast]
theorem grow_put {h : VH} {n : Nat} {o A : VO} (hn : n < h.length) : ((h ++ [o]).set n A)[n]? = some A ∧ ((h ++ [o]).set n A).length = h.length + 1 ∧ ((h ++ [o]).set n A)[h.length]? = some o ∧ ∀ j, j < h.length → j ≠ n → ((h ++ [o]).set n A)[j]? = h[j]? := by
  refine ⟨?_, by simp, ?_, fun j hj ne => ?_⟩
  · rw [List.getElem?_set_self (by simp; omega)]
  · rw [List.getElem?_set_ne (by omega)]
    simp
  · rw [List.getElem?_set_ne (Ne.symm ne), List.getElem?_append_left hj]
theorem flat_one {α : Type} {x : α} : ∀ n : Nat, (List.replicate n [x]).flatten = List.replicate n x
  | 0 => rfl
  | n + 1 => by rw [List.replicate_succ, List.flatten_cons, flat_one n]; rfl
theorem k_Book___init__ : Sat Phi Gam ir_Book___init__ tc_Book___init__.N ["self", "players"] s_Book___init__ := by
  refine sat_spec (fun _ => rfl) ?_
  rintro ⟨n, p⟩ vh R ⟨hn, p1, p4⟩ q
  dsimp only at hn p1 p4 q
  show wpB Phi Gam ir_Book___init__ _ _ [.val (.ref n), .val (.int p), .no, .no] vh
  unfold ir_Book___init__
  have nl : n < vh.length := (List.getElem?_eq_some_iff.mp hn).1
  walk_at "r"
  refine c_check_within ⟨_, rfl⟩ ?_
  have hw : wIn (.int (p : Int)) 1 4 = true := by
    show decide _ = true
    exact decide_eq_true (by omega)
  rw [hw]
  show callK _ _ (.ok (.v .non)) vh
  refine b_cut (fun e h => e = [.val (.ref n), .val (.int p), .no, .no] ∧ h[n]? = some (.ins "Book" ["players"] [.int p]) ∧ h.length = vh.length ∧ ∀ j, j ≠ n → h[j]? = vh[j]?) ?_ ?_
  · walk_at "r"
    exact hold ⟨rfl, get_set hn, List.length_set, fun j hj => List.getElem?_set_ne (Ne.symm hj)⟩
  rintro _ h1 ⟨rfl, a1, a2, a3⟩
  refine b_cut (fun e h => e = [.val (.ref n), .val (.int p), .no, .no] ∧ h[n]? = some (.ins "Book" ["players", "words"] [.int p, .ref vh.length]) ∧ h.length = vh.length + 1 ∧ h[vh.length]? = some (.lst (List.replicate p (.str "waiting"))) ∧ ∀ j, j < vh.length → j ≠ n → h[j]? = vh[j]?) ?_ ?_
  · walk_at "r"
    rw [flat_one, Int.toNat_natCast]
    obtain ⟨g1, g2, g3, g4⟩ := grow_put (h := h1) (n := n) (o := .lst (List.replicate p (.str "waiting"))) (A := .ins "Book" ["players", "words"] [.int p, .ref vh.length]) (by omega)
    refine put_go rfl (by rw [List.getElem?_append_left (by omega)]; exact a1) (Nat.le_of_ble_eq_true rfl) ?_
    rw [a2] at g2 g3 g4 ⊢
    exact hold ⟨rfl, g1, g2, g3, fun j hj ne => (g4 j hj ne).trans (a3 j ne)⟩
  rintro _ h2 ⟨rfl, b1, b2, b3, b4⟩
  refine b_cut (fun e h => e = [.val (.ref n), .val (.int p), .no, .no] ∧ h[n]? = some (.ins "Book" ["players", "words", "begins"] [.int p, .ref vh.length, .ref (vh.length + 1)]) ∧ h.length = vh.length + 2 ∧ h[vh.length]? = some (.lst (List.replicate p (.str "waiting"))) ∧ h[vh.length + 1]? = some (.lst (List.replicate p (.int 0))) ∧ ∀ j, j < vh.length → j ≠ n → h[j]? = vh[j]?) ?_ ?_
  · walk_at "r"
    rw [flat_one, Int.toNat_natCast]
    obtain ⟨g1, g2, g3, g4⟩ := grow_put (h := h2) (n := n) (o := .lst (List.replicate p (.int 0))) (A := .ins "Book" ["players", "words", "begins"] [.int p, .ref vh.length, .ref (vh.length + 1)]) (by omega)
    refine put_go rfl (by rw [List.getElem?_append_left (by omega)]; exact b1) (Nat.le_of_ble_eq_true rfl) ?_
    rw [b2] at g2 g3 g4 ⊢
    exact hold ⟨rfl, g1, g2, (g4 _ (by omega) (by omega)).trans b3, g3, fun j hj ne => (g4 j (by omega) ne).trans (b4 j hj ne)⟩
  rintro _ h3 ⟨rfl, c1, c2, c3, c4, c5⟩
  refine b_cut (fun e h => e = [.val (.ref n), .val (.int p), .no, .no] ∧ h[n]? = some (.ins "Book" ["players", "words", "begins", "told"] [.int p, .ref vh.length, .ref (vh.length + 1), .ref (vh.length + 2 + p)]) ∧ h.length = vh.length + 3 + p ∧ h[vh.length]? = some (.lst (List.replicate p (.str "waiting"))) ∧ h[vh.length + 1]? = some (.lst (List.replicate p (.int 0))) ∧
    (∀ i, i < p → h[vh.length + 2 + i]? = some (.lst [])) ∧ h[vh.length + 2 + p]? = some (.lst (((List.range p).map fun i => vh.length + 2 + i).map D.ref)) ∧ ∀ j, j < vh.length → j ≠ n → h[j]? = vh[j]?) ?_ ?_
  · walk_at "r"
    rw [Int.toNat_natCast]
    refine lc_rule (fun rest h acc => ∃ i, i ≤ p ∧ rest = ((List.range p).drop i).map (fun (k : Nat) => D.int (k : Int)) ∧ h.length = vh.length + 2 + i ∧ (∀ j, j < vh.length + 2 → h[j]? = h3[j]?) ∧ (∀ j, j < i → h[vh.length + 2 + j]? = some (.lst [])) ∧ acc = ((List.range i).map fun i => vh.length + 2 + i).map D.ref) ?_ ?_ _ _ _ ⟨0, Nat.zero_le _, rfl, c2, fun _ _ => rfl, fun j hj => absurd hj (by omega), rfl⟩
    · rintro h4 _ ⟨i, hi, hr, d1, d2, d3, rfl⟩
      have := rng_nil hr
      have ei : i = p := by omega
      subst ei
      walk_at "r"
      obtain ⟨g1, g2, g3, g4⟩ := grow_put (h := h4) (n := n) (o := .lst (((List.range i).map fun i => vh.length + 2 + i).map D.ref)) (A := .ins "Book" ["players", "words", "begins", "told"] [.int i, .ref vh.length, .ref (vh.length + 1), .ref (vh.length + 2 + i)]) (by omega)
      refine put_go rfl (by rw [List.getElem?_append_left (by omega), d2 n (by omega)]; exact c1) (Nat.le_of_ble_eq_true rfl) ?_
      rw [d1] at g2 g3 g4 ⊢
      exact hold ⟨rfl, g1, g2.trans (by omega), ((g4 vh.length (by omega) (by omega)).trans (d2 _ (by omega))).trans c3, ((g4 (vh.length + 1) (by omega) (by omega)).trans (d2 _ (by omega))).trans c4, fun j hj => (g4 (vh.length + 2 + j) (by omega) (by omega)).trans (d3 j hj), g3, fun j hj ne => ((g4 j (by omega) ne).trans (d2 j (by omega))).trans (c5 j hj ne)⟩
    · rintro d ds h4 _ ⟨i, hi, hr, d1, d2, d3, rfl⟩ ih
      obtain ⟨hi2, rfl, hr2⟩ := rng_cons hr
      walk_at "r"
      refine ⟨by simp; omega, ih _ _ ⟨i + 1, hi2, hr2, by rw [List.length_append, d1]; rfl, fun j hj => ?_, fun j hj => ?_, ?_⟩⟩
      · rw [List.getElem?_append_left (by omega)]
        exact d2 j hj
      · by_cases e : j < i
        · rw [List.getElem?_append_left (by omega)]
          exact d3 j e
        · have ej : j = i := by omega
          subst ej
          rw [← d1]
          simp
      · rw [List.range_succ, List.map_append, List.map_append, d1]
        rfl
  rintro _ h4 ⟨rfl, d1, d2, d3, d4, d5, d6, d7⟩
  walk_at "r"
  obtain ⟨g1, g2, g3, g4⟩ := grow_put (h := h4) (n := n) (o := .lst []) (A := .ins "Book" FB [.int p, .ref vh.length, .ref (vh.length + 1), .ref (vh.length + 2 + p), .ref (vh.length + 3 + p)]) (by omega)
  refine put_go rfl (by rw [List.getElem?_append_left (by omega)]; exact d1) (Nat.le_of_ble_eq_true rfl) ?_
  rw [d2] at g2 g3 g4 ⊢
  walk_at "r"
  refine q _ _ ⟨rfl, ⟨n, vh.length, vh.length + 1, vh.length + 2 + p, vh.length + 3 + p, (List.range p).map fun i => vh.length + 2 + i⟩, rfl, ?_, by simp; omega, fun j hj ne => (g4 j (by omega) ne).trans (d7 j hj ne), fun j hj => ?_⟩
  · refine ⟨?_, ?_, ?_, ?_, ?_, by simp, fun i q s h1 h2 => ?_, ?_⟩
    · rw [List.length_replicate]
      exact g1
    · rw [List.map_replicate]
      exact (g4 vh.length (by omega) (by omega)).trans d3
    · rw [List.map_replicate]
      exact (g4 (vh.length + 1) (by omega) (by omega)).trans d4
    · exact (g4 (vh.length + 2 + p) (by omega) (by omega)).trans d6
    · exact g3
    · obtain ⟨hi, rfl⟩ := List.getElem?_eq_some_iff.mp h1
      simp at hi
      obtain ⟨hi2, rfl⟩ := List.getElem?_eq_some_iff.mp h2
      rw [List.getElem_replicate, List.getElem_map, List.getElem_range]
      exact (g4 (vh.length + 2 + i) (by omega) (by omega)).trans (d5 i hi)
    · unfold BR.all
      have hp : p = 1 ∨ p = 2 ∨ p = 3 ∨ p = 4 := by omega
      rcases hp with rfl | rfl | rfl | rfl <;> simp [List.range_succ] <;> omega
  · unfold BR.all at hj
    simp only [List.mem_cons, List.mem_map, List.mem_range] at hj
    rcases hj with rfl | rfl | rfl | rfl | rfl | ⟨a, ha, rfl⟩ <;> first
      | exact .inl rfl
      | exact .inr (by omega)
theorem IsBk.ne {r : BR} {ss : List Seat} {done : List D} {vh : VH} (h : IsBk r ss done vh) : r.n ≠ r.rw ∧ r.n ≠ r.rb ∧ r.n ≠ r.rt ∧ r.n ≠ r.rd ∧ r.rw ≠ r.rb ∧ r.rw ≠ r.rt ∧ r.rw ≠ r.rd ∧ r.rb ≠ r.rt ∧ r.rb ≠ r.rd ∧ r.rt ≠ r.rd ∧
    (∀ q, q ∈ r.rs → q ≠ r.n ∧ q ≠ r.rw ∧ q ≠ r.rb ∧ q ≠ r.rt ∧ q ≠ r.rd) ∧ r.rs.Nodup := by
  have := h.nd
  unfold BR.all at this
  simp only [List.nodup_cons, List.mem_cons, not_or] at this
  obtain ⟨⟨a1, a2, a3, a4, a5⟩, ⟨b1, b2, b3, b4⟩, ⟨c1, c2, c3⟩, ⟨d1, d2⟩, e1, e2⟩ := this
  exact ⟨a1, a2, a3, a4, b1, b2, b3, c1, c2, d1, fun q hq => ⟨fun z => a5 (by rw [← z]; exact hq), fun z => b4 (by rw [← z]; exact hq), fun z => c3 (by rw [← z]; exact hq), fun z => d2 (by rw [← z]; exact hq), fun z => e1 (by rw [← z]; exact hq)⟩, e2⟩
theorem nodup_at {rs : List Nat} (h : rs.Nodup) {i j q : Nat} (h1 : rs[i]? = some q) (h2 : rs[j]? = some q) : i = j := by
  obtain ⟨l1, e1⟩ := List.getElem?_eq_some_iff.mp h1
  obtain ⟨l2, e2⟩ := List.getElem?_eq_some_iff.mp h2
  exact (List.getElem_inj h).mp (e1.trans e2.symm)
theorem set_id {α : Type} {xs : List α} {k : Nat} {x : α} (h : xs[k]? = some x) : xs.set k x = xs := by
  apply List.ext_getElem?
  intro j
  by_cases e : j = k
  · subst e
    rw [List.getElem?_set_self (List.getElem?_eq_some_iff.mp h).1, h]
  · rw [List.getElem?_set_ne (Ne.symm e)]
theorem map_set' {α : Type} {xs : List α} {f : α → D} {k : Nat} {x : α} : (xs.set k x).map f = (xs.map f).set k (f x) := by rw [List.map_set]
theorem wIn_int {d : D} {l u : Int} (h : wIn d l u = true) : ∃ i, d = .int i ∧ l ≤ i ∧ i ≤ u := by
  cases d with
  | int i => exact ⟨i, rfl, of_decide_eq_true h⟩
  | _ => cases h
theorem k_Book_open_seat : Sat Phi Gam ir_Book_open_seat tc_Book_open_seat.N ["self", "seat", "tick"] s_Book_open_seat := by
  refine sat_specO (fun _ => rfl) ?_
  rintro ⟨⟨r, ss, done⟩, s, t⟩ vh R ⟨⟨h, g⟩, hl, hs, ht⟩ q
  dsimp only at h g hl hs ht
  show wpB Phi Gam ir_Book_open_seat _ _ [.val (.ref r.n), .val s, .val t] vh
  unfold ir_Book_open_seat
  have no : ∀ w, step ss done (.op s t) = (ss, done, .ref w) → R (.exc (xOf w) []) vh := fun w e => q _ _ ⟨by dsimp only; rw [e]; rfl, by dsimp only; rw [e]; exact h, FxS.refl⟩
  have hb := h.bk
  have hw := h.ws
  obtain ⟨n1, n2, n3, n4, n5, n6, n7, n8, n9, n10, n11, n12⟩ := h.ne
  walk_at "r"
  refine c_check_seat h g hs ?_
  cases e : seatAt ss s with
  | none => exact no "seat" (by unfold step; dsimp only; rw [e])
  | some p =>
    obtain ⟨k, se⟩ := p
    obtain ⟨rfl, e1, e2⟩ := seatAt_ok e
    show callK _ _ (.ok (.v .non)) vh
    walk_at "r"
    refine i_lst (at_map e1) ?_
    walk_at "r"
    rw [eqW _ .wt]
    refine p_ndec (fun h1 => ?_) (fun h1 => ?_)
    · walk_at "r"
      exact no "waiting" (by unfold step; dsimp only; rw [e]; dsimp only; rw [if_pos h1])
    · walk_at "r"
      refine c_settled h g ?_
      walk_at "r"
      cases e3 : wIn t (stt ss) 100000 with
      | false =>
        walk_at "r"
        exact no "tick" (by unfold step; dsimp only; rw [e]; dsimp only; rw [if_neg (by simpa using h1), if_pos e3])
      | true =>
        obtain ⟨i, rfl, i1, i2⟩ := wIn_int e3
        have es : step ss done (.op (.int k) (.int i)) = (ss.set k ⟨.op, i.toNat, se.t⟩, done ++ [.tup [.str "open", .int k, .int i]], .told .non) := by
          unfold step
          dsimp only
          rw [e]
          dsimp only
          rw [if_neg (by simpa using h1), if_neg (by rw [e3]; exact Bool.noConfusion)]
        walk_at "r"
        refine w_setD hw (ix_nat (by rw [List.length_map]; exact e2)) fun vh1 g1 f1 => ?_
        have hb1 := (f1.2 _ n1).trans hb
        have hbs1 := (f1.2 _ (Ne.symm n5)).trans h.bs
        walk_at "r"
        refine w_setD hbs1 (ix_nat (by rw [List.length_map]; exact e2)) fun vh2 g2 f2 => ?_
        have hb2 := (f2.2 _ n2).trans hb1
        have hd2 := ((f2.2 _ (Ne.symm n9)).trans (f1.2 _ (Ne.symm n7))).trans h.dn
        walk_at "r"
        refine ⟨ls_D hd2, ?_⟩
        walk_at "r"
        refine w_appD hd2 (by omega) fun vh3 g3 f3 => ?_
        have off : ∀ j, j ≠ r.rw → j ≠ r.rb → j ≠ r.rd → vh3[j]? = vh[j]? := fun j j1 j2 j3 => ((f3.2 j j3).trans (f2.2 j j2)).trans (f1.2 j j1)
        refine q _ _ ⟨by dsimp only; rw [es]; rfl, ?_, ?_⟩
        · dsimp only
          rw [es]
          dsimp only
          refine ⟨?_, ?_, ?_, ?_, g3, by rw [List.length_set]; exact h.ln, fun j p s hp hs => ?_, h.nd⟩
          · rw [List.length_set]
            exact (off _ n1 n2 n4).trans hb
          · rw [map_set']
            exact ((f3.2 _ n7).trans (f2.2 _ n5)).trans g1
          · rw [map_set']
            have ei : (((i.toNat : Nat)) : Int) = i := by omega
            dsimp only
            rw [ei]
            exact (f3.2 _ n9).trans g2
          · exact (off _ (Ne.symm n6) (Ne.symm n8) n10).trans h.rt
          · obtain ⟨m1, m2, m3, m4, m5⟩ := n11 p (List.mem_of_getElem? hp)
            refine (off p m2 m3 m5).trans ?_
            by_cases ej : j = k
            · subst ej
              rw [List.getElem?_set_self e2] at hs
              cases hs
              exact h.ts j p se hp e1
            · rw [List.getElem?_set_ne (Ne.symm ej)] at hs
              exact h.ts j p s hp hs
        · exact (FxS.of f1 (by simp [BR.all])).trans ((FxS.of f2 (by simp [BR.all])).trans (FxS.of f3 (by simp [BR.all])))
theorem k_Book_close_seat : Sat Phi Gam ir_Book_close_seat tc_Book_close_seat.N ["self", "seat"] s_Book_close_seat := by
  refine sat_specO (fun _ => rfl) ?_
  rintro ⟨⟨r, ss, done⟩, s⟩ vh R ⟨⟨h, g⟩, hl, hs⟩ q
  dsimp only at h g hl hs
  show wpB Phi Gam ir_Book_close_seat _ _ [.val (.ref r.n), .val s] vh
  unfold ir_Book_close_seat
  have no : ∀ w, step ss done (.cl s) = (ss, done, .ref w) → R (.exc (xOf w) []) vh := fun w e => q _ _ ⟨by dsimp only; rw [e]; rfl, by dsimp only; rw [e]; exact h, FxS.refl⟩
  have hb := h.bk
  have hw := h.ws
  obtain ⟨n1, n2, n3, n4, n5, n6, n7, n8, n9, n10, n11, n12⟩ := h.ne
  walk_at "r"
  refine c_check_open h g hs ?_
  cases e : seatAt ss s with
  | none => exact no "seat" (by unfold step; dsimp only; rw [e])
  | some p =>
    obtain ⟨k, se⟩ := p
    obtain ⟨rfl, e1, e2⟩ := seatAt_ok e
    dsimp only
    unfold okOr
    by_cases h1 : se.w = .op
    · rw [decide_eq_true h1]
      have es : step ss done (.cl (.int k)) = (ss.set k ⟨.cl, se.b, se.t⟩, done ++ [.tup [.str "close", .int k]], .told .non) := by
        unfold step
        dsimp only
        rw [e]
        dsimp only
        rw [if_neg (by simpa using h1)]
      show callK _ _ (.ok (.v .non)) vh
      walk_at "r"
      refine w_setD hw (ix_nat (by rw [List.length_map]; exact e2)) fun vh1 g1 f1 => ?_
      have hb1 := (f1.2 _ n1).trans hb
      have hd1 := (f1.2 _ (Ne.symm n7)).trans h.dn
      walk_at "r"
      refine ⟨ls_D hd1, ?_⟩
      walk_at "r"
      refine w_appD hd1 (by omega) fun vh3 g3 f3 => ?_
      have off : ∀ j, j ≠ r.rw → j ≠ r.rd → vh3[j]? = vh[j]? := fun j j1 j3 => (f3.2 j j3).trans (f1.2 j j1)
      refine q _ _ ⟨by dsimp only; rw [es]; rfl, ?_, ?_⟩
      · dsimp only
        rw [es]
        dsimp only
        refine ⟨?_, ?_, ?_, ?_, g3, by rw [List.length_set]; exact h.ln, fun j p s hp hs => ?_, h.nd⟩
        · rw [List.length_set]
          exact (off _ n1 n4).trans hb
        · rw [map_set']
          exact (f3.2 _ n7).trans g1
        · rw [map_set']
          refine ((off _ (Ne.symm n5) n9).trans h.bs).trans ?_
          congr 2
          exact (set_id (by rw [List.getElem?_map, e1]; rfl)).symm
        · exact (off _ (Ne.symm n6) n10).trans h.rt
        · obtain ⟨m1, m2, m3, m4, m5⟩ := n11 p (List.mem_of_getElem? hp)
          refine (off p m2 m5).trans ?_
          by_cases ej : j = k
          · subst ej
            rw [List.getElem?_set_self e2] at hs
            cases hs
            exact h.ts j p se hp e1
          · rw [List.getElem?_set_ne (Ne.symm ej)] at hs
            exact h.ts j p s hp hs
      · exact (FxS.of f1 (by simp [BR.all])).trans (FxS.of f3 (by simp [BR.all]))
    · rw [decide_eq_false h1]
      exact no "open" (by unfold step; dsimp only; rw [e]; dsimp only; rw [if_pos h1])
theorem byt_of {xs : List D} (h : xs.all byteD = true) : ∃ bs : List Int, xs = bs.map D.int ∧ Byt bs := by
  induction xs with
  | nil => exact ⟨[], rfl, fun b hb => by cases hb⟩
  | cons x xs ih =>
    rw [List.all_cons, Bool.and_eq_true] at h
    obtain ⟨bs, e, hb⟩ := ih h.2
    have h1 := h.1
    cases x with
    | int i =>
      have h1 : 0 ≤ i ∧ i ≤ 255 := of_decide_eq_true h1
      refine ⟨i :: bs, by rw [e]; rfl, fun b hm => ?_⟩
      rcases List.mem_cons.mp hm with rfl | hm
      · omega
      · exact hb b hm
    | _ => cases h1
theorem row_of {d : D} (h : rowD d = true) : ∃ bs : List Int, d = tupI bs ∧ Byt bs := by
  cases d with
  | tup xs =>
    obtain ⟨bs, rfl, hb⟩ := byt_of h
    exact ⟨bs, rfl, hb⟩
  | _ => cases h
theorem ints_tup (bs : List Int) : intsD (tupI bs) = bs := by
  show (bs.map D.int).map _ = bs
  rw [List.map_map]
  have e : ∀ l : List Int, l.map ((fun x : D => match x with
    | .int i => i
    | _ => 0) ∘ D.int) = l := fun l => by
    induction l with
    | nil => rfl
    | cons a l ih => rw [List.map_cons, ih]; rfl
  exact e bs
theorem cut_gen {α : Type} {xs : List α} {v w : Int} (h0 : 0 ≤ v) (h1 : v ≤ w) : cutL xs (some v) (some w) = (xs.drop v.toNat).take (w - v).toNat := by
  unfold cutL HT.sIx
  dsimp only
  rw [if_neg (by omega), if_neg (by omega)]
  by_cases hv : v.toNat ≤ xs.length
  · rw [Nat.min_eq_left hv]
    by_cases hw : w.toNat ≤ xs.length
    · rw [Nat.min_eq_left hw]
      congr 1
      omega
    · rw [Nat.min_eq_right (by omega), List.take_of_length_le (by rw [List.length_drop]; omega), List.take_of_length_le (by rw [List.length_drop]; omega)]
  · have a : min v.toNat xs.length = xs.length := by omega
    rw [a, List.drop_of_length_le (Nat.le_refl _), List.drop_of_length_le (by omega), List.take_nil, List.take_nil]
theorem k_Book_tell : Sat Phi Gam ir_Book_tell tc_Book_tell.N ["self", "seat", "tick", "inputs"] s_Book_tell := by
  refine sat_specO (fun _ => rfl) ?_
  rintro ⟨⟨r, ss, done⟩, s, t, i⟩ vh R ⟨⟨h, g⟩, hl, hs, ht, hi⟩ q
  dsimp only at h g hl hs ht hi
  show wpB Phi Gam ir_Book_tell _ _ [.val (.ref r.n), .val s, .val t, .val i, .no, .no] vh
  unfold ir_Book_tell
  have no : ∀ w, step ss done (.te s t i) = (ss, done, .ref w) → R (.exc (xOf w) []) vh := fun w e => q _ _ ⟨by dsimp only; rw [e]; rfl, by dsimp only; rw [e]; exact h, FxS.refl⟩
  have hb := h.bk
  have hrt := h.rt
  obtain ⟨n1, n2, n3, n4, n5, n6, n7, n8, n9, n10, n11, n12⟩ := h.ne
  walk_at "r"
  refine c_check_open h g hs ?_
  cases e : seatAt ss s with
  | none => exact no "seat" (by unfold step; dsimp only; rw [e])
  | some p =>
    obtain ⟨k, se⟩ := p
    obtain ⟨rfl, e1, e2⟩ := seatAt_ok e
    have hok := g.2.2 se (List.mem_of_getElem? e1)
    have hE : se.e = se.b + se.t.length := rfl
    have hE2 := hok.2.1
    dsimp only
    unfold okOr
    by_cases h1 : se.w = .op
    · rw [decide_eq_true h1]
      show callK _ _ (.ok (.v .non)) vh
      walk_at "r"
      cases e3 : wIn t 0 100000 with
      | false =>
        walk_at "r"
        exact no "tick" (by unfold step; dsimp only; rw [e]; dsimp only; rw [if_neg (by simpa using h1), if_pos e3])
      | true =>
        obtain ⟨j, rfl, j0, j1⟩ := wIn_int e3
        walk_at "r"
        refine c_end_of h g e1 ?_
        walk_at "r"
        refine p_dec (fun h2 => ?_) (fun h2 => ?_)
        · walk_at "r"
          exact no "gap" (by unfold step; dsimp only; rw [e]; dsimp only; rw [if_neg (by simpa using h1), if_neg (by rw [e3]; exact Bool.noConfusion)]; (try dsimp only); rw [if_pos h2])
        · walk_at "r"
          refine c_check_inputs hi ?_
          cases e4 : rowD i with
          | false => exact no "inputs" (by unfold step; dsimp only; rw [e]; dsimp only; rw [if_neg (by simpa using h1), if_neg (by rw [e3]; exact Bool.noConfusion)]; (try dsimp only); rw [if_neg h2, if_pos e4])
          | true =>
            obtain ⟨bs, rfl, hbs⟩ := row_of e4
            have hbl := (hi.2 _ rfl).1
            rw [List.length_map] at hbl
            obtain ⟨N, hN⟩ : ∃ N, N = (bs.drop (se.e - j.toNat)).take (100000 - se.e) := ⟨_, rfl⟩
            have hNl : N.length ≤ 400 := by
              rw [hN, List.length_take, List.length_drop]
              omega
            have hcut : cutL (bs.map D.int) (some ((se.e : Int) - j)) (some (100000 - j)) = N.map D.int := by
              rw [cut_gen (by omega) (by omega), hN, List.map_take, List.map_drop]
              congr 1
              · omega
              · congr 1
                omega
            have hst : step ss done (.te (.int k) (.int j) (tupI bs)) = if N = [] then (ss, done, .told (.int 0)) else (ss.set k ⟨.op, se.b, se.t ++ N⟩, done ++ [.tup [.str "tell", .int k, .int se.e, tupI N]], .told (.int N.length)) := by
              unfold step
              dsimp only
              rw [e]
              dsimp only
              rw [if_neg (by simpa using h1), if_neg (by rw [e3]; exact Bool.noConfusion)]
              try dsimp only
              rw [if_neg h2, if_neg (by rw [e4]; exact Bool.noConfusion), ints_tup, ← hN]
            show callK _ _ (.ok (.v .non)) vh
            walk_at "r"
            rw [hcut]
            walk_at "r"
            refine p_dec (fun h3 => ?_) (fun h3 => ?_)
            · rw [List.length_map] at h3
              have hN0 : N ≠ [] := fun z => by rw [z] at h3; simp at h3
              rw [if_neg hN0] at hst
              obtain ⟨p, hp, hpt⟩ := h.rsAt e1
              obtain ⟨m1, m2, m3, m4, m5⟩ := n11 p (List.mem_of_getElem? hp)
              walk_at "r"
              refine i_lst (at_map hp) ?_
              walk_at "r"
              refine ⟨ls_D hpt, ?_⟩
              walk_at "r"
              refine w_extD hpt (by rw [List.length_map, List.length_map]; omega) fun vh1 g1 f1 => ?_
              have hb1 := (f1.2 _ (Ne.symm m1)).trans hb
              have hd1 := (f1.2 _ (Ne.symm m5)).trans h.dn
              walk_at "r"
              refine ⟨ls_D hd1, ?_⟩
              walk_at "r"
              refine w_appD hd1 (by omega) fun vh3 g3 f3 => ?_
              walk_at "r"
              rw [List.length_map]
              have off : ∀ j, j ≠ p → j ≠ r.rd → vh3[j]? = vh[j]? := fun j j1 j3 => (f3.2 j j3).trans (f1.2 j j1)
              refine q _ _ ⟨by dsimp only; rw [hst]; rfl, ?_, ?_⟩
              · dsimp only
                rw [hst]
                dsimp only
                refine ⟨?_, ?_, ?_, ?_, g3, by rw [List.length_set]; exact h.ln, fun j p2 s hp2 hs => ?_, h.nd⟩
                · rw [List.length_set]
                  exact (off _ (Ne.symm m1) n4).trans hb
                · rw [map_set']
                  refine ((off _ (Ne.symm m2) n7).trans h.ws).trans ?_
                  congr 2
                  exact (set_id (by rw [List.getElem?_map, e1, Option.map_some, h1])).symm
                · rw [map_set']
                  refine ((off _ (Ne.symm m3) n9).trans h.bs).trans ?_
                  congr 2
                  exact (set_id (by rw [List.getElem?_map, e1]; rfl)).symm
                · exact (off _ (Ne.symm m4) n10).trans h.rt
                · obtain ⟨o1, o2, o3, o4, o5⟩ := n11 p2 (List.mem_of_getElem? hp2)
                  by_cases ej : j = k
                  · subst ej
                    rw [List.getElem?_set_self e2] at hs
                    cases hs
                    rw [hp] at hp2
                    cases hp2
                    rw [List.map_append]
                    exact (f3.2 _ m5).trans g1
                  · rw [List.getElem?_set_ne (Ne.symm ej)] at hs
                    refine (off p2 (fun z => ej ?_) o5).trans (h.ts j p2 s hp2 hs)
                    subst z
                    exact nodup_at n12 hp2 hp
              · exact (FxS.of f1 (by simp [BR.all, List.mem_of_getElem? hp])).trans (FxS.of f3 (by simp [BR.all]))
            · rw [List.length_map] at h3
              have hN0 : N = [] := List.eq_nil_of_length_eq_zero (by omega)
              rw [if_pos hN0] at hst
              walk_at "r"
              rw [List.length_map]
              refine q _ _ ⟨by dsimp only; rw [hst, hN0]; rfl, by dsimp only; rw [hst]; exact h, FxS.refl⟩
    · rw [decide_eq_false h1]
      exact no "open" (by unfold step; dsimp only; rw [e]; dsimp only; rw [if_pos h1])
theorem k_law_hand : Sat Phi Gam ir__law_hand tc__law_hand.N ["script"] s__law_hand := by
  refine sat_spec (fun _ => rfl) ?_
  rintro ns vh R _ q
  show wpB Phi Gam ir__law_hand _ _ [.val (.scr ns), .no, .no] vh
  unfold ir__law_hand
  walk_at "r"
  refine lc_map (fun d => d) _ _ _ (fun d hd R q => ?_) ?_ ?_
  · obtain ⟨b, hbm, rfl⟩ := List.mem_map.mp hd
    walk_at "r"
    exact q
  · rw [List.length_map, cut_take (by omega), List.length_take]
    simp
    omega
  · walk_at "r"
    refine q _ _ ⟨_, rfl, ⟨cutL ns none (some 63), 0, 0, 1 + ((cutL ns none (some 63)).length : Int), 0, ?_, by omega⟩, rfl⟩
    simp
theorem k_law_draw : Sat Phi Gam ir__law_draw tc__law_draw.N ["hand", "many"] s__law_draw := by
  refine sat_spec (fun _ => rfl) ?_
  rintro ⟨n, m⟩ vh R ⟨⟨o, ho, cs, a, b, c, d, rfl, ha⟩, m0, m1⟩ q
  dsimp only at ho m0 m1 q
  show wpB Phi Gam ir__law_draw _ _ [.val (.ref n), .val (.int m), .no, .no, .no] vh
  unfold ir__law_draw
  refine b_cut (fun e h => ∃ (sl : Slot) (cs : List Int) (a b c d : Int), e = [.val (.ref n), .val (.int m), sl, .no, .no] ∧ h[n]? = some (.lst [.lst (cs.map D.int), .int a, .int b, .int c, .int d]) ∧ 0 ≤ a ∧ ∀ o, h.set n o = vh.set n o) ?_ ?_
  · walk_at "r"
    refine p_dec (fun h1 => ?_) (fun h1 => ?_)
    · walk_at "r"
      refine p_dec (fun h1 => ?_) (fun h1 => ?_)
      · obtain ⟨u, hu, _⟩ := atI_int (xs := cs) ha (by rw [List.length_map] at h1; exact h1)
        walk_at "r"
        refine i_lst hu ?_
        walk_at "r"
        intro vh1 g1 g2
        walk_at "r"
        intro vh2 g3 g4
        walk_at "r"
        refine p_dec (fun h1 => ?_) (fun h1 => ?_)
        · walk_at "r"
          intro vh3 g5 g6
          walk_at "r"
          refine hold ⟨_, _, _, _, _, _, rfl, g5, by omega, fun o => by rw [g6, g4, g2]⟩
        · walk_at "r"
          refine hold ⟨_, _, _, _, _, _, rfl, g3, by omega, fun o => by rw [g4, g2]⟩
      · walk_at "r"
        refine hold ⟨_, _, _, _, _, _, rfl, ho, ha, fun _ => rfl⟩
    · walk_at "r"
      refine hold ⟨_, _, _, _, _, _, rfl, ho, ha, fun _ => rfl⟩
  · rintro _ vh1 ⟨sl, cs, a, b, c, d, rfl, ho1, ha, hs⟩
    walk_at "r"
    refine p_dec (fun h1 => ?_) (fun h1 => ?_)
    · walk_at "r"
      intro vh2 g1 g2
      walk_at "r"
      refine' q _ _ ⟨_, _, rfl, Int.emod_nonneg _ (by omega), Int.emod_lt_of_pos _ m0, ?_, set_eq g1 fun o => by rw [g2, hs]⟩
      exact ⟨_, _, _, _, _, rfl, ha⟩
    · walk_at "r"
      intro vh2 g1 g2
      walk_at "r"
      refine' q _ _ ⟨_, _, rfl, Int.emod_nonneg _ (by omega), Int.emod_lt_of_pos _ m0, ?_, set_eq g1 fun o => by rw [g2, hs]⟩
      exact ⟨_, _, _, _, _, rfl, ha⟩
theorem zip_same : ∀ xs : List D, List.zipWith (fun x y => D.tup [x, y]) xs xs = xs.map fun x => D.tup [x, x]
  | [] => rfl
  | x :: xs => by rw [List.zipWith_cons_cons, zip_same xs, List.map_cons]
theorem ex_Z {vh : VH} {n : Nat} {xs ys : List D} {F : List D → Prop} (h : vh[n]? = some (.lst xs)) (q : F (List.zipWith (fun x y => D.tup [x, y]) ys xs)) : ∃ items, itemsV .zipS vh [.lst ys, .ref n] = some items ∧ F items := by
  refine ⟨_, ?_, q⟩
  have e : drf vh (.ref n) = .lst xs := by
    unfold drf
    dsimp only
    rw [h]
  show itemsD .zip [.lst ys, drf vh (.ref n)] = _
  rw [e]
  rfl
theorem k_law_is_none : ∀ ds vh R, ¬ (PhiL 0 "_law_is").run ds vh R := fun _ _ _ h => h
theorem all_same {xs : List D} : (xs.map fun _ => true).all id = true := by simp
theorem k_law_is (n : Nat) : Sat (PhiL n) Gam ir__law_is tc__law_is.N ["told", "due"] (s__law_is (n + 1)) := by
  refine sat_specV (fun _ => rfl) ?_
  rintro ⟨d, e⟩ vh R ⟨hd, he⟩ q
  dsimp only at hd he q
  show wpB (PhiL n) Gam ir__law_is _ _ [.val d, .val e, .no, .no, .no] vh
  unfold ir__law_is
  rcases he with rfl | ⟨m, xs, rfl, hm, rfl⟩
  · cases e with
    | non =>
      walk_at "r"
      exact q
    | bl b =>
      walk_at "r"
      rw [show eqD (D.bl b) (D.bl b) = true from eqD_refl 64 _ rfl]
      exact q
    | int i =>
      walk_at "r"
      rw [decide_eq_true rfl]
      exact q
    | str x =>
      have hd : PyData.canLay0 (.str x) = true := by cases n <;> exact hd
      walk_at "r"
      · rw [show eqD (D.str x) (D.str x) = true from eqD_refl 64 _ hd]
        exact q
      · exact hd
      · exact hd
    | tup xs =>
      cases n with
      | zero => cases hd
      | succ n =>
        have hd : (decide (xs.length ≤ 16777216) && xs.all (plD n)) = true := hd
        rw [Bool.and_eq_true] at hd
        obtain ⟨hz, hd⟩ := hd
        have hz := of_decide_eq_true hz
        walk_at "r"
        refine p_d rfl ?_
        walk_at "r"
        rw [zip_same]
        refine lc_map (fun _ => .bl true) _ _ _ (fun d hd2 R q => ?_) ?_ ?_
        · obtain ⟨x, hx, rfl⟩ := List.mem_map.mp hd2
          refine ⟨fun _ _ => rfl, ?_⟩
          walk_at "r"
          refine c__law_is rfl (List.all_eq_true.mp hd x hx) ?_
          walk_at "r"
          exact q
        · rw [List.length_map]
          simpa using hz
        · refine ⟨fun _ _ => rfl, ?_⟩
          walk_at "r"
          refine f_all (bs := xs.map fun _ => true) (by simp) ?_
          (rw [all_same]; try rfl)
          exact q
    | lst xs =>
      cases n with
      | zero => cases hd
      | succ n =>
        have hd : (decide (xs.length ≤ 16777216) && xs.all (plD n)) = true := hd
        rw [Bool.and_eq_true] at hd
        obtain ⟨hz, hd⟩ := hd
        have hz := of_decide_eq_true hz
        walk_at "r"
        refine p_d rfl ?_
        walk_at "r"
        rw [zip_same]
        refine lc_map (fun _ => .bl true) _ _ _ (fun d hd2 R q => ?_) ?_ ?_
        · obtain ⟨x, hx, rfl⟩ := List.mem_map.mp hd2
          refine ⟨fun _ _ => rfl, ?_⟩
          walk_at "r"
          refine c__law_is rfl (List.all_eq_true.mp hd x hx) ?_
          walk_at "r"
          exact q
        · rw [List.length_map]
          simpa using hz
        · refine ⟨fun _ _ => rfl, ?_⟩
          walk_at "r"
          refine f_all (bs := xs.map fun _ => true) (by simp) ?_
          (rw [all_same]; try rfl)
          exact q
    | _ => cases n <;> cases hd
  · cases n with
    | zero => cases hd
    | succ n =>
      have hd : (decide (xs.length ≤ 16777216) && xs.all (plD n)) = true := hd
      rw [Bool.and_eq_true] at hd
      obtain ⟨hz, hd⟩ := hd
      have hz := of_decide_eq_true hz
      walk_at "r"
      refine p_d rfl ?_
      walk_at "r"
      refine ex_Z hm ?_
      walk_at "r"
      rw [zip_same]
      refine lc_map (fun _ => .bl true) _ _ _ (fun d hd2 R q => ?_) ?_ ?_
      · obtain ⟨x, hx, rfl⟩ := List.mem_map.mp hd2
        refine ⟨fun _ _ => rfl, ?_⟩
        walk_at "r"
        refine c__law_is rfl (List.all_eq_true.mp hd x hx) ?_
        walk_at "r"
        exact q
      · rw [List.length_map]
        simpa using hz
      · refine ⟨fun _ _ => rfl, ?_⟩
        walk_at "r"
        refine f_all (bs := xs.map fun _ => true) (by simp) ?_
        (rw [all_same]; try rfl)
        exact q
theorem fx_trans {n : Nat} {a b c : VH} (h1 : Fx n a b) (h2 : Fx n b c) : Fx n a c := ⟨h2.1.trans h1.1, fun j e => (h2.2 j e).trans (h1.2 j e)⟩
theorem ref_cons {qs : List Nat} {i : Nat} {d : D} {ds : List D} (h : d :: ds = (qs.drop i).map D.ref) : ∃ q, qs[i]? = some q ∧ i < qs.length ∧ d = .ref q ∧ ds = (qs.drop (i + 1)).map D.ref := by
  have hi : i < qs.length := by
    have := congrArg List.length h
    simp at this
    omega
  rw [List.drop_eq_getElem_cons hi, List.map_cons] at h
  obtain ⟨h1, h2⟩ := List.cons.inj h
  exact ⟨qs[i], List.getElem?_eq_getElem hi, hi, h1, h2⟩
theorem ref_nil {qs : List Nat} {i : Nat} (h : [] = (qs.drop i).map D.ref) : qs.length ≤ i := by
  have := congrArg List.length h
  simp at this
  omega
theorem IsSt.at_ {a : SR} {ss : List Seat} {done : List D} {vh : VH} (h : IsSt a ss done vh) {i q : Nat} (hq : a.qs[i]? = some q) : ∃ t s, a.ts[i]? = some t ∧ ss[i]? = some s ∧ SeatS q t s vh := by
  have hl := (List.getElem?_eq_some_iff.mp hq).1
  have l1 : i < ss.length := by rw [← h.lq]; exact hl
  have l2 : i < a.ts.length := by rw [h.lt]; exact l1
  exact ⟨a.ts[i], ss[i], List.getElem?_eq_getElem l2, List.getElem?_eq_getElem l1, h.st i q _ _ hq (List.getElem?_eq_getElem l2) (List.getElem?_eq_getElem l1)⟩
theorem k_law_end : Sat Phi Gam ir__law_end tc__law_end.N ["seat"] s__law_end := by
  refine sat_specV (fun _ => rfl) ?_
  rintro ⟨n, t, s⟩ vh R ⟨h1, h2⟩ q
  dsimp only at h1 h2 q
  show wpB Phi Gam ir__law_end _ _ [.val (.ref n)] vh
  unfold ir__law_end
  walk_at "r"
  rw [List.length_map]
  have e1 : (s.b : Int) + (s.t.length : Int) = ((s.e : Nat) : Int) := by unfold Seat.e; omega
  rw [e1]
  exact q
theorem k_law_settled : Sat Phi Gam ir__law_settled tc__law_settled.N ["seats"] s__law_settled := by
  refine sat_specV (fun _ => rfl) ?_
  rintro ⟨a, ss, done⟩ vh R ⟨h, g⟩ q
  dsimp only at h g q
  show wpB Phi Gam ir__law_settled _ _ [.val (.ref a.m), .no, .no, .no] vh
  unfold ir__law_settled
  have hm := h.mm
  have hlq := h.lq
  have hg := g.2.1
  have hg1 := g.1
  refine b_cut (fun e h => h = vh ∧ e = [.val (.ref a.m), .val (.lst ((opn ss).map fun (n : Nat) => D.int (n : Int))), .no, .no]) ?_ ?_
  · walk_at "r"
    refine lc_rule (fun rest h acc => h = vh ∧ ∃ i, i ≤ ss.length ∧ rest = (a.qs.drop i).map D.ref ∧ acc = (opn (ss.take i)).map fun (n : Nat) => D.int (n : Int)) ?_ ?_ _ _ _ ⟨rfl, 0, Nat.zero_le _, rfl, rfl⟩
    · rintro _ _ ⟨rfl, i, hi, hr, rfl⟩
      have := ref_nil hr
      have ei : i = ss.length := by omega
      subst ei
      refine ⟨stl_1 rfl, ?_⟩
      walk_at "r"
      rw [List.take_length]
      exact hold ⟨rfl, rfl⟩
    · rintro d ds _ _ ⟨rfl, i, hi, hr, rfl⟩ ih
      obtain ⟨p, hq, hi2, rfl, hr2⟩ := ref_cons hr
      obtain ⟨t, s, ht, e, hs1, hs2⟩ := h.at_ hq
      have ol : (opn (ss.take i)).length ≤ 4 := by
        unfold opn
        rw [List.length_map]
        have := List.length_filter_le (fun s : Seat => decide (s.w = .op)) (ss.take i)
        rw [List.length_take] at this
        omega
      refine ⟨stl_1 rfl, ?_⟩
      walk_at "r"
      rw [eqW _ .op]
      refine p_dec (fun h1 => ?_) (fun h1 => ?_)
      · walk_at "r"
        refine c__law_end ⟨hs1, hs2⟩ ?_
        walk_at "r"
        refine ⟨by rw [List.length_map]; omega, ih _ _ ⟨rfl, i + 1, by omega, hr2, ?_⟩⟩
        rw [opn_take e, if_pos h1, List.map_append]
        rfl
      · refine ih _ _ ⟨rfl, i + 1, by omega, hr2, ?_⟩
        rw [opn_take e, if_neg h1, List.append_nil]
  rintro _ vh2 ⟨hv, rfl⟩
  subst hv
  have hlo : ((opn ss).map fun (n : Nat) => D.int (n : Int)).length = (opn ss).length := List.length_map _
  walk_at "r"
  refine p_dec (fun h1 => ?_) (fun h1 => ?_)
  · walk_at "r"
    refine f_minN (by omega) fun m hm hle => ?_
    rw [stt_open hm hle] at q
    exact q
  · have h0 : opn ss = [] := List.eq_nil_of_length_eq_zero (by omega)
    walk_at "r"
    refine lc_rule (fun rest h acc => h = vh2 ∧ ∃ i, i ≤ ss.length ∧ rest = (a.qs.drop i).map D.ref ∧ acc = ((ss.take i).map Seat.e).map fun (n : Nat) => D.int (n : Int)) ?_ ?_ _ _ _ ⟨rfl, 0, Nat.zero_le _, rfl, rfl⟩
    · rintro _ _ ⟨rfl, i, hi, hr, rfl⟩
      have := ref_nil hr
      have ei : i = ss.length := by omega
      subst ei
      refine ⟨stl_1 rfl, ?_⟩
      walk_at "r"
      rw [List.take_length]
      refine f_maxN (by rw [List.length_map]; omega) fun m hm hle => ?_
      rw [stt_none h0 hm hle] at q
      exact q
    · rintro d ds _ _ ⟨rfl, i, hi, hr, rfl⟩ ih
      obtain ⟨p, hq, hi2, rfl, hr2⟩ := ref_cons hr
      obtain ⟨t, s, ht, e, hs1, hs2⟩ := h.at_ hq
      refine ⟨stl_1 rfl, ?_⟩
      walk_at "r"
      refine c__law_end ⟨hs1, hs2⟩ ?_
      walk_at "r"
      refine ⟨by rw [List.length_map, List.length_map, List.length_take]; omega, ih _ _ ⟨rfl, i + 1, by omega, hr2, ?_⟩⟩
      obtain ⟨hl, he⟩ := List.getElem?_eq_some_iff.mp e
      rw [List.take_succ_eq_append_getElem hl, List.map_append, List.map_append, he]
      rfl
theorem k_law_told_input : Sat Phi Gam ir__law_told_input tc__law_told_input.N ["seat", "tick"] s__law_told_input := by
  refine sat_specV (fun _ => rfl) ?_
  rintro ⟨n, t, s, j⟩ vh R ⟨h1, h2⟩ q
  dsimp only at h1 h2 q
  show wpB Phi Gam ir__law_told_input _ _ [.val (.ref n), .val (.int j)] vh
  unfold ir__law_told_input
  have hE : (s.e : Int) = s.b + s.t.length := by unfold Seat.e; omega
  unfold inp at q
  walk_at "r"
  rw [eqW s.w .wt]
  refine p_dec (fun h3 => ?_) (fun h3 => ?_)
  · walk_at "r"
    rw [if_pos (.inl h3)] at q
    exact q
  · walk_at "r"
    refine p_dec (fun h4 => ?_) (fun h4 => ?_)
    · walk_at "r"
      rw [if_pos (.inr h4)] at q
      exact q
    · rw [if_neg (by rintro (z | z); exact h3 z; exact h4 z)] at q
      walk_at "r"
      refine c__law_end ⟨h1, h2⟩ ?_
      walk_at "r"
      refine p_dec (fun h5 => ?_) (fun h5 => ?_)
      · rw [if_pos h5] at q
        have hk : (j - s.b).toNat < s.t.length := by omega
        rw [List.getElem?_eq_getElem hk] at q
        walk_at "r"
        have ej : j - (s.b : Int) = (((j - s.b).toNat : Nat) : Int) := by omega
        rw [ej]
        refine i_lst (at_map (List.getElem?_eq_getElem hk)) ?_
        exact q
      · rw [if_neg h5] at q
        walk_at "r"
        rw [eqW s.w .cl]
        refine p_dec (fun h4 => ?_) (fun h4 => ?_)
        · rw [if_pos h4] at q
          walk_at "r"
          exact q
        · rw [if_neg h4] at q
          walk_at "r"
          exact q
theorem k_law_number_up_to : Sat Phi Gam ir__law_number_up_to tc__law_number_up_to.N ["thing", "most"] s__law_number_up_to := by
  refine sat_specF (fun _ => rfl) ?_
  rintro ⟨d, m⟩ vh R ⟨n, hn⟩ q
  show wpB Phi Gam ir__law_number_up_to _ _ [.val d, .val (.int m)] vh
  unfold ir__law_number_up_to
  cases d <;> first
    | (cases hn; done)
    | (walk_at "r"; exact q)
    | (walk_at "r"
       refine p_dec (fun h1 => ?_) (fun h1 => ?_)
       · walk_at "r"
         simpa [h1, wIn] using q
       · simpa [h1, wIn] using q)
theorem k_law_are_inputs : Sat Phi Gam ir__law_are_inputs tc__law_are_inputs.N ["thing"] s__law_are_inputs := by
  refine sat_specF (fun _ => rfl) ?_
  rintro d vh R ⟨hd, hx⟩ q
  show wpB Phi Gam ir__law_are_inputs _ _ [.val d, .no, .no] vh
  unfold ir__law_are_inputs
  cases d with
  | tup xs =>
    obtain ⟨hl, ht⟩ := hx xs rfl
    walk_at "r"
    refine lc_map (fun d => .bl (byteD d)) _ _ _ (fun d hd R q => ?_) ?_ ?_
    · have htd := ht d hd
      walk_at "r"
      refine c__law_number_up_to htd ?_
      walk_at "r"
      exact q
    · simp
      omega
    · walk_at "r"
      refine f_all (bs := xs.map byteD) (by simp) ?_
      have e : (xs.map byteD).all id = xs.all byteD := by
        rw [List.all_map]
        rfl
      (rw [e]; try rfl)
      exact q
  | _ =>
    obtain ⟨n, hn⟩ := hd
    first
      | (cases hn; done)
      | (walk_at "r"; exact q)
theorem k_law_told_inputs : Sat Phi Gam ir__law_told_inputs tc__law_told_inputs.N ["hand"] s__law_told_inputs := by
  refine sat_spec (fun _ => rfl) ?_
  rintro n vh R h q
  show wpB Phi Gam ir__law_told_inputs _ _ [.val (.ref n), .no, .no] vh
  unfold ir__law_told_inputs
  walk_at "r"
  refine c__law_draw h (by decide) fun u vh1 u0 u1 h1 f1 => ?_
  walk_at "r"
  refine p_dec (fun h3 => ?_) (fun h3 => ?_)
  · walk_at "r"
    refine c__law_draw h1 (by decide) fun b vh2 b0 b1 h2 f2 => ?_
    walk_at "r"
    refine c__law_draw h2 (by decide) fun k vh3 k0 k1 h3 f3 => ?_
    walk_at "r"
    · rw [flat_one]
      refine q _ _ ⟨List.replicate k.toNat b, by rw [tupI, List.map_replicate], fun x hx => ?_, by rw [List.length_replicate]; omega, h3, fx_trans f1 (fx_trans f2 f3)⟩
      have := (List.mem_replicate.mp hx).2
      omega
    · simp
  · walk_at "r"
    refine c__law_draw h1 (by decide) fun k vh2 k0 k1 h2 f2 => ?_
    walk_at "r"
    refine lc_rule (fun rest h acc => Hd n h ∧ Fx n vh h ∧ ∃ bs : List Int, acc = bs.map D.int ∧ Byt bs ∧ bs.length + rest.length = k.toNat) ?_ ?_ _ _ _ ⟨h2, fx_trans f1 f2, [], rfl, fun _ h => (by cases h), by simp⟩
    · rintro vh3 _ ⟨h3, f3, bs, rfl, hb, hl⟩
      walk_at "r"
      exact q _ _ ⟨bs, rfl, hb, by simp at hl; omega, h3, f3⟩
    · rintro d2 ds2 vh3 _ ⟨h3', f3, bs, rfl, hb, hl⟩ ih2
      rw [List.length_cons] at hl
      walk_at "r"
      refine c__law_draw h3' (by decide) fun w vh4 g1 g2 h4 f4 => ?_
      walk_at "r"
      refine ⟨?_, ih2 _ _ ⟨h4, fx_trans f3 f4, bs ++ [w], by simp, fun x hx => ?_, ?_⟩⟩
      · rw [List.length_map]
        omega
      · rcases List.mem_append.mp hx with hx | hx
        · exact hb x hx
        · rw [List.mem_singleton] at hx
          omega
      · rw [List.length_append, List.length_singleton]
        omega
theorem IsSt.fx {a : SR} {ss : List Seat} {done : List D} {vh vh' : VH} {n : Nat} (h : IsSt a ss done vh) (f : Fx n vh vh') (hn : n ∉ a.all) : IsSt a ss done vh' := h.move fun j hj => f.2 j fun z => hn (by rw [← z]; exact hj)
theorem IsBk.fx {a : BR} {ss : List Seat} {done : List D} {vh vh' : VH} {n : Nat} (h : IsBk a ss done vh) (f : Fx n vh vh') (hn : n ∉ a.all) : IsBk a ss done vh' := h.move fun j hj => f.2 j fun z => hn (by rw [← z]; exact hj)
theorem fx_refl {n : Nat} {vh : VH} : Fx n vh vh := ⟨rfl, fun _ _ => rfl⟩
theorem th_row {bs : List Int} (h : bs.length ≤ 400) : Th (tupI bs) := ⟨⟨_, rfl⟩, fun xs e => by
  injection e with e
  subst e
  refine ⟨by rw [List.length_map]; exact h, fun x hx => ?_⟩
  obtain ⟨b, _, rfl⟩ := List.mem_map.mp hx
  exact ⟨_, rfl⟩⟩
theorem th_tup {xs : List D} (h : xs.length ≤ 400) (h2 : ∀ x, x ∈ xs → Ty x) : Th (.tup xs) := ⟨⟨_, rfl⟩, fun ys e => by
  injection e with e
  subst e
  exact ⟨h, h2⟩⟩
theorem th_not {d : D} (h : Ty d) (h2 : ∀ xs, d ≠ .tup xs) : Th d := ⟨h, fun xs e => absurd e (h2 xs)⟩
theorem ty_ints {bs : List Int} {x : D} (h : x ∈ bs.map D.int) : Ty x := by
  obtain ⟨b, _, rfl⟩ := List.mem_map.mp h
  exact ⟨_, rfl⟩
theorem k_law_book_deed : Sat Phi Gam ir__law_book_deed tc__law_book_deed.N ["hand", "seats"] s__law_book_deed := by
  refine sat_spec (fun _ => rfl) ?_
  rintro ⟨n, a, ss, done⟩ vh R ⟨hd, ⟨hs, g⟩, hn⟩ q
  dsimp only at hd hs g hn q
  show wpB Phi Gam ir__law_book_deed _ _ [.val (.ref n), .val (.ref a.m), .no, .no, .no, .no, .no, .no, .no] vh
  unfold ir__law_book_deed
  have e19 : (10 : Int) ^ (Int.toNat 19) = 10000000000000000000 := by decide
  have e18 : (10 : Int) ^ (Int.toNat 18) = 1000000000000000000 := by decide
  have hlq := hs.lq
  have g1 := g.1
  have g2 := g.2.1
  have hstt := stt_le g
  have done_ : ∀ (dd : Dd) (h' : VH), dd.Ok → Hd n h' → Fx n vh h' → R (.ok (.v dd.d)) h' := fun dd h' k1 k2 k3 => q _ _ ⟨dd, rfl, k1, k2, k3⟩
  refine b_cut (fun e h => Hd n h ∧ Fx n vh h ∧ ∃ k : Nat, k < ss.length ∧ e = [.val (.ref n), .val (.ref a.m), .val (.int k), .no, .no, .no, .no, .no, .no]) ?_ ?_
  · have hm := hs.mm
    walk_at "r"
    rw [List.length_map]
    refine c__law_draw hd (by omega) fun u vh1 u0 u1 h1 f1 => ?_
    refine hold ⟨h1, f1, u.toNat, by omega, ?_⟩
    rw [Int.toNat_of_nonneg u0]
    rfl
  rintro _ vh1 ⟨h1, f1, k, hk, rfl⟩
  obtain ⟨p, hp⟩ : ∃ p, a.qs[k]? = some p := ⟨_, List.getElem?_eq_getElem (by omega)⟩
  refine b_cut (fun e h => h = vh1 ∧ e = [.val (.ref n), .val (.ref a.m), .val (.int k), .val (.int k), .no, .no, .no, .no, .no]) ?_ ?_
  · walk_at "r"
    exact hold ⟨rfl, rfl⟩
  rintro _ vh1' ⟨hv, rfl⟩
  subst hv
  refine b_cut (fun e h => Hd n h ∧ Fx n vh h ∧ ∃ s : D, Ty s ∧ e = [.val (.ref n), .val (.ref a.m), .val (.int k), .val s, .no, .no, .no, .no, .no]) ?_ ?_
  · walk_at "r"
    refine c__law_draw h1 (by decide) fun u vh2 u0 u1 h2 f2 => ?_
    have hm := (hs.fx (fx_trans f1 f2) hn).mm
    walk_at "r"
    refine p_dec (fun h3 => ?_) (fun h3 => ?_)
    · walk_at "r"
      refine c__law_draw h2 (by decide) fun w vh3 w0 w1 h3 f3 => ?_
      obtain ⟨d, hd, hmm⟩ := atI_ok (xs := [D.int ((a.qs.map D.ref).length : Int), .int (-1), .bl true, .non, .int (10 ^ (Int.toNat 19))]) w0 w1
      walk_at "r"
      refine i_lst hd ?_
      refine hold ⟨h3, fx_trans f1 (fx_trans f2 f3), d, ?_, rfl⟩
      simp only [List.mem_cons, List.not_mem_nil, or_false] at hmm
      rcases hmm with rfl | rfl | rfl | rfl | rfl <;> exact ⟨_, rfl⟩
    · walk_at "r"
      exact hold ⟨h2, fx_trans f1 f2, _, ⟨_, rfl⟩, rfl⟩
  rintro _ vh2 ⟨h2, f2, s, hsd, rfl⟩
  refine b_cut (fun e h => h = vh2 ∧ e = [.val (.ref n), .val (.ref a.m), .val (.int k), .val s, .val (.int (stt ss)), .no, .no, .no, .no]) ?_ ?_
  · walk_at "r"
    refine c__law_settled (hs.fx f2 hn) g ?_
    exact hold ⟨rfl, rfl⟩
  rintro _ vh2' ⟨hv, rfl⟩
  subst hv
  refine b_cut (fun e h => Hd n h ∧ Fx n vh h ∧ ∃ w : Int, e = [.val (.ref n), .val (.ref a.m), .val (.int k), .val s, .val (.int (stt ss)), .val (.int w), .no, .no, .no]) ?_ ?_
  · walk_at "r"
    refine c__law_draw h2 (by decide) fun u vh3 u0 u1 h3 f3 => ?_
    exact hold ⟨h3, fx_trans f2 f3, u, rfl⟩
  rintro _ vh3 ⟨h3, f3, w, rfl⟩
  refine b_cut (fun e h => Hd n h ∧ Fx n vh h ∧ ∃ kd : Int, e = [.val (.ref n), .val (.ref a.m), .val (.int k), .val s, .val (.int (stt ss)), .val (.int w), .val (.int kd), .no, .no]) ?_ ?_
  · walk_at "r"
    refine c__law_draw h3 (by decide) fun u vh4 u0 u1 h4 f4 => ?_
    exact hold ⟨h4, fx_trans f3 f4, u, rfl⟩
  rintro _ vh4 ⟨h4, f4, kd, rfl⟩
  have hs4 := hs.fx f4 hn
  have hm := hs4.mm
  obtain ⟨t, se, ht, e, hs1, hs2⟩ := hs4.at_ hp
  walk_at "r"
  refine p_dec (fun k1 => ?_) (fun k1 => ?_)
  · walk_at "r"
    exact done_ (.cl s) _ hsd h4 f4
  -- an opening
  have opening : ∀ V : VEnds, (∀ x h, V.rt x h = R (.ok x) h) → wpB Phi Gam [.set 7 (.blt .max2 [(.int 0), (.bin .Add (.bin .Add (.bor 4) (.idx (.lst [(.int 0), (.int 0), (.int 1), (.neg (.int 1)), (.int 9), (.bin .Sub (.int 99990) (.bor 4))]) (.call "_law_draw" [(.var 0), (.int 6)]))) (.call "_law_draw" [(.var 0), (.int 4)]))]), .cond (.cmp .Eq (.bor 5) (.int 0)) [.set 7 (.idx (.lst [(.neg (.int 1)), (.int 100001), (.bl false), .non, (.bin .Pow (.int 10) (.int 18))]) (.call "_law_draw" [(.var 0), (.int 5)]))] [], .ret (.tup [(.str "open"), (.var 3), (.var 7)])] (fun c xs _ vh => R (.exc c xs) vh) V [.val (.ref n), .val (.ref a.m), .val (.int k), .val s, .val (.int (stt ss)), .val (.int w), .val (.int kd), .no, .no] vh4 := by
    rintro ⟨nx, rt, bk, ct⟩ hV
    have hV : ∀ x h, rt x h = R (.ok x) h := hV
    refine b_cut (fun e h => Hd n h ∧ Fx n vh h ∧ ∃ t : Int, e = [.val (.ref n), .val (.ref a.m), .val (.int k), .val s, .val (.int (stt ss)), .val (.int w), .val (.int kd), .val (.int t), .no]) ?_ ?_
    · walk_at "r"
      refine c__law_draw h4 (by decide) fun u vh5 u0 u1 h5 f5 => ?_
      obtain ⟨d, hd, hmm⟩ := atI_ok (xs := [D.int 0, .int 0, .int 1, .int (-1), .int 9, .int (99990 - (stt ss : Int))]) u0 u1
      obtain ⟨z, rfl⟩ : ∃ z, d = D.int z := by
        simp only [List.mem_cons, List.not_mem_nil, or_false] at hmm
        rcases hmm with rfl | rfl | rfl | rfl | rfl | rfl <;> exact ⟨_, rfl⟩
      walk_at "r"
      refine i_lst hd ?_
      walk_at "r"
      refine c__law_draw h5 (by decide) fun v vh6 v0 v1 h6 f6 => ?_
      walk_at "r"
      exact hold ⟨h6, fx_trans f4 (fx_trans f5 f6), _, rfl⟩
    rintro _ vh5 ⟨h5, f5, t, rfl⟩
    refine b_cut (fun e h => Hd n h ∧ Fx n vh h ∧ ∃ t : D, Ty t ∧ e = [.val (.ref n), .val (.ref a.m), .val (.int k), .val s, .val (.int (stt ss)), .val (.int w), .val (.int kd), .val t, .no]) ?_ ?_
    · walk_at "r"
      refine p_dec (fun k3 => ?_) (fun k3 => ?_)
      · walk_at "r"
        refine c__law_draw h5 (by decide) fun u vh6 u0 u1 h6 f6 => ?_
        obtain ⟨d, hd, hmm⟩ := atI_ok (xs := [D.int (-1), .int 100001, .bl false, .non, .int (10 ^ (Int.toNat 18))]) u0 u1
        walk_at "r"
        refine i_lst hd ?_
        refine hold ⟨h6, fx_trans f5 f6, d, ?_, rfl⟩
        simp only [List.mem_cons, List.not_mem_nil, or_false] at hmm
        rcases hmm with rfl | rfl | rfl | rfl | rfl <;> exact ⟨_, rfl⟩
      · walk_at "r"
        exact hold ⟨h5, f5, _, ⟨_, rfl⟩, rfl⟩
    rintro _ vh6 ⟨h6, f6, t, ht, rfl⟩
    walk_at "r"
    rw [hV]
    exact done_ (.op s t) _ ⟨hsd, ht⟩ h6 f6
  walk_at "r"
  refine p_dec (fun k2 => ?_) (fun k2 => ?_)
  · refine ⟨_, rfl, ?_⟩
    refine opening _ ?_
    exact fun _ _ => rfl
  walk_at "r"
  refine i_lst (at_map hp) ?_
  walk_at "r"
  rw [eqW se.w .wt]
  refine p_dec (fun k3 => ?_) (fun k3 => ?_)
  · refine opening _ ?_
    exact fun _ _ => rfl
  refine b_cut (fun e h => Hd n h ∧ Fx n vh h ∧ ∃ t : Int, e = [.val (.ref n), .val (.ref a.m), .val (.int k), .val s, .val (.int (stt ss)), .val (.int w), .val (.int kd), .val (.int t), .no]) ?_ ?_
  · walk_at "r"
    refine i_lst (at_map hp) ?_
    walk_at "r"
    refine c__law_end ⟨hs1, hs2⟩ ?_
    walk_at "r"
    refine c__law_draw h4 (by decide) fun u vh5 u0 u1 h5 f5 => ?_
    obtain ⟨d, hd, hmm⟩ := atI_ok (xs := [D.int 0, .int 0, .int 0, .int 1, .int 3, .int 50, .int (-1), .int 100000]) u0 u1
    obtain ⟨z, rfl⟩ : ∃ z, d = D.int z := by
      simp only [List.mem_cons, List.not_mem_nil, or_false] at hmm
      rcases hmm with rfl | rfl | rfl | rfl | rfl | rfl | rfl | rfl <;> exact ⟨_, rfl⟩
    walk_at "r"
    refine i_lst hd ?_
    walk_at "r"
    exact hold ⟨h5, fx_trans f4 f5, _, rfl⟩
  rintro _ vh5 ⟨h5, f5, t, rfl⟩
  refine b_cut (fun e h => Hd n h ∧ Fx n vh h ∧ ∃ t : D, Ty t ∧ e = [.val (.ref n), .val (.ref a.m), .val (.int k), .val s, .val (.int (stt ss)), .val (.int w), .val (.int kd), .val t, .no]) ?_ ?_
  · walk_at "r"
    refine p_dec (fun k3 => ?_) (fun k3 => ?_)
    · walk_at "r"
      refine c__law_draw h5 (by decide) fun u vh6 u0 u1 h6 f6 => ?_
      obtain ⟨d, hd, hmm⟩ := atI_ok (xs := [D.int (-1), .int 100001, .bl true, .non]) u0 u1
      walk_at "r"
      refine i_lst hd ?_
      refine hold ⟨h6, fx_trans f5 f6, d, ?_, rfl⟩
      simp only [List.mem_cons, List.not_mem_nil, or_false] at hmm
      rcases hmm with rfl | rfl | rfl | rfl <;> exact ⟨_, rfl⟩
    · walk_at "r"
      exact hold ⟨h5, f5, _, ⟨_, rfl⟩, rfl⟩
  rintro _ vh6 ⟨h6, f6, t, htt, rfl⟩
  refine b_cut (fun e h => Hd n h ∧ Fx n vh h ∧ ∃ bs : List Int, bs.length ≤ 300 ∧ e = [.val (.ref n), .val (.ref a.m), .val (.int k), .val s, .val (.int (stt ss)), .val (.int w), .val (.int kd), .val t, .val (tupI bs)]) ?_ ?_
  · walk_at "r"
    refine c__law_told_inputs h6 fun bs vh7 b1 b2 h7 f7 => ?_
    exact hold ⟨h7, fx_trans f6 f7, bs, b2, rfl⟩
  rintro _ vh7 ⟨h7, f7, bs, hbl, rfl⟩
  have hlm : (bs.map D.int).length = bs.length := List.length_map _
  refine b_cut (fun e h => Hd n h ∧ Fx n vh h ∧ ∃ i : D, Th i ∧ e = [.val (.ref n), .val (.ref a.m), .val (.int k), .val s, .val (.int (stt ss)), .val (.int w), .val (.int kd), .val t, .val i]) ?_ ?_
  · walk_at "r"
    refine p_dec (fun k3 => ?_) (fun k3 => ?_)
    · walk_at "r"
      · refine c__law_draw h7 (by decide) fun u vh8 u0 u1 h8 f8 => ?_
        obtain ⟨d, hd, hmm⟩ := atI_ok (xs := [D.lst (bs.map D.int), .tup (bs.map D.int ++ [.int 256]), .tup ([.bl true] ++ bs.map D.int), .non, .tup (bs.map D.int ++ [.int (-1)]), .str "a"]) u0 u1
        walk_at "r"
        refine i_lst hd ?_
        refine hold ⟨h8, fx_trans f7 f8, d, ?_, rfl⟩
        simp only [List.mem_cons, List.not_mem_nil, or_false] at hmm
        rcases hmm with rfl | rfl | rfl | rfl | rfl | rfl
        · exact th_not ⟨_, rfl⟩ fun xs e => (by cases e)
        · refine th_tup (by rw [List.length_append, hlm]; show _ + 1 ≤ _; omega) fun x hx => ?_
          rcases List.mem_append.mp hx with hx | hx
          · exact ty_ints hx
          · rw [List.mem_singleton] at hx
            subst hx
            exact ⟨_, rfl⟩
        · refine th_tup (by rw [List.length_append, hlm]; show 1 + _ ≤ _; omega) fun x hx => ?_
          rcases List.mem_append.mp hx with hx | hx
          · rw [List.mem_singleton] at hx
            subst hx
            exact ⟨_, rfl⟩
          · exact ty_ints hx
        · exact th_not ⟨_, rfl⟩ fun xs e => (by cases e)
        · refine th_tup (by rw [List.length_append, hlm]; show _ + 1 ≤ _; omega) fun x hx => ?_
          rcases List.mem_append.mp hx with hx | hx
          · exact ty_ints hx
          · rw [List.mem_singleton] at hx
            subst hx
            exact ⟨_, rfl⟩
        · exact th_not ⟨_, rfl⟩ fun xs e => (by cases e)
      all_goals (simp; omega)
    · walk_at "r"
      exact hold ⟨h7, f7, _, th_row (by omega), rfl⟩
  rintro _ vh8 ⟨h8, f8, i, hi, rfl⟩
  walk_at "r"
  exact done_ (.te s t i) _ ⟨hsd, htt, hi⟩ h8 f8
theorem IsSt.ne {a : SR} {ss : List Seat} {done : List D} {vh : VH} (h : IsSt a ss done vh) : a.m ≠ a.md ∧ (∀ q, q ∈ a.qs → q ≠ a.m ∧ q ≠ a.md) ∧ (∀ q, q ∈ a.ts → q ≠ a.m ∧ q ≠ a.md) ∧ a.qs.Nodup ∧ a.ts.Nodup ∧ ∀ p, p ∈ a.qs → ∀ t, t ∈ a.ts → p ≠ t := by
  have := h.nd
  unfold SR.all at this
  simp only [List.nodup_cons, List.mem_cons, List.mem_append, not_or, List.nodup_append] at this
  obtain ⟨⟨a1, a2, a3⟩, ⟨b1, b2⟩, c1, c2, c3⟩ := this
  exact ⟨a1, fun q hq => ⟨fun z => a2 (by rw [← z]; exact hq), fun z => b1 (by rw [← z]; exact hq)⟩, fun q hq => ⟨fun z => a3 (by rw [← z]; exact hq), fun z => b2 (by rw [← z]; exact hq)⟩, c1, c2, c3⟩
theorem IsSt.upd {a : SR} {ss : List Seat} {done done' : List D} {vh vh' : VH} {k p t : Nat} {s' : Seat} (h : IsSt a ss done vh) (hp : a.qs[k]? = some p) (ht : a.ts[k]? = some t) (g1 : SeatS p t s' vh') (g2 : vh'[a.md]? = some (.lst done')) (off : ∀ j, j ≠ p → j ≠ t → j ≠ a.md → vh'[j]? = vh[j]?) : IsSt a (ss.set k s') done' vh' := by
  obtain ⟨n1, n2, n3, n4, n5, n6⟩ := h.ne
  have mp := List.mem_of_getElem? hp
  have mt := List.mem_of_getElem? ht
  have hk : k < ss.length := by rw [← h.lq]; exact (List.getElem?_eq_some_iff.mp hp).1
  refine ⟨?_, g2, by rw [List.length_set]; exact h.lq, by rw [List.length_set]; exact h.lt, fun i q u s h1 h2 h3 => ?_, h.nd⟩
  · exact (off _ (Ne.symm (n2 p mp).1) (Ne.symm (n3 t mt).1) n1).trans h.mm
  · by_cases ei : i = k
    · subst ei
      rw [hp] at h1
      rw [ht] at h2
      cases h1
      cases h2
      rw [List.getElem?_set_self hk] at h3
      cases h3
      exact g1
    · rw [List.getElem?_set_ne (Ne.symm ei)] at h3
      obtain ⟨c1, c2⟩ := h.st i q u s h1 h2 h3
      have mq := List.mem_of_getElem? h1
      have mu := List.mem_of_getElem? h2
      exact ⟨(off q (fun z => ei (nodup_at n4 h1 (by rw [z]; exact hp))) (n6 q mq t mt) (n2 q mq).2).trans c1, (off u (Ne.symm (n6 p mp u mu)) (fun z => ei (nodup_at n5 h2 (by rw [z]; exact ht))) (n3 u mu).2).trans c2⟩
theorem fx_of {n : Nat} {vh vh1 : VH} {o : VO} (g1 : vh1[n]? = some o) (g2 : ∀ o, vh1.set n o = vh.set n o) : Fx n vh vh1 := by
  rw [set_eq g1 g2]
  exact fx_set
theorem oo : eqD (.str "open") (.str "open") = true := by decide +kernel
theorem co : eqD (.str "close") (.str "open") = false := by decide +kernel
theorem to_ : eqD (.str "tell") (.str "open") = false := by decide +kernel
theorem cc : eqD (.str "close") (.str "close") = true := by decide +kernel
theorem tc_ : eqD (.str "tell") (.str "close") = false := by decide +kernel
theorem okL1 : okD 64 (DV.v (.str "open")).d = true := by decide +kernel
theorem okL2 : okD 64 (DV.v (.str "close")).d = true := by decide +kernel
theorem okL3 : okD 64 (DV.v (.str "tell")).d = true := by decide +kernel
local macro_rules | `(tactic| walk_at "ok1") => `(tactic| first
  | with_reducible exact okL1 | with_reducible exact okL2 | with_reducible exact okL3)
theorem k_law_account : Sat Phi Gam ir__law_account tc__law_account.N ["seats", "done", "deed"] s__law_account := by
  refine sat_spec (fun _ => rfl) ?_
  rintro ⟨⟨a, ss, done⟩, dd⟩ vh R ⟨⟨h, g⟩, hl, hok⟩ q
  dsimp only at h g hl hok
  show wpB Phi Gam ir__law_account _ _ [.val (.ref a.m), .val (.ref a.md), .val dd.d, .no, .no, .no] vh
  unfold ir__law_account
  have no : ∀ w, step ss done dd = (ss, done, .ref w) → R (.ok (.v (.tup [.str "refused", .str w]))) vh := fun w e => q _ _ ⟨by dsimp only; rw [e], by dsimp only; rw [e]; exact h, FxS.refl⟩
  have hm := h.mm
  have hd := h.dn
  have hlq : (a.qs.map D.ref).length = ss.length := by rw [List.length_map]; exact h.lq
  obtain ⟨n1, n2, n3, n4, n5, n6⟩ := h.ne
  cases dd with
  | op s t =>
    obtain ⟨hs, ht⟩ := hok
    walk_at "r"
    rw [hlq]
    refine c__law_number_up_to hs ?_
    rw [← seatAt_is]
    cases e : seatAt ss s with
    | none =>
      simp only [Option.isSome_none]
      walk_at "r"
      exact no "seat" (by unfold step; dsimp only; rw [e])
    | some p =>
      obtain ⟨k, se⟩ := p
      obtain ⟨rfl, e1, e2⟩ := seatAt_ok e
      obtain ⟨p, hp⟩ : ∃ p, a.qs[k]? = some p := ⟨_, List.getElem?_eq_getElem (by rw [h.lq]; exact e2)⟩
      obtain ⟨u, se', hu, e', hs1, hs2⟩ := h.at_ hp
      rw [e1] at e'
      cases e'
      simp only [Option.isSome_some]
      walk_at "r"
      refine i_lst (at_map hp) ?_
      walk_at "r"
      rw [oo]
      walk_at "r"
      rw [eqW _ .wt]
      refine p_ndec (fun h1 => ?_) (fun h1 => ?_)
      · walk_at "r"
        exact no "waiting" (by unfold step; dsimp only; rw [e]; dsimp only; rw [if_pos h1])
      · have st_tick : wIn t (stt ss) 100000 = false → step ss done (.op (.int k) t) = (ss, done, .ref "tick") := fun z => by unfold step; dsimp only; rw [e]; dsimp only; rw [if_neg (by simpa using h1), if_pos z]
        walk_at "r"
        refine c__law_number_up_to ht ?_
        cases e3 : wIn t 0 100000 with
        | false =>
          walk_at "r"
          refine no "tick" (st_tick ?_)
          cases t with
          | int i =>
            have e3 : decide (0 ≤ i ∧ i ≤ 100000) = false := e3
            have e3 := of_decide_eq_false e3
            show decide _ = false
            exact decide_eq_false (by omega)
          | _ => rfl
        | true =>
          obtain ⟨i, rfl, i0, i1⟩ := wIn_int e3
          walk_at "r"
          refine c__law_settled h g ?_
          walk_at "r"
          refine p_dec (fun h2 => ?_) (fun h2 => ?_)
          · walk_at "r"
            refine no "tick" (st_tick ?_)
            show decide _ = false
            exact decide_eq_false (by omega)
          · have es : step ss done (.op (.int k) (.int i)) = (ss.set k ⟨.op, i.toNat, se.t⟩, done ++ [.tup [.str "open", .int k, .int i]], .told .non) := by
              have e4 : wIn (.int i) (stt ss) 100000 = true := decide_eq_true (by omega)
              unfold step
              dsimp only
              rw [e]
              dsimp only
              rw [if_neg (by simpa using h1), if_neg (by rw [e4]; exact Bool.noConfusion)]
            walk_at "r"
            intro vh1 g1 g2
            walk_at "r"
            intro vh2 g3 g4
            have f1 := fx_of g1 g2
            have f2 := fx_of g3 g4
            have mp := List.mem_of_getElem? hp
            have mu := List.mem_of_getElem? hu
            have hd2 := ((f2.2 _ (Ne.symm (n2 p mp).2)).trans (f1.2 _ (Ne.symm (n2 p mp).2))).trans hd
            walk_at "r"
            refine ⟨ls_R rfl hd2, ?_⟩
            walk_at "r"
            refine w_appR rfl hd2 (by omega) fun vh3 g5 f3 => ?_
            walk_at "r"
            have off : ∀ j, j ≠ p → j ≠ a.md → vh3[j]? = vh[j]? := fun j j1 j2 => ((f3.2 j j2).trans (f2.2 j j1)).trans (f1.2 j j1)
            refine q _ _ ⟨by dsimp only; rw [es], ?_, ?_⟩
            · dsimp only
              rw [es]
              dsimp only
              refine h.upd hp hu ⟨?_, (off u (Ne.symm (n6 p mp u mu)) (n3 u mu).2).trans hs2⟩ g5 fun j j1 _ j3 => off j j1 j3
              refine (f3.2 _ (n2 p mp).2).trans (g3.trans ?_)
              have ei : (((i.toNat : Nat)) : Int) = i := by omega
              dsimp only
              rw [ei]
              rfl
            · exact (FxS.of f1 (by simp [SR.all, mp])).trans ((FxS.of f2 (by simp [SR.all, mp])).trans (FxS.of f3 (by simp [SR.all])))
  | cl s =>
    have hs : Ty s := hok
    walk_at "r"
    rw [hlq]
    refine c__law_number_up_to hs ?_
    rw [← seatAt_is]
    cases e : seatAt ss s with
    | none =>
      simp only [Option.isSome_none]
      walk_at "r"
      exact no "seat" (by unfold step; dsimp only; rw [e])
    | some p =>
      obtain ⟨k, se⟩ := p
      obtain ⟨rfl, e1, e2⟩ := seatAt_ok e
      obtain ⟨p, hp⟩ : ∃ p, a.qs[k]? = some p := ⟨_, List.getElem?_eq_getElem (by rw [h.lq]; exact e2)⟩
      obtain ⟨u, se', hu, e', hs1, hs2⟩ := h.at_ hp
      rw [e1] at e'
      cases e'
      simp only [Option.isSome_some]
      walk_at "r"
      refine i_lst (at_map hp) ?_
      walk_at "r"
      rw [co]
      walk_at "r"
      rw [eqW _ .op]
      refine p_ndec (fun h1 => ?_) (fun h1 => ?_)
      · walk_at "r"
        exact no "open" (by unfold step; dsimp only; rw [e]; dsimp only; rw [if_pos h1])
      · have es : step ss done (.cl (.int k)) = (ss.set k ⟨.cl, se.b, se.t⟩, done ++ [.tup [.str "close", .int k]], .told .non) := by
          unfold step
          dsimp only
          rw [e]
          dsimp only
          rw [if_neg (by simpa using h1)]
        walk_at "r"
        rw [cc]
        walk_at "r"
        intro vh1 g1 g2
        have f1 := fx_of g1 g2
        have mp := List.mem_of_getElem? hp
        have mu := List.mem_of_getElem? hu
        have hd1 := (f1.2 _ (Ne.symm (n2 p mp).2)).trans hd
        walk_at "r"
        refine ⟨ls_R rfl hd1, ?_⟩
        walk_at "r"
        refine w_appR rfl hd1 (by omega) fun vh3 g5 f3 => ?_
        walk_at "r"
        have off : ∀ j, j ≠ p → j ≠ a.md → vh3[j]? = vh[j]? := fun j j1 j2 => (f3.2 j j2).trans (f1.2 j j1)
        refine q _ _ ⟨by dsimp only; rw [es], ?_, ?_⟩
        · dsimp only
          rw [es]
          dsimp only
          refine h.upd hp hu ⟨?_, (off u (Ne.symm (n6 p mp u mu)) (n3 u mu).2).trans hs2⟩ g5 fun j j1 _ j3 => off j j1 j3
          exact (f3.2 _ (n2 p mp).2).trans g1
        · exact (FxS.of f1 (by simp [SR.all, mp])).trans (FxS.of f3 (by simp [SR.all]))
  | te s t i =>
    obtain ⟨hs, ht, hi⟩ := hok
    walk_at "r"
    rw [hlq]
    refine c__law_number_up_to hs ?_
    rw [← seatAt_is]
    cases e : seatAt ss s with
    | none =>
      simp only [Option.isSome_none]
      walk_at "r"
      exact no "seat" (by unfold step; dsimp only; rw [e])
    | some p =>
      obtain ⟨k, se⟩ := p
      obtain ⟨rfl, e1, e2⟩ := seatAt_ok e
      obtain ⟨p, hp⟩ : ∃ p, a.qs[k]? = some p := ⟨_, List.getElem?_eq_getElem (by rw [h.lq]; exact e2)⟩
      obtain ⟨u, se', hu, e', hs1, hs2⟩ := h.at_ hp
      rw [e1] at e'
      cases e'
      have hok := g.2.2 se (List.mem_of_getElem? e1)
      have hE : se.e = se.b + se.t.length := rfl
      have hE2 := hok.2.1
      simp only [Option.isSome_some]
      walk_at "r"
      refine i_lst (at_map hp) ?_
      walk_at "r"
      rw [to_]
      walk_at "r"
      rw [eqW _ .op]
      refine p_ndec (fun h1 => ?_) (fun h1 => ?_)
      · walk_at "r"
        exact no "open" (by unfold step; dsimp only; rw [e]; dsimp only; rw [if_pos h1])
      · walk_at "r"
        rw [tc_]
        walk_at "r"
        refine c__law_end ⟨hs1, hs2⟩ ?_
        walk_at "r"
        refine c__law_number_up_to ht ?_
        cases e3 : wIn t 0 100000 with
        | false =>
          walk_at "r"
          exact no "tick" (by unfold step; dsimp only; rw [e]; dsimp only; rw [if_neg (by simpa using h1), if_pos e3])
        | true =>
          obtain ⟨j, rfl, j0, j1⟩ := wIn_int e3
          walk_at "r"
          refine p_dec (fun h2 => ?_) (fun h2 => ?_)
          · walk_at "r"
            exact no "gap" (by unfold step; dsimp only; rw [e]; dsimp only; rw [if_neg (by simpa using h1), if_neg (by rw [e3]; exact Bool.noConfusion)]; (try dsimp only); rw [if_pos h2])
          · walk_at "r"
            refine c__law_are_inputs hi ?_
            cases e4 : rowD i with
            | false =>
              walk_at "r"
              exact no "inputs" (by unfold step; dsimp only; rw [e]; dsimp only; rw [if_neg (by simpa using h1), if_neg (by rw [e3]; exact Bool.noConfusion)]; (try dsimp only); rw [if_neg h2, if_pos e4])
            | true =>
              obtain ⟨bs, rfl, hbs⟩ := row_of e4
              have hbl := (hi.2 _ rfl).1
              rw [List.length_map] at hbl
              obtain ⟨N, hN⟩ : ∃ N, N = (bs.drop (se.e - j.toNat)).take (100000 - se.e) := ⟨_, rfl⟩
              have hNl : N.length ≤ 400 := by
                rw [hN, List.length_take, List.length_drop]
                omega
              have hcut : cutL (cutL (bs.map D.int) (some ((se.e : Int) - j)) none) none (some (100000 - (se.e : Int))) = N.map D.int := by
                rw [cut_drop (by omega), cut_take (by omega), hN, List.map_take, List.map_drop]
                congr 1
                · omega
                · congr 1
                  omega
              have hst : step ss done (.te (.int k) (.int j) (tupI bs)) = if N = [] then (ss, done, .told (.int 0)) else (ss.set k ⟨.op, se.b, se.t ++ N⟩, done ++ [.tup [.str "tell", .int k, .int se.e, tupI N]], .told (.int N.length)) := by
                unfold step
                dsimp only
                rw [e]
                dsimp only
                rw [if_neg (by simpa using h1), if_neg (by rw [e3]; exact Bool.noConfusion)]
                try dsimp only
                rw [if_neg h2, if_neg (by rw [e4]; exact Bool.noConfusion), ints_tup, ← hN]
              walk_at "r"
              rw [hcut]
              walk_at "r"
              refine p_dec (fun h3 => ?_) (fun h3 => ?_)
              · rw [List.length_map] at h3
                have hN0 : N ≠ [] := fun z => by rw [z] at h3; simp at h3
                rw [if_neg hN0] at hst
                have mp := List.mem_of_getElem? hp
                have mu := List.mem_of_getElem? hu
                walk_at "r"
                refine ⟨ls_D hs2, ?_⟩
                walk_at "r"
                refine w_extD hs2 (by rw [List.length_map, List.length_map]; omega) fun vh1 g1 f1 => ?_
                have hd1 := (f1.2 _ (Ne.symm (n3 u mu).2)).trans hd
                walk_at "r"
                refine ⟨ls_R rfl hd1, ?_⟩
                walk_at "r"
                refine w_appR rfl hd1 (by omega) fun vh3 g5 f3 => ?_
                walk_at "r"
                rw [List.length_map]
                have off : ∀ j, j ≠ u → j ≠ a.md → vh3[j]? = vh[j]? := fun j j1 j2 => (f3.2 j j2).trans (f1.2 j j1)
                refine q _ _ ⟨by dsimp only; rw [hst], ?_, ?_⟩
                · dsimp only
                  rw [hst]
                  dsimp only
                  refine h.upd hp hu ⟨?_, ?_⟩ g5 fun j _ j2 j3 => off j j2 j3
                  · have hw : se.w = .op := by simpa using h1
                    rw [← hw]
                    exact (off p (n6 p mp u mu) (n2 p mp).2).trans hs1
                  · rw [List.map_append]
                    exact (f3.2 _ (n3 u mu).2).trans g1
                · exact (FxS.of f1 (by simp [SR.all, mu])).trans (FxS.of f3 (by simp [SR.all]))
              · rw [List.length_map] at h3
                have hN0 : N = [] := List.eq_nil_of_length_eq_zero (by omega)
                rw [if_pos hN0] at hst
                walk_at "r"
                rw [List.length_map]
                refine q _ _ ⟨by dsimp only; rw [hst, hN0]; rfl, by dsimp only; rw [hst]; exact h, FxS.refl⟩
def Wds (w : Str) : Prop := w = "seat" ∨ w = "waiting" ∨ w = "tick" ∨ w = "open" ∨ w = "gap" ∨ w = "inputs"
theorem step_ref {ss : List Seat} {done : List D} {dd : Dd} {w : Str} (h : (step ss done dd).2.2 = .ref w) : Wds w := by
  unfold Wds
  unfold step at h
  repeat' split at h
  all_goals first
    | (injection h with h; subst h; simp; done)
    | (cases h; done)
theorem xw : xOf "seat" = "NoSeat" ∧ xOf "waiting" = "NotWaiting" ∧ xOf "tick" = "NoTick" ∧ xOf "open" = "NotOpen" ∧ xOf "gap" = "Gap" ∧ xOf "inputs" = "NoInputs" := by decide +kernel
theorem k_law_done : Sat Phi Gam ir__law_done tc__law_done.N ["book", "deed"] s__law_done := by
  refine sat_spec (fun _ => rfl) ?_
  rintro ⟨⟨r, ss, done⟩, dd⟩ vh R ⟨⟨h, g⟩, hl, hok⟩ q
  dsimp only at h g hl hok
  show wpB Phi Gam ir__law_done _ _ [.val (.ref r.n), .val dd.d, .no] vh
  unfold ir__law_done
  have hb := h.bk
  obtain ⟨x1, x2, x3, x4, x5, x6⟩ := xw
  cases dd with
  | op s t =>
    obtain ⟨hs, ht⟩ := hok
    walk_at "r"
    rw [oo]
    walk_at "r"
    refine c_open_seat h g hl hs ht fun vh' h1 h2 => ?_
    have q' := q (.v (step ss done (.op s t)).2.2.d) vh' ⟨rfl, h1, h2⟩
    have q2 := @step_ref ss done (.op s t)
    generalize (step ss done (.op s t)).2.2 = z at q' q2 ⊢
    cases z with
    | told d =>
      show callK _ _ (.ok (.v d)) vh'
      walk_at "r"
      exact q'
    | ref w =>
      rcases q2 rfl with rfl | rfl | rfl | rfl | rfl | rfl
      · show callK _ _ (.exc (xOf "seat") []) vh'
        rw [x1]
        walk_at "r"
        exact q'
      · show callK _ _ (.exc (xOf "waiting") []) vh'
        rw [x2]
        walk_at "r"
        exact q'
      · show callK _ _ (.exc (xOf "tick") []) vh'
        rw [x3]
        walk_at "r"
        exact q'
      · show callK _ _ (.exc (xOf "open") []) vh'
        rw [x4]
        walk_at "r"
        exact q'
      · show callK _ _ (.exc (xOf "gap") []) vh'
        rw [x5]
        walk_at "r"
        exact q'
      · show callK _ _ (.exc (xOf "inputs") []) vh'
        rw [x6]
        walk_at "r"
        exact q'
  | cl s =>
    have hs : Ty s := hok
    walk_at "r"
    rw [co]
    walk_at "r"
    rw [cc]
    walk_at "r"
    refine c_close_seat h g hl hs fun vh' h1 h2 => ?_
    have q' := q (.v (step ss done (.cl s)).2.2.d) vh' ⟨rfl, h1, h2⟩
    have q2 := @step_ref ss done (.cl s)
    generalize (step ss done (.cl s)).2.2 = z at q' q2 ⊢
    cases z with
    | told d =>
      show callK _ _ (.ok (.v d)) vh'
      walk_at "r"
      exact q'
    | ref w =>
      rcases q2 rfl with rfl | rfl | rfl | rfl | rfl | rfl
      · show callK _ _ (.exc (xOf "seat") []) vh'
        rw [x1]
        walk_at "r"
        exact q'
      · show callK _ _ (.exc (xOf "waiting") []) vh'
        rw [x2]
        walk_at "r"
        exact q'
      · show callK _ _ (.exc (xOf "tick") []) vh'
        rw [x3]
        walk_at "r"
        exact q'
      · show callK _ _ (.exc (xOf "open") []) vh'
        rw [x4]
        walk_at "r"
        exact q'
      · show callK _ _ (.exc (xOf "gap") []) vh'
        rw [x5]
        walk_at "r"
        exact q'
      · show callK _ _ (.exc (xOf "inputs") []) vh'
        rw [x6]
        walk_at "r"
        exact q'
  | te s t i =>
    obtain ⟨hs, ht, hi⟩ := hok
    walk_at "r"
    rw [to_]
    walk_at "r"
    rw [tc_]
    walk_at "r"
    refine c_tell h g hl hs ht hi fun vh' h1 h2 => ?_
    have q' := q (.v (step ss done (.te s t i)).2.2.d) vh' ⟨rfl, h1, h2⟩
    have q2 := @step_ref ss done (.te s t i)
    generalize (step ss done (.te s t i)).2.2 = z at q' q2 ⊢
    cases z with
    | told d =>
      show callK _ _ (.ok (.v d)) vh'
      walk_at "r"
      exact q'
    | ref w =>
      rcases q2 rfl with rfl | rfl | rfl | rfl | rfl | rfl
      · show callK _ _ (.exc (xOf "seat") []) vh'
        rw [x1]
        walk_at "r"
        exact q'
      · show callK _ _ (.exc (xOf "waiting") []) vh'
        rw [x2]
        walk_at "r"
        exact q'
      · show callK _ _ (.exc (xOf "tick") []) vh'
        rw [x3]
        walk_at "r"
        exact q'
      · show callK _ _ (.exc (xOf "open") []) vh'
        rw [x4]
        walk_at "r"
        exact q'
      · show callK _ _ (.exc (xOf "gap") []) vh'
        rw [x5]
        walk_at "r"
        exact q'
      · show callK _ _ (.exc (xOf "inputs") []) vh'
        rw [x6]
        walk_at "r"
        exact q'
theorem k_law_inputs_told : Sat Phi Gam ir__law_inputs_told tc__law_inputs_told.N ["book", "tick"] s__law_inputs_told := by
  refine sat_specV (fun _ => rfl) ?_
  rintro ⟨⟨r, ss, done⟩, j⟩ vh R ⟨h, g⟩ q
  dsimp only at h g q
  show wpB Phi Gam ir__law_inputs_told _ _ [.val (.ref r.n), .val (.int j)] vh
  unfold ir__law_inputs_told
  have hb := h.bk
  walk_at "r"
  refine c_inputs h g ?_
  unfold okOr
  by_cases h1 : 0 ≤ j ∧ j < stt ss
  · rw [decide_eq_true h1]
    rw [if_pos h1] at q
    show callK _ _ (.ok (.v _)) vh
    walk_at "r"
    exact q
  · rw [decide_eq_false h1]
    rw [if_neg h1] at q
    show callK _ _ (.exc "NoTick" []) vh
    walk_at "r"
    exact q
theorem plW (w : W) : PyData.canLay0 (.str w.s) = true := by cases w <;> decide +kernel
theorem plI {m : Nat} {s : Seat} {k : Int} : plD m (inp s k) = true := by
  unfold inp
  repeat' split
  all_goals cases m <;> rfl
theorem pl3 {w : W} {a b : Int} : plD 4 (.tup [.str w.s, .int a, .int b]) = true := by
  simp [plD, plW]
theorem plT : PyData.canLay0 (.str "told") = true ∧ PyData.canLay0 (.str "refused") = true ∧ PyData.canLay0 (.str "tick") = true := by decide +kernel
theorem plU {ss : List Seat} {j : Int} (h : ss.length ≤ 4) : plD 4 (.tup [.str "told", .tup (ss.map fun s => inp s j)]) = true := by
  simp [plD, plT, plI]
  omega
theorem plV : plD 4 (.tup [.str "refused", .str "tick"]) = true := by simp [plD, plT]
def Plain (x : Slot) : Prop := x = .no ∨ ∃ d, x = .val d
local macro_rules | `(tactic| walk_at "q") => `(tactic| repeat ((fail_if_success (with_reducible refine' fg_cons ?_)); walk_at "r1"))
theorem k_law_book_is : Sat Phi Gam ir__law_book_is tc__law_book_is.N ["hand", "book", "seats", "done"] s__law_book_is := by
  refine sat_spec (fun _ => rfl) ?_
  rintro ⟨n, r, a, ss, done⟩ vh R ⟨hd, hk, hs, g, dk, nr, na⟩ q
  dsimp only at hd hk hs g dk nr na q
  show wpB Phi Gam ir__law_book_is _ _ [.val (.ref n), .val (.ref r.n), .val (.ref a.m), .val (.ref a.md), .no, .no, .no, .no, .no, .no, .no] vh
  unfold ir__law_book_is
  have hm := hs.mm
  have hmd := hs.dn
  have hlq := hs.lq
  have g1 := g.1
  have g2 := g.2.1
  have dp : plD 4 (.lst done) = true := by
    have e := dk.1
    show (decide (done.length ≤ 16777216) && done.all (plD 3)) = true
    rw [Bool.and_eq_true]
    exact ⟨decide_eq_true (by omega), List.all_eq_true.mpr dk.2⟩
  refine b_cut (fun e h => h = vh ∧ e = [.val (.ref n), .val (.ref r.n), .val (.ref a.m), .val (.ref a.md), .val (.int (stt ss)), .no, .no, .no, .no, .no, .no]) ?_ ?_
  · walk_at "r"
    refine c__law_settled hs g ?_
    exact hold ⟨rfl, rfl⟩
  rintro _ vh0 ⟨hv, rfl⟩
  subst hv
  refine b_cut (fun e h => h = vh0 ∧ e = [.val (.ref n), .val (.ref r.n), .val (.ref a.m), .val (.ref a.md), .val (.int (stt ss)), .no, .no, .no, .no, .no, .no]) ?_ ?_
  · have hb := hk.bk
    walk_at "r"
    refine c_settled hk g ?_
    walk_at "r"
    refine c__law_is rfl rfl ?_
    walk_at "r"
    refine c_deeds hk g ?_
    walk_at "r"
    refine c__law_isR hmd dp ?_
    walk_at "r"
    exact hold ⟨rfl, rfl⟩
  rintro _ vh0' ⟨hv, rfl⟩
  subst hv
  refine b_cut (fun e h => Hd n h ∧ Fx n vh0' h ∧ ∃ x5 x6 x7 x8 x9 : Slot, Plain x6 ∧ e = [.val (.ref n), .val (.ref r.n), .val (.ref a.m), .val (.ref a.md), .val (.int (stt ss)), x5, x6, x7, x8, x9, .no]) ?_ ?_
  · walk_at "r"
    rw [List.length_map, hlq]
    walk_at "r"
    rw [Int.toNat_natCast]
    refine for_rule (fun rest e h => Hd n h ∧ Fx n vh0' h ∧ ∃ (i : Nat) (x5 x6 x7 x8 x9 : Slot), Plain x6 ∧ i ≤ ss.length ∧ rest = ((List.range ss.length).drop i).map (fun (k : Nat) => D.int (k : Int)) ∧ e = [.val (.ref n), .val (.ref r.n), .val (.ref a.m), .val (.ref a.md), .val (.int (stt ss)), x5, x6, x7, x8, x9, .no]) ?_ ?_ _ _ _ ⟨hd, fx_refl, 0, .no, .no, .no, .no, .no, .inl rfl, Nat.zero_le _, rfl, rfl⟩
    · rintro e h ⟨h1, f1, i, x5, x6, x7, x8, x9, hx, hi, hr, rfl⟩
      exact hold ⟨h1, f1, _, _, _, _, _, hx, rfl⟩
    · rintro d ds e h ⟨h1, f1, i, x5, x6, x7, x8, x9, hx, hi, hr, rfl⟩ ih
      obtain ⟨hi2, rfl, hr2⟩ := rng_cons hr
      obtain ⟨p, hp⟩ : ∃ p, a.qs[i]? = some p := ⟨_, List.getElem?_eq_getElem (by omega)⟩
      have hs1 := hs.fx f1 na
      have hk1 := hk.fx f1 nr
      have hm := hs1.mm
      have hb := hk1.bk
      obtain ⟨u, se, hu, e1, hs2, hs3⟩ := hs1.at_ hp
      walk_at "r"
      refine i_lst (at_map hp) ?_
      walk_at "r"
      refine c__law_end ⟨hs2, hs3⟩ ?_
      walk_at "r"
      refine c_word hk1 g e1 ?_
      walk_at "r"
      refine c_begin hk1 g e1 ?_
      walk_at "r"
      refine c_ending hk1 g e1 ?_
      walk_at "r"
      refine c__law_is rfl pl3 ?_
      walk_at "r"
      refine c__law_draw h1 (by decide) fun z vh2 z0 z1 h2 f2 => ?_
      have hs4 := hs1.fx f2 na
      have hk4 := hk1.fx f2 nr
      obtain ⟨u', se', hu', e1', hs5, hs6⟩ := hs4.at_ hp
      rw [hu] at hu'
      cases hu'
      rw [e1] at e1'
      cases e1'
      have hb4 := hk4.bk
      walk_at "q"
      refine for_rule (fun rest e h => h = vh2 ∧ (∀ d, d ∈ rest → ∃ j : Int, d = .int j ∧ 0 ≤ j) ∧ ∃ (x8 x9 : Slot), e = [.val (.ref n), .val (.ref r.n), .val (.ref a.m), .val (.ref a.md), .val (.int (stt ss)), .val (.int i), .val (.ref p), .val (.int se.e), x8, x9, .no]) ?_ ?_ _ _ _ ⟨rfl, ?_, _, _, rfl⟩
      · rintro e h ⟨rfl, _, x8, x9, rfl⟩
        exact ih _ _ ⟨h2, fx_trans f1 f2, i + 1, _, _, _, _, _, .inr ⟨_, rfl⟩, hi2, hr2, rfl⟩
      · rintro d ds2 e h ⟨rfl, hall, x8, x9, rfl⟩ ih2
        obtain ⟨j, rfl, j0⟩ := hall d List.mem_cons_self
        walk_at "r"
        refine c_input_at hk4 g (by split <;> omega) (by split <;> omega) e1 ?_
        walk_at "r"
        refine c__law_told_input ⟨hs5, hs6⟩ ?_
        walk_at "r"
        refine c__law_is rfl plI ?_
        walk_at "r"
        exact ih2 _ _ ⟨rfl, fun d hd => hall d (List.mem_cons_of_mem _ hd), _, _, rfl⟩
      · intro d hd
        simp only [List.mem_cons, List.not_mem_nil, or_false] at hd
        rcases hd with rfl | rfl | rfl | rfl | rfl | rfl
        all_goals refine ⟨_, rfl, ?_⟩
        all_goals (try split)
        all_goals omega
  rintro _ vh1 ⟨h1, f1, x5, x6, x7, x8, x9, hx, rfl⟩
  have hs1 := hs.fx f1 na
  have hk1 := hk.fx f1 nr
  have hm := hs1.mm
  have hb := hk1.bk
  have hst := stt_le g
  walk_at "r"
  refine c__law_draw h1 (by omega) fun z vh2 z0 z1 h2 f2 => ?_
  have hs4 := hs1.fx f2 na
  have hk4 := hk1.fx f2 nr
  have hb4 := hk4.bk
  have hm4 := hs4.mm
  walk_at "q"
  refine for_rule (fun rest e h => h = vh2 ∧ (∀ d, d ∈ rest → ∃ j : Int, d = .int j) ∧ ∃ (x5 x6 x7 x8 x9 : Slot), Plain x6 ∧ e = [.val (.ref n), .val (.ref r.n), .val (.ref a.m), .val (.ref a.md), .val (.int (stt ss)), x5, x6, x7, x8, x9, .no]) ?_ ?_ _ _ _ ⟨rfl, ?_, _, _, _, _, _, hx, rfl⟩
  · rintro e h ⟨rfl, _, x5, x6, x7, x8, x9, hx, rfl⟩
    walk_at "r"
    exact q _ _ ⟨rfl, h2, fx_trans f1 f2⟩
  · rintro d ds2 e h ⟨rfl, hall, x5, x6, x7, x8, x9, hx, rfl⟩ ih2
    obtain ⟨j, rfl⟩ := hall d List.mem_cons_self
    refine ⟨_, rfl, ?_⟩
    refine b_cut (fun e h' => h' = h ∧ e = [.val (.ref n), .val (.ref r.n), .val (.ref a.m), .val (.ref a.md), .val (.int (stt ss)), x5, x6, x7, .val (.int j), .val (.tup [.str "refused", .str "tick"]), .no]) ?_ ?_
    · walk_at "r"
      exact hold ⟨rfl, rfl⟩
    rintro _ h' ⟨hv, rfl⟩
    subst hv
    refine b_cut (fun e h => h = h' ∧ ∃ x6, Plain x6 ∧ e = [.val (.ref n), .val (.ref r.n), .val (.ref a.m), .val (.ref a.md), .val (.int (stt ss)), x5, x6, x7, .val (.int j), .val (if 0 ≤ j ∧ j < stt ss then .tup [.str "told", .tup (ss.map fun s => inp s j)] else .tup [.str "refused", .str "tick"]), .no]) ?_ ?_
    · walk_at "r"
      refine p_dec (fun k1 => ?_) (fun k1 => ?_)
      · walk_at "r"
        refine p_dec (fun k2 => ?_) (fun k2 => ?_)
        · walk_at "r"
          refine ⟨by rcases hx with rfl | ⟨_, rfl⟩ <;> rfl, ?_⟩
          refine lc_rule (fun rest h acc => h = h' ∧ ∃ i, i ≤ ss.length ∧ rest = (a.qs.drop i).map D.ref ∧ acc = (ss.take i).map fun s => inp s j) ?_ ?_ _ _ _ ⟨rfl, 0, Nat.zero_le _, rfl, rfl⟩
          · rintro _ _ ⟨rfl, i, hi, hr, rfl⟩
            have := ref_nil hr
            have ei : i = ss.length := by omega
            subst ei
            refine ⟨stl_1 rfl, ?_⟩
            walk_at "r"
            rw [List.take_length]
            refine hold ⟨rfl, x6, hx, ?_⟩
            rw [if_pos ⟨k1, k2⟩]
            rfl
          · rintro d ds _ _ ⟨rfl, i, hi, hr, rfl⟩ ih
            obtain ⟨p, hq, hi2, rfl, hr2⟩ := ref_cons hr
            obtain ⟨t, s, ht, e, hs5, hs6⟩ := hs4.at_ hq
            refine ⟨stl_1 rfl, ?_⟩
            walk_at "r"
            refine c__law_told_input ⟨hs5, hs6⟩ ?_
            walk_at "r"
            refine ⟨by rw [List.length_map, List.length_take]; omega, ih _ _ ⟨rfl, i + 1, by omega, hr2, ?_⟩⟩
            obtain ⟨hl, he⟩ := List.getElem?_eq_some_iff.mp e
            rw [List.take_succ_eq_append_getElem hl, List.map_append, he]
            rfl
        · walk_at "r"
          refine hold ⟨rfl, x6, hx, ?_⟩
          rw [if_neg (fun z => k2 z.2)]
      · walk_at "r"
        refine hold ⟨rfl, x6, hx, ?_⟩
        rw [if_neg (fun z => k1 z.1)]
    rintro _ h2' ⟨hv, x6, hx, rfl⟩
    subst hv
    walk_at "r"
    refine c__law_inputs_told hk4 g ?_
    walk_at "r"
    refine c__law_is rfl (by split; exact plU g2; exact plV) ?_
    walk_at "r"
    exact ih2 _ _ ⟨rfl, fun d hd => hall d (List.mem_cons_of_mem _ hd), _, _, _, _, _, hx, rfl⟩
  · intro d hd
    simp only [List.mem_cons, List.not_mem_nil, or_false] at hd
    rcases hd with rfl | rfl | rfl | rfl
    all_goals exact ⟨_, rfl⟩
def Done3 (d : D) : Prop := plD 3 d = true
theorem plS : PyData.canLay0 (.str "open") = true ∧ PyData.canLay0 (.str "close") = true ∧ PyData.canLay0 (.str "tell") = true := by decide +kernel
theorem good_set {ss : List Seat} {k : Nat} {s : Seat} (g : Good ss) (h : s.Ok) : Good (ss.set k s) := by
  refine ⟨by rw [List.length_set]; exact g.1, by rw [List.length_set]; exact g.2.1, fun x hx => ?_⟩
  rcases List.mem_or_eq_of_mem_set hx with hx | rfl
  · exact g.2.2 x hx
  · exact h
theorem step_ok {ss : List Seat} {done : List D} {dd : Dd} (g : Good ss) (hd : ∀ d, d ∈ done → plD 3 d = true) (ok : dd.Ok) : Good (step ss done dd).1 ∧ (∀ d, d ∈ (step ss done dd).2.1 → plD 3 d = true) ∧ (step ss done dd).2.1.length ≤ done.length + 1 ∧ plD 4 (step ss done dd).2.2.d = true := by
  have same : ∀ w, Wds w → Good ss ∧ (∀ d, d ∈ done → plD 3 d = true) ∧ done.length ≤ done.length + 1 ∧ plD 4 (Rs.ref w).d = true := fun w hw => ⟨g, hd, Nat.le_succ _, by
    have e : PyData.canLay0 (.str w) = true := by rcases hw with rfl | rfl | rfl | rfl | rfl | rfl <;> decide +kernel
    simp [plD, plT, e]⟩
  have app : ∀ x, plD 3 x = true → (∀ d, d ∈ done ++ [x] → plD 3 d = true) ∧ (done ++ [x]).length ≤ done.length + 1 := fun x hx => ⟨fun d h => by
    rcases List.mem_append.mp h with h | h
    · exact hd d h
    · rw [List.mem_singleton] at h
      subst h
      exact hx, by rw [List.length_append]; exact Nat.le_refl _⟩
  cases dd with
  | op s t =>
    unfold step
    dsimp only
    cases e : seatAt ss s with
    | none => exact same "seat" (by simp [Wds])
    | some p =>
      obtain ⟨k, se⟩ := p
      obtain ⟨rfl, e1, e2⟩ := seatAt_ok e
      obtain ⟨o1, o2, o3⟩ := g.2.2 se (List.mem_of_getElem? e1)
      dsimp only
      by_cases h1 : se.w = .wt
      · rw [if_neg (by simpa using h1)]
        cases h2 : wIn t (stt ss) 100000 with
        | false => exact same "tick" (by simp [Wds])
        | true =>
          obtain ⟨i, rfl, i1, i2⟩ := wIn_int h2
          obtain ⟨b0, t0⟩ := o1 h1
          rw [if_neg (by simp)]
          refine ⟨good_set g ⟨fun z => (by cases z), ?_, o3⟩, (app _ ?_).1, (app (.tup [.str "open", .int k, .int i]) ?_).2, ?_⟩
          · show i.toNat + se.t.length ≤ 100000
            rw [t0]
            show i.toNat + 0 ≤ 100000
            omega
          · simp [plD, plS]
          · simp [plD, plS]
          · simp [plD, plT]
      · rw [if_pos h1]
        exact same "waiting" (by simp [Wds])
  | cl s =>
    unfold step
    dsimp only
    cases e : seatAt ss s with
    | none => exact same "seat" (by simp [Wds])
    | some p =>
      obtain ⟨k, se⟩ := p
      obtain ⟨rfl, e1, e2⟩ := seatAt_ok e
      obtain ⟨o1, o2, o3⟩ := g.2.2 se (List.mem_of_getElem? e1)
      dsimp only
      by_cases h1 : se.w = .op
      · rw [if_neg (by simpa using h1)]
        refine ⟨good_set g ⟨fun z => (by cases z), o2, o3⟩, (app _ ?_).1, (app (.tup [.str "close", .int k]) ?_).2, ?_⟩
        · simp [plD, plS]
        · simp [plD, plS]
        · simp [plD, plT]
      · rw [if_pos h1]
        exact same "open" (by simp [Wds])
  | te s t i =>
    unfold step
    dsimp only
    cases e : seatAt ss s with
    | none => exact same "seat" (by simp [Wds])
    | some p =>
      obtain ⟨k, se⟩ := p
      obtain ⟨rfl, e1, e2⟩ := seatAt_ok e
      obtain ⟨o1, o2, o3⟩ := g.2.2 se (List.mem_of_getElem? e1)
      dsimp only
      by_cases h1 : se.w = .op
      · rw [if_neg (by simpa using h1)]
        cases h2 : wIn t 0 100000 with
        | false => exact same "tick" (by simp [Wds])
        | true =>
          obtain ⟨j, rfl, i1, i2⟩ := wIn_int h2
          rw [if_neg (by simp)]
          dsimp only
          by_cases h3 : (se.e : Int) < j
          · rw [if_pos h3]
            exact same "gap" (by simp [Wds])
          · rw [if_neg h3]
            cases h4 : rowD i with
            | false => exact same "inputs" (by simp [Wds])
            | true =>
              obtain ⟨bs, rfl, hb⟩ := row_of h4
              have hl := (ok.2.2.2 _ rfl).1
              rw [List.length_map] at hl
              rw [if_neg (by simp), ints_tup]
              obtain ⟨N, hN⟩ : ∃ N, N = (bs.drop (se.e - j.toNat)).take (100000 - se.e) := ⟨_, rfl⟩
              rw [← hN]
              have n1 : N.length ≤ 400 := by rw [hN, List.length_take, List.length_drop]; omega
              have n2 : N.length ≤ 100000 - se.e := by rw [hN, List.length_take]; omega
              have n3 : Byt N := fun b h => hb b (by rw [hN] at h; exact List.mem_of_mem_drop (List.mem_of_mem_take h))
              by_cases h5 : N = []
              · rw [if_pos h5]
                exact ⟨g, hd, Nat.le_succ _, by simp [plD, plT]⟩
              · rw [if_neg h5]
                have hp : plD 3 (.tup [.str "tell", .int k, .int se.e, tupI N]) = true := by
                  simp [plD, plS, tupI]
                  omega
                refine ⟨good_set g ⟨fun z => (by cases z), ?_, fun b h => ?_⟩, (app _ hp).1, (app _ hp).2, ?_⟩
                · show se.b + (se.t ++ N).length ≤ 100000
                  have : se.b + se.t.length ≤ 100000 := o2
                  have e3 : se.e = se.b + se.t.length := rfl
                  rw [List.length_append]
                  omega
                · rcases List.mem_append.mp h with h | h
                  · exact o3 b h
                  · exact n3 b h
                · simp [plD, plT]
      · rw [if_pos h1]
        exact same "open" (by simp [Wds])
theorem IsBk.lt {r : BR} {ss : List Seat} {done : List D} {vh : VH} (h : IsBk r ss done vh) {j : Nat} (hj : j ∈ r.all) : j < vh.length := by
  have at_ : ∀ {o : VO} {i : Nat}, vh[i]? = some o → i < vh.length := fun e => (List.getElem?_eq_some_iff.mp e).1
  unfold BR.all at hj
  simp only [List.mem_cons] at hj
  rcases hj with rfl | rfl | rfl | rfl | rfl | hj
  · exact at_ h.bk
  · exact at_ h.ws
  · exact at_ h.bs
  · exact at_ h.rt
  · exact at_ h.dn
  · obtain ⟨i, hi, rfl⟩ := List.getElem_of_mem hj
    have e := List.getElem?_eq_getElem hi
    exact at_ (h.ts i _ _ e (List.getElem?_eq_getElem (by rw [← h.ln]; exact hi)))
theorem Hd.lt {n : Nat} {vh : VH} (h : Hd n vh) : n < vh.length := by
  obtain ⟨o, h1, _⟩ := h
  exact (List.getElem?_eq_some_iff.mp h1).1
@[reducible] def s0 : Seat := ⟨.wt, 0, []⟩
theorem good0 {p : Nat} (h1 : 1 ≤ p) (h2 : p ≤ 4) : Good (List.replicate p s0) := by
  refine ⟨by simpa using h1, by simpa using h2, fun s hs => ?_⟩
  rw [(List.mem_replicate.mp hs).2]
  exact ⟨fun _ => ⟨rfl, rfl⟩, by show 0 + 0 ≤ 100000; omega, fun b h => by cases h⟩
theorem c_init {n p m : Nat} {vh : VH} {k : DV → VH → Prop} {kx : Str → List D → VH → Prop} (h : vh[n]? = some (.ins "Book" [] [])) (h1 : 1 ≤ p) (h2 : p ≤ 4) (q : ∀ (r : BR) vh', r.n = n → IsBk r (List.replicate p s0) [] vh' → vh.length ≤ vh'.length → (∀ j, j < vh.length → j ≠ n → vh'[j]? = vh[j]?) → (∀ j, j ∈ r.all → j = n ∨ vh.length ≤ j) → k (.v .non) vh') : (PhiL m "Book.__init__").run [.ref n, .int p] vh (callK k kx) := call_spec (A := Nat × Nat) (n, p) rfl ⟨h, h1, h2⟩ (by
  rintro _ _ ⟨rfl, r, a1, a2, a3, a4, a5⟩
  exact q r _ a1 a2 a3 a4 a5)
theorem k_law : Sat Phi Gam ir_law tc_law.N ["script"] s_law := by
  refine sat_spec (fun _ => rfl) ?_
  rintro ns vh R _ q
  show wpB Phi Gam ir_law _ _ [.val (.scr ns), .no, .no, .no, .no, .no, .no, .no, .no, .no, .no, .no, .no] vh
  unfold ir_law
  refine b_cut (fun e h => ∃ n, Hd n h ∧ e = [.val (.scr ns), .val (.ref n), .no, .no, .no, .no, .no, .no, .no, .no, .no, .no, .no]) ?_ ?_
  · walk_at "r"
    refine c__law_hand fun ds hh => ?_
    walk_at "r"
    exact hold ⟨vh.length, ⟨_, by simp, hh⟩, rfl⟩
  rintro _ vh0 ⟨n, h0, rfl⟩
  refine b_cut (fun e h => Hd n h ∧ ∃ p : Nat, 1 ≤ p ∧ p ≤ 4 ∧ e = [.val (.scr ns), .val (.ref n), .val (.int p), .no, .no, .no, .no, .no, .no, .no, .no, .no, .no]) ?_ ?_
  · walk_at "r"
    refine c__law_draw h0 (by decide) fun u vh1 u0 u1 h1 _ => ?_
    walk_at "r"
    refine hold ⟨h1, (1 + u).toNat, by omega, by omega, ?_⟩
    rw [Int.toNat_of_nonneg (by omega)]
    rfl
  rintro _ vh1 ⟨h1, p, p1, p4, rfl⟩
  refine b_cut (fun e h => Hd n h ∧ ∃ z : Nat, 1 ≤ z ∧ z ≤ 60 ∧ e = [.val (.scr ns), .val (.ref n), .val (.int p), .val (.int z), .no, .no, .no, .no, .no, .no, .no, .no, .no]) ?_ ?_
  · walk_at "r"
    refine c__law_draw h1 (by decide) fun u vh1 u0 u1 h1 _ => ?_
    walk_at "r"
    refine hold ⟨h1, (1 + u).toNat, by omega, by omega, ?_⟩
    rw [Int.toNat_of_nonneg (by omega)]
    rfl
  rintro _ vh2 ⟨h2, z, z1, z60, rfl⟩
  refine b_cut (fun e h => Hd n h ∧ ∃ r : BR, IsBk r (List.replicate p s0) [] h ∧ n ∉ r.all ∧ e = [.val (.scr ns), .val (.ref n), .val (.int p), .val (.int z), .val (.ref r.n), .no, .no, .no, .no, .no, .no, .no, .no]) ?_ ?_
  · have hn := h2.lt
    walk_at "r"
    refine c_init (by simp) p1 p4 fun r vh3 e1 hk l1 off ge => ?_
    rw [List.length_append] at l1 off ge
    refine ⟨rfl, ?_⟩
    walk_at "r"
    refine hold ⟨?_, r, hk, fun hm => ?_, ?_⟩
    · refine h2.move ((off n (by omega) (by omega)).trans ?_)
      rw [List.getElem?_append_left hn]
    · rcases ge n hm with e | e
      · omega
      · omega
    · rw [← e1]
      rfl
  rintro _ vh3 ⟨h3, r, hk, nr, rfl⟩
  have gd := good0 p1 p4
  have hkl := fun j (hj : j ∈ r.all) => hk.lt hj
  have hnl := h3.lt
  refine b_cut (fun e h => ∃ a : SR, IsSt a (List.replicate p s0) [] (h ++ [.lst []]) ∧ a.md = h.length ∧ (∀ j, j ∈ a.all → vh3.length ≤ j) ∧ vh3.length ≤ h.length ∧ (∀ j, j < vh3.length → h[j]? = vh3[j]?) ∧ e = [.val (.scr ns), .val (.ref n), .val (.int p), .val (.int z), .val (.ref r.n), .val (.ref a.m), .no, .no, .no, .no, .no, .no, .no]) ?_ ?_
  · walk_at "r"
    rw [Int.toNat_natCast]
    refine lc_rule (fun rest h acc => ∃ i, i ≤ p ∧ rest = ((List.range p).drop i).map (fun (k : Nat) => D.int (k : Int)) ∧ h.length = vh3.length + 2 * i ∧ (∀ j, j < vh3.length → h[j]? = vh3[j]?) ∧ (∀ j, j < i → SeatS (vh3.length + 2 * j + 1) (vh3.length + 2 * j) s0 h) ∧ acc = ((List.range i).map fun i => vh3.length + 2 * i + 1).map D.ref) ?_ ?_ _ _ _ ⟨0, Nat.zero_le _, rfl, rfl, fun _ _ => rfl, fun j hj => absurd hj (by omega), rfl⟩
    · rintro h4 _ ⟨i, hi, hr, d1, d2, d3, rfl⟩
      have := rng_nil hr
      have ei : i = p := by omega
      subst ei
      walk_at "r"
      refine hold ⟨⟨h4.length, h4.length + 1, (List.range i).map fun i => vh3.length + 2 * i + 1, (List.range i).map fun i => vh3.length + 2 * i⟩, ⟨?_, ?_, by simp, by simp, fun j q t s h1 h2 h3 => ?_, ?_⟩, by simp, fun j hj => ?_, by simp; omega, fun j hj => ?_, rfl⟩
      · rw [List.getElem?_append_left (by simp)]
        simp
      · rw [List.getElem?_append_right (by simp)]
        simp
      · obtain ⟨hj, rfl⟩ := List.getElem?_eq_some_iff.mp h1
        obtain ⟨hj2, rfl⟩ := List.getElem?_eq_some_iff.mp h2
        obtain ⟨hj3, rfl⟩ := List.getElem?_eq_some_iff.mp h3
        simp at hj
        rw [List.getElem_replicate, List.getElem_map, List.getElem_range, List.getElem_map, List.getElem_range]
        obtain ⟨c1, c2⟩ := d3 j hj
        refine ⟨?_, ?_⟩
        · rw [List.getElem?_append_left (by simp; omega), List.getElem?_append_left (by omega)]
          exact c1
        · rw [List.getElem?_append_left (by simp; omega), List.getElem?_append_left (by omega)]
          exact c2
      · unfold SR.all
        have hp : i = 1 ∨ i = 2 ∨ i = 3 ∨ i = 4 := by omega
        rcases hp with rfl | rfl | rfl | rfl <;> simp [List.range_succ] <;> omega
      · unfold SR.all at hj
        simp only [List.mem_cons, List.mem_append, List.mem_map, List.mem_range] at hj
        rcases hj with rfl | rfl | ⟨a, ha, rfl⟩ | ⟨a, ha, rfl⟩ <;> omega
      · rw [List.getElem?_append_left (by omega)]
        exact d2 j hj
    · rintro d ds h4 _ ⟨i, hi, hr, d1, d2, d3, rfl⟩ ih
      obtain ⟨hi2, rfl, hr2⟩ := rng_cons hr
      walk_at "r"
      refine ⟨by simp; omega, ih _ _ ⟨i + 1, hi2, hr2, by simp; omega, fun j hj => ?_, fun j hj => ?_, ?_⟩⟩
      · rw [List.getElem?_append_left (by simp; omega), List.getElem?_append_left (by omega)]
        exact d2 j hj
      · by_cases e : j < i
        · obtain ⟨c1, c2⟩ := d3 j e
          refine ⟨?_, ?_⟩
          · rw [List.getElem?_append_left (by simp; omega), List.getElem?_append_left (by omega)]
            exact c1
          · rw [List.getElem?_append_left (by simp; omega), List.getElem?_append_left (by omega)]
            exact c2
        · have ej : j = i := by omega
          subst ej
          refine ⟨?_, ?_⟩
          · rw [← d1, List.getElem?_append_right (by simp)]
            simp
          · rw [← d1, List.getElem?_append_left (by simp)]
            simp
      · rw [List.range_succ, List.map_append, List.map_append]
        simp [d1]
  rintro _ vh4 ⟨a, hs, emd, age, vl, off, rfl⟩
  have h4 : Hd n (vh4 ++ [.lst []]) := h3.move (by rw [List.getElem?_append_left (by omega)]; exact off n hnl)
  have hk4 : IsBk r (List.replicate p s0) [] (vh4 ++ [.lst []]) := hk.move fun j hj => by
    have := hkl j hj
    rw [List.getElem?_append_left (by omega)]
    exact off j (by omega)
  have na : n ∉ a.all := fun hm => by
    have := age n hm
    omega
  have ra : ∀ j, j ∈ r.all → j ∉ a.all := fun j h1 h2 => by
    have e1 := age j h2
    have e2 := hkl j h1
    omega
  have ar : ∀ j, j ∈ a.all → j ∉ r.all := fun j h1 h2 => ra j h2 h1
  refine b_cut (fun e h => h = vh4 ++ [.lst []] ∧ e = [.val (.scr ns), .val (.ref n), .val (.int p), .val (.int z), .val (.ref r.n), .val (.ref a.m), .val (.ref a.md), .no, .no, .no, .no, .no, .no]) ?_ ?_
  · walk_at "r"
    rw [← emd]
    exact hold ⟨rfl, rfl⟩
  rintro _ vh5 ⟨hv, rfl⟩
  rw [← hv] at h4 hk4 hs
  clear hv emd vl off hk h3
  refine b_cut (fun e h => Hd n h ∧ Fx n vh5 h ∧ e = [.val (.scr ns), .val (.ref n), .val (.int p), .val (.int z), .val (.ref r.n), .val (.ref a.m), .val (.ref a.md), .no, .no, .no, .no, .no, .no]) ?_ ?_
  · walk_at "r"
    refine c__law_book_is h4 hk4 hs gd ⟨Nat.zero_le _, fun d h => by cases h⟩ nr na fun vh6 h6 f6 => ?_
    walk_at "r"
    exact hold ⟨h6, f6, rfl⟩
  rintro _ vh6 ⟨h6, f6, rfl⟩
  refine b_cut (fun e h => Hd n h ∧ ∃ (ss : List Seat) (done : List D) (x7 x8 x9 x10 : Slot), Good ss ∧ DoneOk done ∧ IsBk r ss done h ∧ IsSt a ss done h ∧ e = [.val (.scr ns), .val (.ref n), .val (.int p), .val (.int z), .val (.ref r.n), .val (.ref a.m), .val (.ref a.md), x7, x8, x9, x10, .no, .no]) ?_ ?_
  · walk_at "r"
    rw [Int.toNat_natCast]
    refine for_rule (fun rest e h => Hd n h ∧ ∃ (i : Nat) (ss : List Seat) (done : List D) (x7 x8 x9 x10 : Slot), i ≤ z ∧ rest = ((List.range z).drop i).map (fun (k : Nat) => D.int (k : Int)) ∧ Good ss ∧ done.length ≤ i ∧ (∀ d, d ∈ done → plD 3 d = true) ∧ IsBk r ss done h ∧ IsSt a ss done h ∧ e = [.val (.scr ns), .val (.ref n), .val (.int p), .val (.int z), .val (.ref r.n), .val (.ref a.m), .val (.ref a.md), x7, x8, x9, x10, .no, .no]) ?_ ?_ _ _ _ ⟨h6, 0, _, _, .no, .no, .no, .no, Nat.zero_le _, rfl, gd, Nat.zero_le _, fun d h => (by cases h), hk4.fx f6 nr, hs.fx f6 na, rfl⟩
    · rintro e h ⟨h7, i, ss, done, x7, x8, x9, x10, hi, hr, g, dl, dp, hk7, hs7, rfl⟩
      exact hold ⟨h7, ss, done, x7, x8, x9, x10, g, ⟨by omega, dp⟩, hk7, hs7, rfl⟩
    · rintro d ds e h ⟨h7, i, ss, done, x7, x8, x9, x10, hi, hr, g, dl, dp, hk7, hs7, rfl⟩ ih
      obtain ⟨hi2, rfl, hr2⟩ := rng_cons hr
      walk_at "r"
      refine c__law_book_deed h7 hs7 g na fun dd vh8 ok h8 f8 => ?_
      obtain ⟨g', dp', dl', pr⟩ := step_ok g dp ok
      walk_at "r"
      refine c__law_account (hs7.fx f8 na) g (by omega) ok fun vh9 hs9 f9 => ?_
      have hk9 := (hk7.fx f8 nr).off f9 ra
      walk_at "r"
      refine c__law_done hk9 g (by omega) ok fun vh10 hk10 f10 => ?_
      have hs10 := hs9.off f10 ar
      have h10 := (h8.off f9 na).off f10 nr
      generalize (step ss done dd).1 = ss' at *
      generalize (step ss done dd).2.1 = done' at *
      walk_at "r"
      refine c__law_is rfl pr ?_
      walk_at "r"
      refine c__law_book_is h10 hk10 hs10 g' ⟨by omega, dp'⟩ nr na fun vh11 h11 f11 => ?_
      have hk11 := hk10.fx f11 nr
      have hs11 := hs10.fx f11 na
      have hb := hk11.bk
      walk_at "r"
      have fin : ∀ x10 : Slot, _ := fun x10 => ih [.val (.scr ns), .val (.ref n), .val (.int p), .val (.int z), .val (.ref r.n), .val (.ref a.m), .val (.ref a.md), .val (.int i), .val dd.d, .val (step ss done dd).2.2.d, x10, .no, .no] vh11 ⟨h11, i + 1, ss', done', _, _, _, x10, by omega, hr2, g', by omega, dp', hk11, hs11, rfl⟩
      refine p_dec (fun k1 => ?_) (fun k1 => ?_)
      · walk_at "r"
        refine c_deeds hk11 g' ?_
        walk_at "r"
        refine ⟨by omega, ?_⟩
        walk_at "r"
        refine ⟨0, ix_nat (k := 0) (by simp), ?_⟩
        walk_at "r"
        exact fin _
      · exact fin _
  rintro _ vh7 ⟨h7, ss, done, x7, x8, x9, x10, g, dk, hk7, hs7, rfl⟩
  walk_at "r"
  refine c__law_book_is h7 hk7 hs7 g dk nr na fun vh8 h8 f8 => ?_
  walk_at "r"
  exact q _ _ rfl
theorem law_run (ns : List Int) (_ : ns.length ≤ 63) (_ : ∀ z ∈ ns, Builtin.Int.intBits z ≤ 1048576) : s_law.run [.scr ns] [] fun o _ => o = .ok (.v (.bl true)) := ⟨ns, rfl, trivial, fun x vh' h => by rw [show x = _ from h]⟩
/-! ### what the top has written -/
def flW : Str → List Str := fun x => match tb.lookup x with
  | some p => p.1
  | none => []
def clK (K : PySem.W.Frag) : Str → Option Addr := fun x => if (tb.lookup x).isSome = true then (match PySem.W.nsIn K mainGlobals x with
  | some (some (.ref C)) => some C
  | _ => none) else none
def cis : List Str := ["Book"]
def ciK (K : PySem.W.Frag) : Str → Option Addr := fun x => if cis.contains x = true then (match PySem.W.nsIn K mainGlobals x with
  | some (some (.ref C)) => some C
  | _ => none) else none
def wd (K : PySem.W.Frag) : Wd := ⟨K, clK K, flW, ciK K⟩
theorem all_mk {P : Program} {w : World} {K : PySem.W.Frag} {h : Heap} {mg : Str → Option Value} {fa : Addr} (X : K.In h) (G : h.Ns mainGlobals mg) (hfa : mg "law" = some (.ref fa))
    {C_Book : Addr}
    {f0 : Addr} {od0 an0 : Option Addr} {sl0 : Array (Option Value)} {oc0 kV0 dc0 pm0 cd0 ct0 : Value}
    {f1 : Addr} {od1 an1 : Option Addr} {sl1 : Array (Option Value)} {oc1 kV1 dc1 pm1 cd1 ct1 : Value}
    {f2 : Addr} {od2 an2 : Option Addr} {sl2 : Array (Option Value)} {oc2 kV2 dc2 pm2 cd2 ct2 : Value}
    {f3 : Addr} {od3 an3 : Option Addr} {sl3 : Array (Option Value)} {oc3 kV3 dc3 pm3 cd3 ct3 : Value}
    {f4 : Addr} {od4 an4 : Option Addr} {sl4 : Array (Option Value)} {oc4 kV4 dc4 pm4 cd4 ct4 : Value}
    {f5 : Addr} {od5 an5 : Option Addr} {sl5 : Array (Option Value)} {oc5 kV5 dc5 pm5 cd5 ct5 : Value}
    {f6 : Addr} {od6 an6 : Option Addr} {sl6 : Array (Option Value)} {oc6 kV6 dc6 pm6 cd6 ct6 : Value}
    {f7 : Addr} {od7 an7 : Option Addr} {sl7 : Array (Option Value)} {oc7 kV7 dc7 pm7 cd7 ct7 : Value}
    {f8 : Addr} {od8 an8 : Option Addr} {sl8 : Array (Option Value)} {oc8 kV8 dc8 pm8 cd8 ct8 : Value}
    {f9 : Addr} {od9 an9 : Option Addr} {sl9 : Array (Option Value)} {oc9 kV9 dc9 pm9 cd9 ct9 : Value}
    {f10 : Addr} {od10 an10 : Option Addr} {sl10 : Array (Option Value)} {oc10 kV10 dc10 pm10 cd10 ct10 : Value}
    {f11 : Addr} {od11 an11 : Option Addr} {sl11 : Array (Option Value)} {oc11 kV11 dc11 pm11 cd11 ct11 : Value}
    {f12 : Addr} {od12 an12 : Option Addr} {sl12 : Array (Option Value)} {oc12 kV12 dc12 pm12 cd12 ct12 : Value}
    {f13 : Addr} {od13 an13 : Option Addr} {sl13 : Array (Option Value)} {oc13 kV13 dc13 pm13 cd13 ct13 : Value}
    {f14 : Addr} {od14 an14 : Option Addr} {sl14 : Array (Option Value)} {oc14 kV14 dc14 pm14 cd14 ct14 : Value}
    {f15 : Addr} {od15 an15 : Option Addr} {sl15 : Array (Option Value)} {oc15 kV15 dc15 pm15 cd15 ct15 : Value}
    {f16 : Addr} {od16 an16 : Option Addr} {sl16 : Array (Option Value)} {oc16 kV16 dc16 pm16 cd16 ct16 : Value}
    {f17 : Addr} {od17 an17 : Option Addr} {sl17 : Array (Option Value)} {oc17 kV17 dc17 pm17 cd17 ct17 : Value}
    {f18 : Addr} {od18 an18 : Option Addr} {sl18 : Array (Option Value)} {oc18 kV18 dc18 pm18 cd18 ct18 : Value}
    {f19 : Addr} {od19 an19 : Option Addr} {sl19 : Array (Option Value)} {oc19 kV19 dc19 pm19 cd19 ct19 : Value}
    {f20 : Addr} {od20 an20 : Option Addr} {sl20 : Array (Option Value)} {oc20 kV20 dc20 pm20 cd20 ct20 : Value}
    {f21 : Addr} {od21 an21 : Option Addr} {sl21 : Array (Option Value)} {oc21 kV21 dc21 pm21 cd21 ct21 : Value}
    {f22 : Addr} {od22 an22 : Option Addr} {sl22 : Array (Option Value)} {oc22 kV22 dc22 pm22 cd22 ct22 : Value}
    {f23 : Addr} {od23 an23 : Option Addr} {sl23 : Array (Option Value)} {oc23 kV23 dc23 pm23 cd23 ct23 : Value}
    {f24 : Addr} {od24 an24 : Option Addr} {sl24 : Array (Option Value)} {oc24 kV24 dc24 pm24 cd24 ct24 : Value}
    {f25 : Addr} {od25 an25 : Option Addr} {sl25 : Array (Option Value)} {oc25 kV25 dc25 pm25 cd25 ct25 : Value}
    {f26 : Addr} {od26 an26 : Option Addr} {sl26 : Array (Option Value)} {oc26 kV26 dc26 pm26 cd26 ct26 : Value}
    {f27 : Addr} {od27 an27 : Option Addr} {sl27 : Array (Option Value)} {oc27 kV27 dc27 pm27 cd27 ct27 : Value}
    {f28 : Addr} {od28 an28 : Option Addr} {sl28 : Array (Option Value)} {oc28 kV28 dc28 pm28 cd28 ct28 : Value}
    {f29 : Addr} {od29 an29 : Option Addr} {sl29 : Array (Option Value)} {oc29 kV29 dc29 pm29 cd29 ct29 : Value}
    {f30 : Addr} {od30 an30 : Option Addr} {sl30 : Array (Option Value)} {oc30 kV30 dc30 pm30 cd30 ct30 : Value}
    {f31 : Addr} {od31 an31 : Option Addr} {sl31 : Array (Option Value)} {oc31 kV31 dc31 pm31 cd31 ct31 : Value}
    {f32 : Addr} {od32 an32 : Option Addr} {sl32 : Array (Option Value)} {oc32 kV32 dc32 pm32 cd32 ct32 : Value}
    {f33 : Addr} {od33 an33 : Option Addr} {sl33 : Array (Option Value)} {oc33 kV33 dc33 pm33 cd33 ct33 : Value}
    {f34 : Addr} {od34 an34 : Option Addr} {sl34 : Array (Option Value)} {oc34 kV34 dc34 pm34 cd34 ct34 : Value}
    {f35 : Addr} {od35 an35 : Option Addr} {sl35 : Array (Option Value)} {oc35 kV35 dc35 pm35 cd35 ct35 : Value}
    {f36 : Addr} {od36 an36 : Option Addr} {sl36 : Array (Option Value)} {oc36 kV36 dc36 pm36 cd36 ct36 : Value}
    {f37 : Addr} {od37 an37 : Option Addr} {sl37 : Array (Option Value)} {oc37 kV37 dc37 pm37 cd37 ct37 : Value}
    {C_NoNumber : Addr}
    {C_WorldError : Addr}
    {C_NoInputs : Addr}
    {C_NoSeat : Addr}
    {C_NotOpen : Addr}
    {C_NotWaiting : Addr}
    {C_NoTick : Addr}
    {C_Gap : Addr}
    {t_BYTE : Tok}
    {t_MOST_INPUTS : Tok}
    {t_MOST_SEATS : Tok}
    {t_LAST_TICK : Tok}
    {t_WAITING : Tok}
    {t_OPEN : Tok}
    {t_CLOSED : Tok}
    {t_TELL : Tok}
    {t_CLOSE : Tok}
    (xg_Book : PySem.W.nsIn K mainGlobals "Book" = some (some (.ref C_Book))) (pg_Book : PySem.W.plainGet K C_Book Str.empty = true) (hd_Book : PySem.W.hasDictIn K C_Book = true) (po_Book : PySem.W.plainOver K C_Book = true) (sa_Book : PySem.W.findIn K (.ref C_Book) "__setattr__" = some (some (.builtin "object.__setattr__"))) (mk_Book : PySem.W.makesIn K C_Book = true) (kc_Book : PySem.W.keepIn K (.ref C_Book) = true)
    (nf_Book_players : PySem.W.findIn K (.ref C_Book) "players" = some none)
    (nf_Book_words : PySem.W.findIn K (.ref C_Book) "words" = some none)
    (nf_Book_begins : PySem.W.findIn K (.ref C_Book) "begins" = some none)
    (nf_Book_told : PySem.W.findIn K (.ref C_Book) "told" = some none)
    (nf_Book_done : PySem.W.findIn K (.ref C_Book) "done" = some none)
    (a0 : PySem.W.nsIn K mainGlobals "is_integer" = some (some (.ref f0)))
    (l0 : K.lookup f0 = some ⟨oc0, od0, .func (PySem.W.fnOf "is_integer" "is_integer" (defArgs st_is_integer) (defBody st_is_integer) (defScope st_is_integer) .none kV0 dc0 pm0 an0 cd0 ct0), sl0⟩) (c0 : PySem.W.codeIn K cd0 "is_integer" = true) (k0 : PySem.W.keepIn K (.ref f0) = true)
    (a1 : PySem.W.nsIn K mainGlobals "is_within" = some (some (.ref f1)))
    (l1 : K.lookup f1 = some ⟨oc1, od1, .func (PySem.W.fnOf "is_within" "is_within" (defArgs st_is_within) (defBody st_is_within) (defScope st_is_within) .none kV1 dc1 pm1 an1 cd1 ct1), sl1⟩) (c1 : PySem.W.codeIn K cd1 "is_within" = true) (k1 : PySem.W.keepIn K (.ref f1) = true)
    (a2 : PySem.W.nsIn K mainGlobals "is_below" = some (some (.ref f2)))
    (l2 : K.lookup f2 = some ⟨oc2, od2, .func (PySem.W.fnOf "is_below" "is_below" (defArgs st_is_below) (defBody st_is_below) (defScope st_is_below) .none kV2 dc2 pm2 an2 cd2 ct2), sl2⟩) (c2 : PySem.W.codeIn K cd2 "is_below" = true) (k2 : PySem.W.keepIn K (.ref f2) = true)
    (a3 : PySem.W.nsIn K mainGlobals "check_within" = some (some (.ref f3)))
    (l3 : K.lookup f3 = some ⟨oc3, od3, .func (PySem.W.fnOf "check_within" "check_within" (defArgs st_check_within) (defBody st_check_within) (defScope st_check_within) .none kV3 dc3 pm3 an3 cd3 ct3), sl3⟩) (c3 : PySem.W.codeIn K cd3 "check_within" = true) (k3 : PySem.W.keepIn K (.ref f3) = true)
    (a4 : PySem.W.nsIn K mainGlobals "is_input" = some (some (.ref f4)))
    (l4 : K.lookup f4 = some ⟨oc4, od4, .func (PySem.W.fnOf "is_input" "is_input" (defArgs st_is_input) (defBody st_is_input) (defScope st_is_input) .none kV4 dc4 pm4 an4 cd4 ct4), sl4⟩) (c4 : PySem.W.codeIn K cd4 "is_input" = true) (k4 : PySem.W.keepIn K (.ref f4) = true)
    (a5 : PySem.W.nsIn K mainGlobals "are_inputs" = some (some (.ref f5)))
    (l5 : K.lookup f5 = some ⟨oc5, od5, .func (PySem.W.fnOf "are_inputs" "are_inputs" (defArgs st_are_inputs) (defBody st_are_inputs) (defScope st_are_inputs) .none kV5 dc5 pm5 an5 cd5 ct5), sl5⟩) (c5 : PySem.W.codeIn K cd5 "are_inputs" = true) (k5 : PySem.W.keepIn K (.ref f5) = true)
    (a6 : PySem.W.nsIn K mainGlobals "check_inputs" = some (some (.ref f6)))
    (l6 : K.lookup f6 = some ⟨oc6, od6, .func (PySem.W.fnOf "check_inputs" "check_inputs" (defArgs st_check_inputs) (defBody st_check_inputs) (defScope st_check_inputs) .none kV6 dc6 pm6 an6 cd6 ct6), sl6⟩) (c6 : PySem.W.codeIn K cd6 "check_inputs" = true) (k6 : PySem.W.keepIn K (.ref f6) = true)
    (a7 : PySem.W.findIn K (.ref C_Book) "__init__" = some (some (.ref f7))) (i7 : PySem.W.isFn K (.ref f7) = true)
    (l7 : K.lookup f7 = some ⟨oc7, od7, .func (PySem.W.fnOf "__init__" "Book.__init__" (defArgs st_Book___init__) (defBody st_Book___init__) (defScope st_Book___init__) .none kV7 dc7 pm7 an7 cd7 ct7), sl7⟩) (c7 : PySem.W.codeIn K cd7 "Book.__init__" = true) (k7 : PySem.W.keepIn K (.ref f7) = true)
    (a8 : PySem.W.findIn K (.ref C_Book) "check_seat" = some (some (.ref f8))) (i8 : PySem.W.isFn K (.ref f8) = true)
    (l8 : K.lookup f8 = some ⟨oc8, od8, .func (PySem.W.fnOf "check_seat" "Book.check_seat" (defArgs st_Book_check_seat) (defBody st_Book_check_seat) (defScope st_Book_check_seat) .none kV8 dc8 pm8 an8 cd8 ct8), sl8⟩) (c8 : PySem.W.codeIn K cd8 "Book.check_seat" = true) (k8 : PySem.W.keepIn K (.ref f8) = true)
    (a9 : PySem.W.findIn K (.ref C_Book) "check_open" = some (some (.ref f9))) (i9 : PySem.W.isFn K (.ref f9) = true)
    (l9 : K.lookup f9 = some ⟨oc9, od9, .func (PySem.W.fnOf "check_open" "Book.check_open" (defArgs st_Book_check_open) (defBody st_Book_check_open) (defScope st_Book_check_open) .none kV9 dc9 pm9 an9 cd9 ct9), sl9⟩) (c9 : PySem.W.codeIn K cd9 "Book.check_open" = true) (k9 : PySem.W.keepIn K (.ref f9) = true)
    (a10 : PySem.W.findIn K (.ref C_Book) "word" = some (some (.ref f10))) (i10 : PySem.W.isFn K (.ref f10) = true)
    (l10 : K.lookup f10 = some ⟨oc10, od10, .func (PySem.W.fnOf "word" "Book.word" (defArgs st_Book_word) (defBody st_Book_word) (defScope st_Book_word) .none kV10 dc10 pm10 an10 cd10 ct10), sl10⟩) (c10 : PySem.W.codeIn K cd10 "Book.word" = true) (k10 : PySem.W.keepIn K (.ref f10) = true)
    (a11 : PySem.W.findIn K (.ref C_Book) "begin" = some (some (.ref f11))) (i11 : PySem.W.isFn K (.ref f11) = true)
    (l11 : K.lookup f11 = some ⟨oc11, od11, .func (PySem.W.fnOf "begin" "Book.begin" (defArgs st_Book_begin) (defBody st_Book_begin) (defScope st_Book_begin) .none kV11 dc11 pm11 an11 cd11 ct11), sl11⟩) (c11 : PySem.W.codeIn K cd11 "Book.begin" = true) (k11 : PySem.W.keepIn K (.ref f11) = true)
    (a12 : PySem.W.findIn K (.ref C_Book) "end_of" = some (some (.ref f12))) (i12 : PySem.W.isFn K (.ref f12) = true)
    (l12 : K.lookup f12 = some ⟨oc12, od12, .func (PySem.W.fnOf "end_of" "Book.end_of" (defArgs st_Book_end_of) (defBody st_Book_end_of) (defScope st_Book_end_of) .none kV12 dc12 pm12 an12 cd12 ct12), sl12⟩) (c12 : PySem.W.codeIn K cd12 "Book.end_of" = true) (k12 : PySem.W.keepIn K (.ref f12) = true)
    (a13 : PySem.W.findIn K (.ref C_Book) "ending" = some (some (.ref f13))) (i13 : PySem.W.isFn K (.ref f13) = true)
    (l13 : K.lookup f13 = some ⟨oc13, od13, .func (PySem.W.fnOf "ending" "Book.ending" (defArgs st_Book_ending) (defBody st_Book_ending) (defScope st_Book_ending) .none kV13 dc13 pm13 an13 cd13 ct13), sl13⟩) (c13 : PySem.W.codeIn K cd13 "Book.ending" = true) (k13 : PySem.W.keepIn K (.ref f13) = true)
    (a14 : PySem.W.findIn K (.ref C_Book) "settled" = some (some (.ref f14))) (i14 : PySem.W.isFn K (.ref f14) = true)
    (l14 : K.lookup f14 = some ⟨oc14, od14, .func (PySem.W.fnOf "settled" "Book.settled" (defArgs st_Book_settled) (defBody st_Book_settled) (defScope st_Book_settled) .none kV14 dc14 pm14 an14 cd14 ct14), sl14⟩) (c14 : PySem.W.codeIn K cd14 "Book.settled" = true) (k14 : PySem.W.keepIn K (.ref f14) = true)
    (a15 : PySem.W.findIn K (.ref C_Book) "open_seat" = some (some (.ref f15))) (i15 : PySem.W.isFn K (.ref f15) = true)
    (l15 : K.lookup f15 = some ⟨oc15, od15, .func (PySem.W.fnOf "open_seat" "Book.open_seat" (defArgs st_Book_open_seat) (defBody st_Book_open_seat) (defScope st_Book_open_seat) .none kV15 dc15 pm15 an15 cd15 ct15), sl15⟩) (c15 : PySem.W.codeIn K cd15 "Book.open_seat" = true) (k15 : PySem.W.keepIn K (.ref f15) = true)
    (a16 : PySem.W.findIn K (.ref C_Book) "tell" = some (some (.ref f16))) (i16 : PySem.W.isFn K (.ref f16) = true)
    (l16 : K.lookup f16 = some ⟨oc16, od16, .func (PySem.W.fnOf "tell" "Book.tell" (defArgs st_Book_tell) (defBody st_Book_tell) (defScope st_Book_tell) .none kV16 dc16 pm16 an16 cd16 ct16), sl16⟩) (c16 : PySem.W.codeIn K cd16 "Book.tell" = true) (k16 : PySem.W.keepIn K (.ref f16) = true)
    (a17 : PySem.W.findIn K (.ref C_Book) "close_seat" = some (some (.ref f17))) (i17 : PySem.W.isFn K (.ref f17) = true)
    (l17 : K.lookup f17 = some ⟨oc17, od17, .func (PySem.W.fnOf "close_seat" "Book.close_seat" (defArgs st_Book_close_seat) (defBody st_Book_close_seat) (defScope st_Book_close_seat) .none kV17 dc17 pm17 an17 cd17 ct17), sl17⟩) (c17 : PySem.W.codeIn K cd17 "Book.close_seat" = true) (k17 : PySem.W.keepIn K (.ref f17) = true)
    (a18 : PySem.W.findIn K (.ref C_Book) "input_of" = some (some (.ref f18))) (i18 : PySem.W.isFn K (.ref f18) = true)
    (l18 : K.lookup f18 = some ⟨oc18, od18, .func (PySem.W.fnOf "input_of" "Book.input_of" (defArgs st_Book_input_of) (defBody st_Book_input_of) (defScope st_Book_input_of) .none kV18 dc18 pm18 an18 cd18 ct18), sl18⟩) (c18 : PySem.W.codeIn K cd18 "Book.input_of" = true) (k18 : PySem.W.keepIn K (.ref f18) = true)
    (a19 : PySem.W.findIn K (.ref C_Book) "input_at" = some (some (.ref f19))) (i19 : PySem.W.isFn K (.ref f19) = true)
    (l19 : K.lookup f19 = some ⟨oc19, od19, .func (PySem.W.fnOf "input_at" "Book.input_at" (defArgs st_Book_input_at) (defBody st_Book_input_at) (defScope st_Book_input_at) .none kV19 dc19 pm19 an19 cd19 ct19), sl19⟩) (c19 : PySem.W.codeIn K cd19 "Book.input_at" = true) (k19 : PySem.W.keepIn K (.ref f19) = true)
    (a20 : PySem.W.findIn K (.ref C_Book) "inputs_at" = some (some (.ref f20))) (i20 : PySem.W.isFn K (.ref f20) = true)
    (l20 : K.lookup f20 = some ⟨oc20, od20, .func (PySem.W.fnOf "inputs_at" "Book.inputs_at" (defArgs st_Book_inputs_at) (defBody st_Book_inputs_at) (defScope st_Book_inputs_at) .none kV20 dc20 pm20 an20 cd20 ct20), sl20⟩) (c20 : PySem.W.codeIn K cd20 "Book.inputs_at" = true) (k20 : PySem.W.keepIn K (.ref f20) = true)
    (a21 : PySem.W.findIn K (.ref C_Book) "inputs" = some (some (.ref f21))) (i21 : PySem.W.isFn K (.ref f21) = true)
    (l21 : K.lookup f21 = some ⟨oc21, od21, .func (PySem.W.fnOf "inputs" "Book.inputs" (defArgs st_Book_inputs) (defBody st_Book_inputs) (defScope st_Book_inputs) .none kV21 dc21 pm21 an21 cd21 ct21), sl21⟩) (c21 : PySem.W.codeIn K cd21 "Book.inputs" = true) (k21 : PySem.W.keepIn K (.ref f21) = true)
    (a22 : PySem.W.findIn K (.ref C_Book) "deeds" = some (some (.ref f22))) (i22 : PySem.W.isFn K (.ref f22) = true)
    (l22 : K.lookup f22 = some ⟨oc22, od22, .func (PySem.W.fnOf "deeds" "Book.deeds" (defArgs st_Book_deeds) (defBody st_Book_deeds) (defScope st_Book_deeds) .none kV22 dc22 pm22 an22 cd22 ct22), sl22⟩) (c22 : PySem.W.codeIn K cd22 "Book.deeds" = true) (k22 : PySem.W.keepIn K (.ref f22) = true)
    (a23 : PySem.W.nsIn K mainGlobals "_law_hand" = some (some (.ref f23)))
    (l23 : K.lookup f23 = some ⟨oc23, od23, .func (PySem.W.fnOf "_law_hand" "_law_hand" (defArgs st__law_hand) (defBody st__law_hand) (defScope st__law_hand) .none kV23 dc23 pm23 an23 cd23 ct23), sl23⟩) (c23 : PySem.W.codeIn K cd23 "_law_hand" = true) (k23 : PySem.W.keepIn K (.ref f23) = true)
    (a24 : PySem.W.nsIn K mainGlobals "_law_draw" = some (some (.ref f24)))
    (l24 : K.lookup f24 = some ⟨oc24, od24, .func (PySem.W.fnOf "_law_draw" "_law_draw" (defArgs st__law_draw) (defBody st__law_draw) (defScope st__law_draw) .none kV24 dc24 pm24 an24 cd24 ct24), sl24⟩) (c24 : PySem.W.codeIn K cd24 "_law_draw" = true) (k24 : PySem.W.keepIn K (.ref f24) = true)
    (a25 : PySem.W.nsIn K mainGlobals "_law_is" = some (some (.ref f25)))
    (l25 : K.lookup f25 = some ⟨oc25, od25, .func (PySem.W.fnOf "_law_is" "_law_is" (defArgs st__law_is) (defBody st__law_is) (defScope st__law_is) .none kV25 dc25 pm25 an25 cd25 ct25), sl25⟩) (c25 : PySem.W.codeIn K cd25 "_law_is" = true) (k25 : PySem.W.keepIn K (.ref f25) = true)
    (a26 : PySem.W.nsIn K mainGlobals "_law_end" = some (some (.ref f26)))
    (l26 : K.lookup f26 = some ⟨oc26, od26, .func (PySem.W.fnOf "_law_end" "_law_end" (defArgs st__law_end) (defBody st__law_end) (defScope st__law_end) .none kV26 dc26 pm26 an26 cd26 ct26), sl26⟩) (c26 : PySem.W.codeIn K cd26 "_law_end" = true) (k26 : PySem.W.keepIn K (.ref f26) = true)
    (a27 : PySem.W.nsIn K mainGlobals "_law_settled" = some (some (.ref f27)))
    (l27 : K.lookup f27 = some ⟨oc27, od27, .func (PySem.W.fnOf "_law_settled" "_law_settled" (defArgs st__law_settled) (defBody st__law_settled) (defScope st__law_settled) .none kV27 dc27 pm27 an27 cd27 ct27), sl27⟩) (c27 : PySem.W.codeIn K cd27 "_law_settled" = true) (k27 : PySem.W.keepIn K (.ref f27) = true)
    (a28 : PySem.W.nsIn K mainGlobals "_law_told_input" = some (some (.ref f28)))
    (l28 : K.lookup f28 = some ⟨oc28, od28, .func (PySem.W.fnOf "_law_told_input" "_law_told_input" (defArgs st__law_told_input) (defBody st__law_told_input) (defScope st__law_told_input) .none kV28 dc28 pm28 an28 cd28 ct28), sl28⟩) (c28 : PySem.W.codeIn K cd28 "_law_told_input" = true) (k28 : PySem.W.keepIn K (.ref f28) = true)
    (a29 : PySem.W.nsIn K mainGlobals "_law_told_inputs" = some (some (.ref f29)))
    (l29 : K.lookup f29 = some ⟨oc29, od29, .func (PySem.W.fnOf "_law_told_inputs" "_law_told_inputs" (defArgs st__law_told_inputs) (defBody st__law_told_inputs) (defScope st__law_told_inputs) .none kV29 dc29 pm29 an29 cd29 ct29), sl29⟩) (c29 : PySem.W.codeIn K cd29 "_law_told_inputs" = true) (k29 : PySem.W.keepIn K (.ref f29) = true)
    (a30 : PySem.W.nsIn K mainGlobals "_law_book_deed" = some (some (.ref f30)))
    (l30 : K.lookup f30 = some ⟨oc30, od30, .func (PySem.W.fnOf "_law_book_deed" "_law_book_deed" (defArgs st__law_book_deed) (defBody st__law_book_deed) (defScope st__law_book_deed) .none kV30 dc30 pm30 an30 cd30 ct30), sl30⟩) (c30 : PySem.W.codeIn K cd30 "_law_book_deed" = true) (k30 : PySem.W.keepIn K (.ref f30) = true)
    (a31 : PySem.W.nsIn K mainGlobals "_law_number_up_to" = some (some (.ref f31)))
    (l31 : K.lookup f31 = some ⟨oc31, od31, .func (PySem.W.fnOf "_law_number_up_to" "_law_number_up_to" (defArgs st__law_number_up_to) (defBody st__law_number_up_to) (defScope st__law_number_up_to) .none kV31 dc31 pm31 an31 cd31 ct31), sl31⟩) (c31 : PySem.W.codeIn K cd31 "_law_number_up_to" = true) (k31 : PySem.W.keepIn K (.ref f31) = true)
    (a32 : PySem.W.nsIn K mainGlobals "_law_are_inputs" = some (some (.ref f32)))
    (l32 : K.lookup f32 = some ⟨oc32, od32, .func (PySem.W.fnOf "_law_are_inputs" "_law_are_inputs" (defArgs st__law_are_inputs) (defBody st__law_are_inputs) (defScope st__law_are_inputs) .none kV32 dc32 pm32 an32 cd32 ct32), sl32⟩) (c32 : PySem.W.codeIn K cd32 "_law_are_inputs" = true) (k32 : PySem.W.keepIn K (.ref f32) = true)
    (a33 : PySem.W.nsIn K mainGlobals "_law_account" = some (some (.ref f33)))
    (l33 : K.lookup f33 = some ⟨oc33, od33, .func (PySem.W.fnOf "_law_account" "_law_account" (defArgs st__law_account) (defBody st__law_account) (defScope st__law_account) .none kV33 dc33 pm33 an33 cd33 ct33), sl33⟩) (c33 : PySem.W.codeIn K cd33 "_law_account" = true) (k33 : PySem.W.keepIn K (.ref f33) = true)
    (a34 : PySem.W.nsIn K mainGlobals "_law_done" = some (some (.ref f34)))
    (l34 : K.lookup f34 = some ⟨oc34, od34, .func (PySem.W.fnOf "_law_done" "_law_done" (defArgs st__law_done) (defBody st__law_done) (defScope st__law_done) .none kV34 dc34 pm34 an34 cd34 ct34), sl34⟩) (c34 : PySem.W.codeIn K cd34 "_law_done" = true) (k34 : PySem.W.keepIn K (.ref f34) = true)
    (a35 : PySem.W.nsIn K mainGlobals "_law_inputs_told" = some (some (.ref f35)))
    (l35 : K.lookup f35 = some ⟨oc35, od35, .func (PySem.W.fnOf "_law_inputs_told" "_law_inputs_told" (defArgs st__law_inputs_told) (defBody st__law_inputs_told) (defScope st__law_inputs_told) .none kV35 dc35 pm35 an35 cd35 ct35), sl35⟩) (c35 : PySem.W.codeIn K cd35 "_law_inputs_told" = true) (k35 : PySem.W.keepIn K (.ref f35) = true)
    (a36 : PySem.W.nsIn K mainGlobals "_law_book_is" = some (some (.ref f36)))
    (l36 : K.lookup f36 = some ⟨oc36, od36, .func (PySem.W.fnOf "_law_book_is" "_law_book_is" (defArgs st__law_book_is) (defBody st__law_book_is) (defScope st__law_book_is) .none kV36 dc36 pm36 an36 cd36 ct36), sl36⟩) (c36 : PySem.W.codeIn K cd36 "_law_book_is" = true) (k36 : PySem.W.keepIn K (.ref f36) = true)
    (a37 : PySem.W.nsIn K mainGlobals "law" = some (some (.ref f37)))
    (l37 : K.lookup f37 = some ⟨oc37, od37, .func (PySem.W.fnOf "law" "law" (defArgs st_law) (defBody st_law) (defScope st_law) .none kV37 dc37 pm37 an37 cd37 ct37), sl37⟩) (c37 : PySem.W.codeIn K cd37 "law" = true) (k37 : PySem.W.keepIn K (.ref f37) = true)
    (z_len : PySem.W.nsIn K mainGlobals "len" = some none)
    (z_int : PySem.W.nsIn K mainGlobals "int" = some none)
    (z_bool : PySem.W.nsIn K mainGlobals "bool" = some none)
    (z_str : PySem.W.nsIn K mainGlobals "str" = some none)
    (z_tuple : PySem.W.nsIn K mainGlobals "tuple" = some none)
    (z_list : PySem.W.nsIn K mainGlobals "list" = some none)
    (z_abs : PySem.W.nsIn K mainGlobals "abs" = some none)
    (z_min : PySem.W.nsIn K mainGlobals "min" = some none)
    (z_max : PySem.W.nsIn K mainGlobals "max" = some none)
    (z_sum : PySem.W.nsIn K mainGlobals "sum" = some none)
    (z_all : PySem.W.nsIn K mainGlobals "all" = some none)
    (z_any : PySem.W.nsIn K mainGlobals "any" = some none)
    (z_range : PySem.W.nsIn K mainGlobals "range" = some none)
    (z_zip : PySem.W.nsIn K mainGlobals "zip" = some none)
    (z_enumerate : PySem.W.nsIn K mainGlobals "enumerate" = some none)
    (z_reversed : PySem.W.nsIn K mainGlobals "reversed" = some none)
    (z_isinstance : PySem.W.nsIn K mainGlobals "isinstance" = some none)
    (z_dict : PySem.W.nsIn K mainGlobals "dict" = some none)
    (z_sorted : PySem.W.nsIn K mainGlobals "sorted" = some none)
    (z_set : PySem.W.nsIn K mainGlobals "set" = some none)
    (z_repr : PySem.W.nsIn K mainGlobals "repr" = some none)
    (xg_NoNumber : PySem.W.nsIn K mainGlobals "NoNumber" = some (some (.ref C_NoNumber))) (xe_NoNumber : PySem.W.subIn K (.ref C_NoNumber) (.type "BaseException") = some true) (xt_NoNumber : PySem.W.typeIn K (.ref C_NoNumber) = some (.type "type"))
    (xg_WorldError : PySem.W.nsIn K mainGlobals "WorldError" = some (some (.ref C_WorldError))) (xe_WorldError : PySem.W.subIn K (.ref C_WorldError) (.type "BaseException") = some true) (xt_WorldError : PySem.W.typeIn K (.ref C_WorldError) = some (.type "type"))
    (xg_NoInputs : PySem.W.nsIn K mainGlobals "NoInputs" = some (some (.ref C_NoInputs))) (xe_NoInputs : PySem.W.subIn K (.ref C_NoInputs) (.type "BaseException") = some true) (xt_NoInputs : PySem.W.typeIn K (.ref C_NoInputs) = some (.type "type"))
    (xg_NoSeat : PySem.W.nsIn K mainGlobals "NoSeat" = some (some (.ref C_NoSeat))) (xe_NoSeat : PySem.W.subIn K (.ref C_NoSeat) (.type "BaseException") = some true) (xt_NoSeat : PySem.W.typeIn K (.ref C_NoSeat) = some (.type "type"))
    (xg_NotOpen : PySem.W.nsIn K mainGlobals "NotOpen" = some (some (.ref C_NotOpen))) (xe_NotOpen : PySem.W.subIn K (.ref C_NotOpen) (.type "BaseException") = some true) (xt_NotOpen : PySem.W.typeIn K (.ref C_NotOpen) = some (.type "type"))
    (xg_NotWaiting : PySem.W.nsIn K mainGlobals "NotWaiting" = some (some (.ref C_NotWaiting))) (xe_NotWaiting : PySem.W.subIn K (.ref C_NotWaiting) (.type "BaseException") = some true) (xt_NotWaiting : PySem.W.typeIn K (.ref C_NotWaiting) = some (.type "type"))
    (xg_NoTick : PySem.W.nsIn K mainGlobals "NoTick" = some (some (.ref C_NoTick))) (xe_NoTick : PySem.W.subIn K (.ref C_NoTick) (.type "BaseException") = some true) (xt_NoTick : PySem.W.typeIn K (.ref C_NoTick) = some (.type "type"))
    (xg_Gap : PySem.W.nsIn K mainGlobals "Gap" = some (some (.ref C_Gap))) (xe_Gap : PySem.W.subIn K (.ref C_Gap) (.type "BaseException") = some true) (xt_Gap : PySem.W.typeIn K (.ref C_Gap) = some (.type "type"))
    (xi_NoSeat : PySem.W.isClsIn K C_NoSeat = true)
    (xs_NoNumber_NoSeat : PySem.W.subIn K (.ref C_NoNumber) (.ref C_NoSeat) = some false)
    (xs_NoInputs_NoSeat : PySem.W.subIn K (.ref C_NoInputs) (.ref C_NoSeat) = some false)
    (xs_NoSeat_NoSeat : PySem.W.subIn K (.ref C_NoSeat) (.ref C_NoSeat) = some true)
    (xs_NotOpen_NoSeat : PySem.W.subIn K (.ref C_NotOpen) (.ref C_NoSeat) = some false)
    (xs_NotWaiting_NoSeat : PySem.W.subIn K (.ref C_NotWaiting) (.ref C_NoSeat) = some false)
    (xs_NoTick_NoSeat : PySem.W.subIn K (.ref C_NoTick) (.ref C_NoSeat) = some false)
    (xs_Gap_NoSeat : PySem.W.subIn K (.ref C_Gap) (.ref C_NoSeat) = some false)
    (xi_NotWaiting : PySem.W.isClsIn K C_NotWaiting = true)
    (xs_NoNumber_NotWaiting : PySem.W.subIn K (.ref C_NoNumber) (.ref C_NotWaiting) = some false)
    (xs_NoInputs_NotWaiting : PySem.W.subIn K (.ref C_NoInputs) (.ref C_NotWaiting) = some false)
    (xs_NoSeat_NotWaiting : PySem.W.subIn K (.ref C_NoSeat) (.ref C_NotWaiting) = some false)
    (xs_NotOpen_NotWaiting : PySem.W.subIn K (.ref C_NotOpen) (.ref C_NotWaiting) = some false)
    (xs_NotWaiting_NotWaiting : PySem.W.subIn K (.ref C_NotWaiting) (.ref C_NotWaiting) = some true)
    (xs_NoTick_NotWaiting : PySem.W.subIn K (.ref C_NoTick) (.ref C_NotWaiting) = some false)
    (xs_Gap_NotWaiting : PySem.W.subIn K (.ref C_Gap) (.ref C_NotWaiting) = some false)
    (xi_NoTick : PySem.W.isClsIn K C_NoTick = true)
    (xs_NoNumber_NoTick : PySem.W.subIn K (.ref C_NoNumber) (.ref C_NoTick) = some false)
    (xs_NoInputs_NoTick : PySem.W.subIn K (.ref C_NoInputs) (.ref C_NoTick) = some false)
    (xs_NoSeat_NoTick : PySem.W.subIn K (.ref C_NoSeat) (.ref C_NoTick) = some false)
    (xs_NotOpen_NoTick : PySem.W.subIn K (.ref C_NotOpen) (.ref C_NoTick) = some false)
    (xs_NotWaiting_NoTick : PySem.W.subIn K (.ref C_NotWaiting) (.ref C_NoTick) = some false)
    (xs_NoTick_NoTick : PySem.W.subIn K (.ref C_NoTick) (.ref C_NoTick) = some true)
    (xs_Gap_NoTick : PySem.W.subIn K (.ref C_Gap) (.ref C_NoTick) = some false)
    (xi_NotOpen : PySem.W.isClsIn K C_NotOpen = true)
    (xs_NoNumber_NotOpen : PySem.W.subIn K (.ref C_NoNumber) (.ref C_NotOpen) = some false)
    (xs_NoInputs_NotOpen : PySem.W.subIn K (.ref C_NoInputs) (.ref C_NotOpen) = some false)
    (xs_NoSeat_NotOpen : PySem.W.subIn K (.ref C_NoSeat) (.ref C_NotOpen) = some false)
    (xs_NotOpen_NotOpen : PySem.W.subIn K (.ref C_NotOpen) (.ref C_NotOpen) = some true)
    (xs_NotWaiting_NotOpen : PySem.W.subIn K (.ref C_NotWaiting) (.ref C_NotOpen) = some false)
    (xs_NoTick_NotOpen : PySem.W.subIn K (.ref C_NoTick) (.ref C_NotOpen) = some false)
    (xs_Gap_NotOpen : PySem.W.subIn K (.ref C_Gap) (.ref C_NotOpen) = some false)
    (xi_Gap : PySem.W.isClsIn K C_Gap = true)
    (xs_NoNumber_Gap : PySem.W.subIn K (.ref C_NoNumber) (.ref C_Gap) = some false)
    (xs_NoInputs_Gap : PySem.W.subIn K (.ref C_NoInputs) (.ref C_Gap) = some false)
    (xs_NoSeat_Gap : PySem.W.subIn K (.ref C_NoSeat) (.ref C_Gap) = some false)
    (xs_NotOpen_Gap : PySem.W.subIn K (.ref C_NotOpen) (.ref C_Gap) = some false)
    (xs_NotWaiting_Gap : PySem.W.subIn K (.ref C_NotWaiting) (.ref C_Gap) = some false)
    (xs_NoTick_Gap : PySem.W.subIn K (.ref C_NoTick) (.ref C_Gap) = some false)
    (xs_Gap_Gap : PySem.W.subIn K (.ref C_Gap) (.ref C_Gap) = some true)
    (xi_NoInputs : PySem.W.isClsIn K C_NoInputs = true)
    (xs_NoNumber_NoInputs : PySem.W.subIn K (.ref C_NoNumber) (.ref C_NoInputs) = some false)
    (xs_NoInputs_NoInputs : PySem.W.subIn K (.ref C_NoInputs) (.ref C_NoInputs) = some true)
    (xs_NoSeat_NoInputs : PySem.W.subIn K (.ref C_NoSeat) (.ref C_NoInputs) = some false)
    (xs_NotOpen_NoInputs : PySem.W.subIn K (.ref C_NotOpen) (.ref C_NoInputs) = some false)
    (xs_NotWaiting_NoInputs : PySem.W.subIn K (.ref C_NotWaiting) (.ref C_NoInputs) = some false)
    (xs_NoTick_NoInputs : PySem.W.subIn K (.ref C_NoTick) (.ref C_NoInputs) = some false)
    (xs_Gap_NoInputs : PySem.W.subIn K (.ref C_Gap) (.ref C_NoInputs) = some false)
    (xk_NoNumber : PySem.W.keepIn K (.ref C_NoNumber) = true) (xA_NoNumber : PySem.W.findIn K (.ref C_NoNumber) "__getattribute__" = some (some (.builtin "BaseException.__getattribute__"))) (xB_NoNumber : PySem.W.findIn K (.ref C_NoNumber) "__getattr__" = some none) (xD_NoNumber : PySem.W.hasDictIn K C_NoNumber = true)
    (xq_NoNumber : PySem.W.excIn K C_NoNumber [.type "ValueError", .type "Exception", .type "BaseException", .type "object"] "ValueError.__new__" = true)
    (xk_NoInputs : PySem.W.keepIn K (.ref C_NoInputs) = true) (xA_NoInputs : PySem.W.findIn K (.ref C_NoInputs) "__getattribute__" = some (some (.builtin "BaseException.__getattribute__"))) (xB_NoInputs : PySem.W.findIn K (.ref C_NoInputs) "__getattr__" = some none) (xD_NoInputs : PySem.W.hasDictIn K C_NoInputs = true)
    (xq_NoInputs : PySem.W.excIn K C_NoInputs [.type "ValueError", .type "Exception", .type "BaseException", .type "object"] "ValueError.__new__" = true)
    (xk_NoSeat : PySem.W.keepIn K (.ref C_NoSeat) = true) (xA_NoSeat : PySem.W.findIn K (.ref C_NoSeat) "__getattribute__" = some (some (.builtin "BaseException.__getattribute__"))) (xB_NoSeat : PySem.W.findIn K (.ref C_NoSeat) "__getattr__" = some none) (xD_NoSeat : PySem.W.hasDictIn K C_NoSeat = true)
    (xq_NoSeat : PySem.W.excIn K C_NoSeat [.type "ValueError", .type "Exception", .type "BaseException", .type "object"] "ValueError.__new__" = true)
    (xk_NotOpen : PySem.W.keepIn K (.ref C_NotOpen) = true) (xA_NotOpen : PySem.W.findIn K (.ref C_NotOpen) "__getattribute__" = some (some (.builtin "BaseException.__getattribute__"))) (xB_NotOpen : PySem.W.findIn K (.ref C_NotOpen) "__getattr__" = some none) (xD_NotOpen : PySem.W.hasDictIn K C_NotOpen = true)
    (xq_NotOpen : PySem.W.excIn K C_NotOpen [.type "ValueError", .type "Exception", .type "BaseException", .type "object"] "ValueError.__new__" = true)
    (xk_NotWaiting : PySem.W.keepIn K (.ref C_NotWaiting) = true) (xA_NotWaiting : PySem.W.findIn K (.ref C_NotWaiting) "__getattribute__" = some (some (.builtin "BaseException.__getattribute__"))) (xB_NotWaiting : PySem.W.findIn K (.ref C_NotWaiting) "__getattr__" = some none) (xD_NotWaiting : PySem.W.hasDictIn K C_NotWaiting = true)
    (xq_NotWaiting : PySem.W.excIn K C_NotWaiting [.type "ValueError", .type "Exception", .type "BaseException", .type "object"] "ValueError.__new__" = true)
    (xk_NoTick : PySem.W.keepIn K (.ref C_NoTick) = true) (xA_NoTick : PySem.W.findIn K (.ref C_NoTick) "__getattribute__" = some (some (.builtin "BaseException.__getattribute__"))) (xB_NoTick : PySem.W.findIn K (.ref C_NoTick) "__getattr__" = some none) (xD_NoTick : PySem.W.hasDictIn K C_NoTick = true)
    (xq_NoTick : PySem.W.excIn K C_NoTick [.type "ValueError", .type "Exception", .type "BaseException", .type "object"] "ValueError.__new__" = true)
    (xk_Gap : PySem.W.keepIn K (.ref C_Gap) = true) (xA_Gap : PySem.W.findIn K (.ref C_Gap) "__getattribute__" = some (some (.builtin "BaseException.__getattribute__"))) (xB_Gap : PySem.W.findIn K (.ref C_Gap) "__getattr__" = some none) (xD_Gap : PySem.W.hasDictIn K C_Gap = true)
    (xq_Gap : PySem.W.excIn K C_Gap [.type "ValueError", .type "Exception", .type "BaseException", .type "object"] "ValueError.__new__" = true)
    (m_BYTE : PySem.W.nsIn K mainGlobals "BYTE" = some (some (.int 256 t_BYTE)))
    (m_MOST_INPUTS : PySem.W.nsIn K mainGlobals "MOST_INPUTS" = some (some (.int 100000 t_MOST_INPUTS)))
    (m_MOST_SEATS : PySem.W.nsIn K mainGlobals "MOST_SEATS" = some (some (.int 4 t_MOST_SEATS)))
    (m_LAST_TICK : PySem.W.nsIn K mainGlobals "LAST_TICK" = some (some (.int 100000 t_LAST_TICK)))
    (m_WAITING : PySem.W.nsIn K mainGlobals "WAITING" = some (some (.str "waiting" t_WAITING)))
    (m_OPEN : PySem.W.nsIn K mainGlobals "OPEN" = some (some (.str "open" t_OPEN)))
    (m_CLOSED : PySem.W.nsIn K mainGlobals "CLOSED" = some (some (.str "closed" t_CLOSED)))
    (m_TELL : PySem.W.nsIn K mainGlobals "TELL" = some (some (.str "tell" t_TELL)))
    (m_CLOSE : PySem.W.nsIn K mainGlobals "CLOSE" = some (some (.str "close" t_CLOSE))) :
    ∃ fd : FuncData, (∀ (s : Shared) (v : Value), BindsTo s fd ⟨[v], []⟩ [("script", v)]) ∧ ∀ base : Heap, K.In base → base.Ns mainGlobals mg → FnOk P w K mg base (L2.CX P w) 9 fa fd ["script"] (spV (wd K) s_law) := by
  have e := hfa.symm.trans (PySem.W.mg_of X G a37)
  cases e
  have gd : Gnd K mg (wd K) Gam tb hs := by
    refine ⟨rfl, fun x d hx => ?_, fun x ns anc hx => ?_, fun x hx => ?_, fun x C hC ns anc ht => ?_, fun c C hC => ?_, fun x d hx => ?_, fun x hx => ?_⟩
    · unfold Gam at hx
      split at hx
      · rename_i hc
        subst hc
        decide +kernel
      split at hx
      · rename_i hc
        subst hc
        decide +kernel
      split at hx
      · rename_i hc
        subst hc
        decide +kernel
      split at hx
      · rename_i hc
        subst hc
        decide +kernel
      split at hx
      · rename_i hc
        subst hc
        decide +kernel
      split at hx
      · rename_i hc
        subst hc
        decide +kernel
      split at hx
      · rename_i hc
        subst hc
        decide +kernel
      split at hx
      · rename_i hc
        subst hc
        decide +kernel
      split at hx
      · rename_i hc
        subst hc
        decide +kernel
      cases hx
    · unfold tb at hx
      rw [List.lookup_cons] at hx
      split at hx
      · rename_i hc
        have hc := eq_of_beq hc
        subst hc
        refine ⟨C_NoNumber, by show clK K ("NoNumber" : Str) = some C_NoNumber; unfold clK; rw [if_pos (by decide +kernel), xg_NoNumber], ?_⟩
        exact .inl ⟨by show flW ("NoNumber" : Str) = []; decide +kernel, by decide +kernel, PySem.W.mg_of X G xg_NoNumber, xq_NoNumber, xk_NoNumber, xe_NoNumber, xt_NoNumber⟩
      rw [List.lookup_cons] at hx
      split at hx
      · rename_i hc
        have hc := eq_of_beq hc
        subst hc
        refine ⟨C_NoInputs, by show clK K ("NoInputs" : Str) = some C_NoInputs; unfold clK; rw [if_pos (by decide +kernel), xg_NoInputs], ?_⟩
        exact .inl ⟨by show flW ("NoInputs" : Str) = []; decide +kernel, by decide +kernel, PySem.W.mg_of X G xg_NoInputs, xq_NoInputs, xk_NoInputs, xe_NoInputs, xt_NoInputs⟩
      rw [List.lookup_cons] at hx
      split at hx
      · rename_i hc
        have hc := eq_of_beq hc
        subst hc
        refine ⟨C_NoSeat, by show clK K ("NoSeat" : Str) = some C_NoSeat; unfold clK; rw [if_pos (by decide +kernel), xg_NoSeat], ?_⟩
        exact .inl ⟨by show flW ("NoSeat" : Str) = []; decide +kernel, by decide +kernel, PySem.W.mg_of X G xg_NoSeat, xq_NoSeat, xk_NoSeat, xe_NoSeat, xt_NoSeat⟩
      rw [List.lookup_cons] at hx
      split at hx
      · rename_i hc
        have hc := eq_of_beq hc
        subst hc
        refine ⟨C_NotOpen, by show clK K ("NotOpen" : Str) = some C_NotOpen; unfold clK; rw [if_pos (by decide +kernel), xg_NotOpen], ?_⟩
        exact .inl ⟨by show flW ("NotOpen" : Str) = []; decide +kernel, by decide +kernel, PySem.W.mg_of X G xg_NotOpen, xq_NotOpen, xk_NotOpen, xe_NotOpen, xt_NotOpen⟩
      rw [List.lookup_cons] at hx
      split at hx
      · rename_i hc
        have hc := eq_of_beq hc
        subst hc
        refine ⟨C_NotWaiting, by show clK K ("NotWaiting" : Str) = some C_NotWaiting; unfold clK; rw [if_pos (by decide +kernel), xg_NotWaiting], ?_⟩
        exact .inl ⟨by show flW ("NotWaiting" : Str) = []; decide +kernel, by decide +kernel, PySem.W.mg_of X G xg_NotWaiting, xq_NotWaiting, xk_NotWaiting, xe_NotWaiting, xt_NotWaiting⟩
      rw [List.lookup_cons] at hx
      split at hx
      · rename_i hc
        have hc := eq_of_beq hc
        subst hc
        refine ⟨C_NoTick, by show clK K ("NoTick" : Str) = some C_NoTick; unfold clK; rw [if_pos (by decide +kernel), xg_NoTick], ?_⟩
        exact .inl ⟨by show flW ("NoTick" : Str) = []; decide +kernel, by decide +kernel, PySem.W.mg_of X G xg_NoTick, xq_NoTick, xk_NoTick, xe_NoTick, xt_NoTick⟩
      rw [List.lookup_cons] at hx
      split at hx
      · rename_i hc
        have hc := eq_of_beq hc
        subst hc
        refine ⟨C_Gap, by show clK K ("Gap" : Str) = some C_Gap; unfold clK; rw [if_pos (by decide +kernel), xg_Gap], ?_⟩
        exact .inl ⟨by show flW ("Gap" : Str) = []; decide +kernel, by decide +kernel, PySem.W.mg_of X G xg_Gap, xq_Gap, xk_Gap, xe_Gap, xt_Gap⟩
      cases hx
    · simp only [hs, List.mem_cons, List.not_mem_nil, or_false] at hx
      rcases hx with rfl | rfl | rfl | rfl | rfl | rfl
      · refine ⟨by decide +kernel, .ref C_NoSeat, PySem.W.mg_of X G xg_NoSeat, fun c C hC ns anc ht => ?_⟩
        have hC : clK K c = some C := hC
        unfold clK at hC
        split at hC
        · rename_i ht0
          obtain ⟨p, hp⟩ := Option.isSome_iff_exists.mp ht0
          unfold tb at hp
          rw [List.lookup_cons] at hp
          split at hp
          · rename_i hc
            have hc := eq_of_beq hc
            subst hc
            rw [xg_NoNumber] at hC
            cases hC
            have e : tb.lookup ("NoNumber" : Str) = some (([] : List Str), (["NoNumber", "WorldError", "ValueError", "Exception", "BaseException", "object"] : List Str)) := by decide +kernel
            rw [e] at ht
            cases ht
            exact ⟨by show _ = flW ("NoNumber" : Str); decide +kernel, (exm_by xe_NoSeat xi_NoSeat xt_NoSeat xs_NoNumber_NoSeat).trans (by decide +kernel)⟩
          rw [List.lookup_cons] at hp
          split at hp
          · rename_i hc
            have hc := eq_of_beq hc
            subst hc
            rw [xg_NoInputs] at hC
            cases hC
            have e : tb.lookup ("NoInputs" : Str) = some (([] : List Str), (["NoInputs", "WorldError", "ValueError", "Exception", "BaseException", "object"] : List Str)) := by decide +kernel
            rw [e] at ht
            cases ht
            exact ⟨by show _ = flW ("NoInputs" : Str); decide +kernel, (exm_by xe_NoSeat xi_NoSeat xt_NoSeat xs_NoInputs_NoSeat).trans (by decide +kernel)⟩
          rw [List.lookup_cons] at hp
          split at hp
          · rename_i hc
            have hc := eq_of_beq hc
            subst hc
            rw [xg_NoSeat] at hC
            cases hC
            have e : tb.lookup ("NoSeat" : Str) = some (([] : List Str), (["NoSeat", "WorldError", "ValueError", "Exception", "BaseException", "object"] : List Str)) := by decide +kernel
            rw [e] at ht
            cases ht
            exact ⟨by show _ = flW ("NoSeat" : Str); decide +kernel, (exm_by xe_NoSeat xi_NoSeat xt_NoSeat xs_NoSeat_NoSeat).trans (by decide +kernel)⟩
          rw [List.lookup_cons] at hp
          split at hp
          · rename_i hc
            have hc := eq_of_beq hc
            subst hc
            rw [xg_NotOpen] at hC
            cases hC
            have e : tb.lookup ("NotOpen" : Str) = some (([] : List Str), (["NotOpen", "WorldError", "ValueError", "Exception", "BaseException", "object"] : List Str)) := by decide +kernel
            rw [e] at ht
            cases ht
            exact ⟨by show _ = flW ("NotOpen" : Str); decide +kernel, (exm_by xe_NoSeat xi_NoSeat xt_NoSeat xs_NotOpen_NoSeat).trans (by decide +kernel)⟩
          rw [List.lookup_cons] at hp
          split at hp
          · rename_i hc
            have hc := eq_of_beq hc
            subst hc
            rw [xg_NotWaiting] at hC
            cases hC
            have e : tb.lookup ("NotWaiting" : Str) = some (([] : List Str), (["NotWaiting", "WorldError", "ValueError", "Exception", "BaseException", "object"] : List Str)) := by decide +kernel
            rw [e] at ht
            cases ht
            exact ⟨by show _ = flW ("NotWaiting" : Str); decide +kernel, (exm_by xe_NoSeat xi_NoSeat xt_NoSeat xs_NotWaiting_NoSeat).trans (by decide +kernel)⟩
          rw [List.lookup_cons] at hp
          split at hp
          · rename_i hc
            have hc := eq_of_beq hc
            subst hc
            rw [xg_NoTick] at hC
            cases hC
            have e : tb.lookup ("NoTick" : Str) = some (([] : List Str), (["NoTick", "WorldError", "ValueError", "Exception", "BaseException", "object"] : List Str)) := by decide +kernel
            rw [e] at ht
            cases ht
            exact ⟨by show _ = flW ("NoTick" : Str); decide +kernel, (exm_by xe_NoSeat xi_NoSeat xt_NoSeat xs_NoTick_NoSeat).trans (by decide +kernel)⟩
          rw [List.lookup_cons] at hp
          split at hp
          · rename_i hc
            have hc := eq_of_beq hc
            subst hc
            rw [xg_Gap] at hC
            cases hC
            have e : tb.lookup ("Gap" : Str) = some (([] : List Str), (["Gap", "WorldError", "ValueError", "Exception", "BaseException", "object"] : List Str)) := by decide +kernel
            rw [e] at ht
            cases ht
            exact ⟨by show _ = flW ("Gap" : Str); decide +kernel, (exm_by xe_NoSeat xi_NoSeat xt_NoSeat xs_Gap_NoSeat).trans (by decide +kernel)⟩
          cases hp
        · cases hC
      · refine ⟨by decide +kernel, .ref C_NotWaiting, PySem.W.mg_of X G xg_NotWaiting, fun c C hC ns anc ht => ?_⟩
        have hC : clK K c = some C := hC
        unfold clK at hC
        split at hC
        · rename_i ht0
          obtain ⟨p, hp⟩ := Option.isSome_iff_exists.mp ht0
          unfold tb at hp
          rw [List.lookup_cons] at hp
          split at hp
          · rename_i hc
            have hc := eq_of_beq hc
            subst hc
            rw [xg_NoNumber] at hC
            cases hC
            have e : tb.lookup ("NoNumber" : Str) = some (([] : List Str), (["NoNumber", "WorldError", "ValueError", "Exception", "BaseException", "object"] : List Str)) := by decide +kernel
            rw [e] at ht
            cases ht
            exact ⟨by show _ = flW ("NoNumber" : Str); decide +kernel, (exm_by xe_NotWaiting xi_NotWaiting xt_NotWaiting xs_NoNumber_NotWaiting).trans (by decide +kernel)⟩
          rw [List.lookup_cons] at hp
          split at hp
          · rename_i hc
            have hc := eq_of_beq hc
            subst hc
            rw [xg_NoInputs] at hC
            cases hC
            have e : tb.lookup ("NoInputs" : Str) = some (([] : List Str), (["NoInputs", "WorldError", "ValueError", "Exception", "BaseException", "object"] : List Str)) := by decide +kernel
            rw [e] at ht
            cases ht
            exact ⟨by show _ = flW ("NoInputs" : Str); decide +kernel, (exm_by xe_NotWaiting xi_NotWaiting xt_NotWaiting xs_NoInputs_NotWaiting).trans (by decide +kernel)⟩
          rw [List.lookup_cons] at hp
          split at hp
          · rename_i hc
            have hc := eq_of_beq hc
            subst hc
            rw [xg_NoSeat] at hC
            cases hC
            have e : tb.lookup ("NoSeat" : Str) = some (([] : List Str), (["NoSeat", "WorldError", "ValueError", "Exception", "BaseException", "object"] : List Str)) := by decide +kernel
            rw [e] at ht
            cases ht
            exact ⟨by show _ = flW ("NoSeat" : Str); decide +kernel, (exm_by xe_NotWaiting xi_NotWaiting xt_NotWaiting xs_NoSeat_NotWaiting).trans (by decide +kernel)⟩
          rw [List.lookup_cons] at hp
          split at hp
          · rename_i hc
            have hc := eq_of_beq hc
            subst hc
            rw [xg_NotOpen] at hC
            cases hC
            have e : tb.lookup ("NotOpen" : Str) = some (([] : List Str), (["NotOpen", "WorldError", "ValueError", "Exception", "BaseException", "object"] : List Str)) := by decide +kernel
            rw [e] at ht
            cases ht
            exact ⟨by show _ = flW ("NotOpen" : Str); decide +kernel, (exm_by xe_NotWaiting xi_NotWaiting xt_NotWaiting xs_NotOpen_NotWaiting).trans (by decide +kernel)⟩
          rw [List.lookup_cons] at hp
          split at hp
          · rename_i hc
            have hc := eq_of_beq hc
            subst hc
            rw [xg_NotWaiting] at hC
            cases hC
            have e : tb.lookup ("NotWaiting" : Str) = some (([] : List Str), (["NotWaiting", "WorldError", "ValueError", "Exception", "BaseException", "object"] : List Str)) := by decide +kernel
            rw [e] at ht
            cases ht
            exact ⟨by show _ = flW ("NotWaiting" : Str); decide +kernel, (exm_by xe_NotWaiting xi_NotWaiting xt_NotWaiting xs_NotWaiting_NotWaiting).trans (by decide +kernel)⟩
          rw [List.lookup_cons] at hp
          split at hp
          · rename_i hc
            have hc := eq_of_beq hc
            subst hc
            rw [xg_NoTick] at hC
            cases hC
            have e : tb.lookup ("NoTick" : Str) = some (([] : List Str), (["NoTick", "WorldError", "ValueError", "Exception", "BaseException", "object"] : List Str)) := by decide +kernel
            rw [e] at ht
            cases ht
            exact ⟨by show _ = flW ("NoTick" : Str); decide +kernel, (exm_by xe_NotWaiting xi_NotWaiting xt_NotWaiting xs_NoTick_NotWaiting).trans (by decide +kernel)⟩
          rw [List.lookup_cons] at hp
          split at hp
          · rename_i hc
            have hc := eq_of_beq hc
            subst hc
            rw [xg_Gap] at hC
            cases hC
            have e : tb.lookup ("Gap" : Str) = some (([] : List Str), (["Gap", "WorldError", "ValueError", "Exception", "BaseException", "object"] : List Str)) := by decide +kernel
            rw [e] at ht
            cases ht
            exact ⟨by show _ = flW ("Gap" : Str); decide +kernel, (exm_by xe_NotWaiting xi_NotWaiting xt_NotWaiting xs_Gap_NotWaiting).trans (by decide +kernel)⟩
          cases hp
        · cases hC
      · refine ⟨by decide +kernel, .ref C_NoTick, PySem.W.mg_of X G xg_NoTick, fun c C hC ns anc ht => ?_⟩
        have hC : clK K c = some C := hC
        unfold clK at hC
        split at hC
        · rename_i ht0
          obtain ⟨p, hp⟩ := Option.isSome_iff_exists.mp ht0
          unfold tb at hp
          rw [List.lookup_cons] at hp
          split at hp
          · rename_i hc
            have hc := eq_of_beq hc
            subst hc
            rw [xg_NoNumber] at hC
            cases hC
            have e : tb.lookup ("NoNumber" : Str) = some (([] : List Str), (["NoNumber", "WorldError", "ValueError", "Exception", "BaseException", "object"] : List Str)) := by decide +kernel
            rw [e] at ht
            cases ht
            exact ⟨by show _ = flW ("NoNumber" : Str); decide +kernel, (exm_by xe_NoTick xi_NoTick xt_NoTick xs_NoNumber_NoTick).trans (by decide +kernel)⟩
          rw [List.lookup_cons] at hp
          split at hp
          · rename_i hc
            have hc := eq_of_beq hc
            subst hc
            rw [xg_NoInputs] at hC
            cases hC
            have e : tb.lookup ("NoInputs" : Str) = some (([] : List Str), (["NoInputs", "WorldError", "ValueError", "Exception", "BaseException", "object"] : List Str)) := by decide +kernel
            rw [e] at ht
            cases ht
            exact ⟨by show _ = flW ("NoInputs" : Str); decide +kernel, (exm_by xe_NoTick xi_NoTick xt_NoTick xs_NoInputs_NoTick).trans (by decide +kernel)⟩
          rw [List.lookup_cons] at hp
          split at hp
          · rename_i hc
            have hc := eq_of_beq hc
            subst hc
            rw [xg_NoSeat] at hC
            cases hC
            have e : tb.lookup ("NoSeat" : Str) = some (([] : List Str), (["NoSeat", "WorldError", "ValueError", "Exception", "BaseException", "object"] : List Str)) := by decide +kernel
            rw [e] at ht
            cases ht
            exact ⟨by show _ = flW ("NoSeat" : Str); decide +kernel, (exm_by xe_NoTick xi_NoTick xt_NoTick xs_NoSeat_NoTick).trans (by decide +kernel)⟩
          rw [List.lookup_cons] at hp
          split at hp
          · rename_i hc
            have hc := eq_of_beq hc
            subst hc
            rw [xg_NotOpen] at hC
            cases hC
            have e : tb.lookup ("NotOpen" : Str) = some (([] : List Str), (["NotOpen", "WorldError", "ValueError", "Exception", "BaseException", "object"] : List Str)) := by decide +kernel
            rw [e] at ht
            cases ht
            exact ⟨by show _ = flW ("NotOpen" : Str); decide +kernel, (exm_by xe_NoTick xi_NoTick xt_NoTick xs_NotOpen_NoTick).trans (by decide +kernel)⟩
          rw [List.lookup_cons] at hp
          split at hp
          · rename_i hc
            have hc := eq_of_beq hc
            subst hc
            rw [xg_NotWaiting] at hC
            cases hC
            have e : tb.lookup ("NotWaiting" : Str) = some (([] : List Str), (["NotWaiting", "WorldError", "ValueError", "Exception", "BaseException", "object"] : List Str)) := by decide +kernel
            rw [e] at ht
            cases ht
            exact ⟨by show _ = flW ("NotWaiting" : Str); decide +kernel, (exm_by xe_NoTick xi_NoTick xt_NoTick xs_NotWaiting_NoTick).trans (by decide +kernel)⟩
          rw [List.lookup_cons] at hp
          split at hp
          · rename_i hc
            have hc := eq_of_beq hc
            subst hc
            rw [xg_NoTick] at hC
            cases hC
            have e : tb.lookup ("NoTick" : Str) = some (([] : List Str), (["NoTick", "WorldError", "ValueError", "Exception", "BaseException", "object"] : List Str)) := by decide +kernel
            rw [e] at ht
            cases ht
            exact ⟨by show _ = flW ("NoTick" : Str); decide +kernel, (exm_by xe_NoTick xi_NoTick xt_NoTick xs_NoTick_NoTick).trans (by decide +kernel)⟩
          rw [List.lookup_cons] at hp
          split at hp
          · rename_i hc
            have hc := eq_of_beq hc
            subst hc
            rw [xg_Gap] at hC
            cases hC
            have e : tb.lookup ("Gap" : Str) = some (([] : List Str), (["Gap", "WorldError", "ValueError", "Exception", "BaseException", "object"] : List Str)) := by decide +kernel
            rw [e] at ht
            cases ht
            exact ⟨by show _ = flW ("Gap" : Str); decide +kernel, (exm_by xe_NoTick xi_NoTick xt_NoTick xs_Gap_NoTick).trans (by decide +kernel)⟩
          cases hp
        · cases hC
      · refine ⟨by decide +kernel, .ref C_NotOpen, PySem.W.mg_of X G xg_NotOpen, fun c C hC ns anc ht => ?_⟩
        have hC : clK K c = some C := hC
        unfold clK at hC
        split at hC
        · rename_i ht0
          obtain ⟨p, hp⟩ := Option.isSome_iff_exists.mp ht0
          unfold tb at hp
          rw [List.lookup_cons] at hp
          split at hp
          · rename_i hc
            have hc := eq_of_beq hc
            subst hc
            rw [xg_NoNumber] at hC
            cases hC
            have e : tb.lookup ("NoNumber" : Str) = some (([] : List Str), (["NoNumber", "WorldError", "ValueError", "Exception", "BaseException", "object"] : List Str)) := by decide +kernel
            rw [e] at ht
            cases ht
            exact ⟨by show _ = flW ("NoNumber" : Str); decide +kernel, (exm_by xe_NotOpen xi_NotOpen xt_NotOpen xs_NoNumber_NotOpen).trans (by decide +kernel)⟩
          rw [List.lookup_cons] at hp
          split at hp
          · rename_i hc
            have hc := eq_of_beq hc
            subst hc
            rw [xg_NoInputs] at hC
            cases hC
            have e : tb.lookup ("NoInputs" : Str) = some (([] : List Str), (["NoInputs", "WorldError", "ValueError", "Exception", "BaseException", "object"] : List Str)) := by decide +kernel
            rw [e] at ht
            cases ht
            exact ⟨by show _ = flW ("NoInputs" : Str); decide +kernel, (exm_by xe_NotOpen xi_NotOpen xt_NotOpen xs_NoInputs_NotOpen).trans (by decide +kernel)⟩
          rw [List.lookup_cons] at hp
          split at hp
          · rename_i hc
            have hc := eq_of_beq hc
            subst hc
            rw [xg_NoSeat] at hC
            cases hC
            have e : tb.lookup ("NoSeat" : Str) = some (([] : List Str), (["NoSeat", "WorldError", "ValueError", "Exception", "BaseException", "object"] : List Str)) := by decide +kernel
            rw [e] at ht
            cases ht
            exact ⟨by show _ = flW ("NoSeat" : Str); decide +kernel, (exm_by xe_NotOpen xi_NotOpen xt_NotOpen xs_NoSeat_NotOpen).trans (by decide +kernel)⟩
          rw [List.lookup_cons] at hp
          split at hp
          · rename_i hc
            have hc := eq_of_beq hc
            subst hc
            rw [xg_NotOpen] at hC
            cases hC
            have e : tb.lookup ("NotOpen" : Str) = some (([] : List Str), (["NotOpen", "WorldError", "ValueError", "Exception", "BaseException", "object"] : List Str)) := by decide +kernel
            rw [e] at ht
            cases ht
            exact ⟨by show _ = flW ("NotOpen" : Str); decide +kernel, (exm_by xe_NotOpen xi_NotOpen xt_NotOpen xs_NotOpen_NotOpen).trans (by decide +kernel)⟩
          rw [List.lookup_cons] at hp
          split at hp
          · rename_i hc
            have hc := eq_of_beq hc
            subst hc
            rw [xg_NotWaiting] at hC
            cases hC
            have e : tb.lookup ("NotWaiting" : Str) = some (([] : List Str), (["NotWaiting", "WorldError", "ValueError", "Exception", "BaseException", "object"] : List Str)) := by decide +kernel
            rw [e] at ht
            cases ht
            exact ⟨by show _ = flW ("NotWaiting" : Str); decide +kernel, (exm_by xe_NotOpen xi_NotOpen xt_NotOpen xs_NotWaiting_NotOpen).trans (by decide +kernel)⟩
          rw [List.lookup_cons] at hp
          split at hp
          · rename_i hc
            have hc := eq_of_beq hc
            subst hc
            rw [xg_NoTick] at hC
            cases hC
            have e : tb.lookup ("NoTick" : Str) = some (([] : List Str), (["NoTick", "WorldError", "ValueError", "Exception", "BaseException", "object"] : List Str)) := by decide +kernel
            rw [e] at ht
            cases ht
            exact ⟨by show _ = flW ("NoTick" : Str); decide +kernel, (exm_by xe_NotOpen xi_NotOpen xt_NotOpen xs_NoTick_NotOpen).trans (by decide +kernel)⟩
          rw [List.lookup_cons] at hp
          split at hp
          · rename_i hc
            have hc := eq_of_beq hc
            subst hc
            rw [xg_Gap] at hC
            cases hC
            have e : tb.lookup ("Gap" : Str) = some (([] : List Str), (["Gap", "WorldError", "ValueError", "Exception", "BaseException", "object"] : List Str)) := by decide +kernel
            rw [e] at ht
            cases ht
            exact ⟨by show _ = flW ("Gap" : Str); decide +kernel, (exm_by xe_NotOpen xi_NotOpen xt_NotOpen xs_Gap_NotOpen).trans (by decide +kernel)⟩
          cases hp
        · cases hC
      · refine ⟨by decide +kernel, .ref C_Gap, PySem.W.mg_of X G xg_Gap, fun c C hC ns anc ht => ?_⟩
        have hC : clK K c = some C := hC
        unfold clK at hC
        split at hC
        · rename_i ht0
          obtain ⟨p, hp⟩ := Option.isSome_iff_exists.mp ht0
          unfold tb at hp
          rw [List.lookup_cons] at hp
          split at hp
          · rename_i hc
            have hc := eq_of_beq hc
            subst hc
            rw [xg_NoNumber] at hC
            cases hC
            have e : tb.lookup ("NoNumber" : Str) = some (([] : List Str), (["NoNumber", "WorldError", "ValueError", "Exception", "BaseException", "object"] : List Str)) := by decide +kernel
            rw [e] at ht
            cases ht
            exact ⟨by show _ = flW ("NoNumber" : Str); decide +kernel, (exm_by xe_Gap xi_Gap xt_Gap xs_NoNumber_Gap).trans (by decide +kernel)⟩
          rw [List.lookup_cons] at hp
          split at hp
          · rename_i hc
            have hc := eq_of_beq hc
            subst hc
            rw [xg_NoInputs] at hC
            cases hC
            have e : tb.lookup ("NoInputs" : Str) = some (([] : List Str), (["NoInputs", "WorldError", "ValueError", "Exception", "BaseException", "object"] : List Str)) := by decide +kernel
            rw [e] at ht
            cases ht
            exact ⟨by show _ = flW ("NoInputs" : Str); decide +kernel, (exm_by xe_Gap xi_Gap xt_Gap xs_NoInputs_Gap).trans (by decide +kernel)⟩
          rw [List.lookup_cons] at hp
          split at hp
          · rename_i hc
            have hc := eq_of_beq hc
            subst hc
            rw [xg_NoSeat] at hC
            cases hC
            have e : tb.lookup ("NoSeat" : Str) = some (([] : List Str), (["NoSeat", "WorldError", "ValueError", "Exception", "BaseException", "object"] : List Str)) := by decide +kernel
            rw [e] at ht
            cases ht
            exact ⟨by show _ = flW ("NoSeat" : Str); decide +kernel, (exm_by xe_Gap xi_Gap xt_Gap xs_NoSeat_Gap).trans (by decide +kernel)⟩
          rw [List.lookup_cons] at hp
          split at hp
          · rename_i hc
            have hc := eq_of_beq hc
            subst hc
            rw [xg_NotOpen] at hC
            cases hC
            have e : tb.lookup ("NotOpen" : Str) = some (([] : List Str), (["NotOpen", "WorldError", "ValueError", "Exception", "BaseException", "object"] : List Str)) := by decide +kernel
            rw [e] at ht
            cases ht
            exact ⟨by show _ = flW ("NotOpen" : Str); decide +kernel, (exm_by xe_Gap xi_Gap xt_Gap xs_NotOpen_Gap).trans (by decide +kernel)⟩
          rw [List.lookup_cons] at hp
          split at hp
          · rename_i hc
            have hc := eq_of_beq hc
            subst hc
            rw [xg_NotWaiting] at hC
            cases hC
            have e : tb.lookup ("NotWaiting" : Str) = some (([] : List Str), (["NotWaiting", "WorldError", "ValueError", "Exception", "BaseException", "object"] : List Str)) := by decide +kernel
            rw [e] at ht
            cases ht
            exact ⟨by show _ = flW ("NotWaiting" : Str); decide +kernel, (exm_by xe_Gap xi_Gap xt_Gap xs_NotWaiting_Gap).trans (by decide +kernel)⟩
          rw [List.lookup_cons] at hp
          split at hp
          · rename_i hc
            have hc := eq_of_beq hc
            subst hc
            rw [xg_NoTick] at hC
            cases hC
            have e : tb.lookup ("NoTick" : Str) = some (([] : List Str), (["NoTick", "WorldError", "ValueError", "Exception", "BaseException", "object"] : List Str)) := by decide +kernel
            rw [e] at ht
            cases ht
            exact ⟨by show _ = flW ("NoTick" : Str); decide +kernel, (exm_by xe_Gap xi_Gap xt_Gap xs_NoTick_Gap).trans (by decide +kernel)⟩
          rw [List.lookup_cons] at hp
          split at hp
          · rename_i hc
            have hc := eq_of_beq hc
            subst hc
            rw [xg_Gap] at hC
            cases hC
            have e : tb.lookup ("Gap" : Str) = some (([] : List Str), (["Gap", "WorldError", "ValueError", "Exception", "BaseException", "object"] : List Str)) := by decide +kernel
            rw [e] at ht
            cases ht
            exact ⟨by show _ = flW ("Gap" : Str); decide +kernel, (exm_by xe_Gap xi_Gap xt_Gap xs_Gap_Gap).trans (by decide +kernel)⟩
          cases hp
        · cases hC
      · refine ⟨by decide +kernel, .ref C_NoInputs, PySem.W.mg_of X G xg_NoInputs, fun c C hC ns anc ht => ?_⟩
        have hC : clK K c = some C := hC
        unfold clK at hC
        split at hC
        · rename_i ht0
          obtain ⟨p, hp⟩ := Option.isSome_iff_exists.mp ht0
          unfold tb at hp
          rw [List.lookup_cons] at hp
          split at hp
          · rename_i hc
            have hc := eq_of_beq hc
            subst hc
            rw [xg_NoNumber] at hC
            cases hC
            have e : tb.lookup ("NoNumber" : Str) = some (([] : List Str), (["NoNumber", "WorldError", "ValueError", "Exception", "BaseException", "object"] : List Str)) := by decide +kernel
            rw [e] at ht
            cases ht
            exact ⟨by show _ = flW ("NoNumber" : Str); decide +kernel, (exm_by xe_NoInputs xi_NoInputs xt_NoInputs xs_NoNumber_NoInputs).trans (by decide +kernel)⟩
          rw [List.lookup_cons] at hp
          split at hp
          · rename_i hc
            have hc := eq_of_beq hc
            subst hc
            rw [xg_NoInputs] at hC
            cases hC
            have e : tb.lookup ("NoInputs" : Str) = some (([] : List Str), (["NoInputs", "WorldError", "ValueError", "Exception", "BaseException", "object"] : List Str)) := by decide +kernel
            rw [e] at ht
            cases ht
            exact ⟨by show _ = flW ("NoInputs" : Str); decide +kernel, (exm_by xe_NoInputs xi_NoInputs xt_NoInputs xs_NoInputs_NoInputs).trans (by decide +kernel)⟩
          rw [List.lookup_cons] at hp
          split at hp
          · rename_i hc
            have hc := eq_of_beq hc
            subst hc
            rw [xg_NoSeat] at hC
            cases hC
            have e : tb.lookup ("NoSeat" : Str) = some (([] : List Str), (["NoSeat", "WorldError", "ValueError", "Exception", "BaseException", "object"] : List Str)) := by decide +kernel
            rw [e] at ht
            cases ht
            exact ⟨by show _ = flW ("NoSeat" : Str); decide +kernel, (exm_by xe_NoInputs xi_NoInputs xt_NoInputs xs_NoSeat_NoInputs).trans (by decide +kernel)⟩
          rw [List.lookup_cons] at hp
          split at hp
          · rename_i hc
            have hc := eq_of_beq hc
            subst hc
            rw [xg_NotOpen] at hC
            cases hC
            have e : tb.lookup ("NotOpen" : Str) = some (([] : List Str), (["NotOpen", "WorldError", "ValueError", "Exception", "BaseException", "object"] : List Str)) := by decide +kernel
            rw [e] at ht
            cases ht
            exact ⟨by show _ = flW ("NotOpen" : Str); decide +kernel, (exm_by xe_NoInputs xi_NoInputs xt_NoInputs xs_NotOpen_NoInputs).trans (by decide +kernel)⟩
          rw [List.lookup_cons] at hp
          split at hp
          · rename_i hc
            have hc := eq_of_beq hc
            subst hc
            rw [xg_NotWaiting] at hC
            cases hC
            have e : tb.lookup ("NotWaiting" : Str) = some (([] : List Str), (["NotWaiting", "WorldError", "ValueError", "Exception", "BaseException", "object"] : List Str)) := by decide +kernel
            rw [e] at ht
            cases ht
            exact ⟨by show _ = flW ("NotWaiting" : Str); decide +kernel, (exm_by xe_NoInputs xi_NoInputs xt_NoInputs xs_NotWaiting_NoInputs).trans (by decide +kernel)⟩
          rw [List.lookup_cons] at hp
          split at hp
          · rename_i hc
            have hc := eq_of_beq hc
            subst hc
            rw [xg_NoTick] at hC
            cases hC
            have e : tb.lookup ("NoTick" : Str) = some (([] : List Str), (["NoTick", "WorldError", "ValueError", "Exception", "BaseException", "object"] : List Str)) := by decide +kernel
            rw [e] at ht
            cases ht
            exact ⟨by show _ = flW ("NoTick" : Str); decide +kernel, (exm_by xe_NoInputs xi_NoInputs xt_NoInputs xs_NoTick_NoInputs).trans (by decide +kernel)⟩
          rw [List.lookup_cons] at hp
          split at hp
          · rename_i hc
            have hc := eq_of_beq hc
            subst hc
            rw [xg_Gap] at hC
            cases hC
            have e : tb.lookup ("Gap" : Str) = some (([] : List Str), (["Gap", "WorldError", "ValueError", "Exception", "BaseException", "object"] : List Str)) := by decide +kernel
            rw [e] at ht
            cases ht
            exact ⟨by show _ = flW ("Gap" : Str); decide +kernel, (exm_by xe_NoInputs xi_NoInputs xt_NoInputs xs_Gap_NoInputs).trans (by decide +kernel)⟩
          cases hp
        · cases hC
    · show ns = flW x
      unfold flW
      rw [ht]
    · skip
      have hC : clK K c = some C := hC
      unfold clK at hC
      split at hC
      · rename_i ht0
        obtain ⟨p, hp⟩ := Option.isSome_iff_exists.mp ht0
        unfold tb at hp
        rw [List.lookup_cons] at hp
        split at hp
        · rename_i hc
          have hc := eq_of_beq hc
          subst hc
          rw [xg_NoNumber] at hC
          cases hC
          refine ⟨⟨xA_NoNumber, xB_NoNumber, xe_NoNumber, xD_NoNumber⟩, fun f hf => ?_⟩
          have e : (wd K).fl ("NoNumber" : Str) = ([] : List Str) := by show flW ("NoNumber" : Str) = ([] : List Str); decide +kernel
          rw [e] at hf
          cases hf
        rw [List.lookup_cons] at hp
        split at hp
        · rename_i hc
          have hc := eq_of_beq hc
          subst hc
          rw [xg_NoInputs] at hC
          cases hC
          refine ⟨⟨xA_NoInputs, xB_NoInputs, xe_NoInputs, xD_NoInputs⟩, fun f hf => ?_⟩
          have e : (wd K).fl ("NoInputs" : Str) = ([] : List Str) := by show flW ("NoInputs" : Str) = ([] : List Str); decide +kernel
          rw [e] at hf
          cases hf
        rw [List.lookup_cons] at hp
        split at hp
        · rename_i hc
          have hc := eq_of_beq hc
          subst hc
          rw [xg_NoSeat] at hC
          cases hC
          refine ⟨⟨xA_NoSeat, xB_NoSeat, xe_NoSeat, xD_NoSeat⟩, fun f hf => ?_⟩
          have e : (wd K).fl ("NoSeat" : Str) = ([] : List Str) := by show flW ("NoSeat" : Str) = ([] : List Str); decide +kernel
          rw [e] at hf
          cases hf
        rw [List.lookup_cons] at hp
        split at hp
        · rename_i hc
          have hc := eq_of_beq hc
          subst hc
          rw [xg_NotOpen] at hC
          cases hC
          refine ⟨⟨xA_NotOpen, xB_NotOpen, xe_NotOpen, xD_NotOpen⟩, fun f hf => ?_⟩
          have e : (wd K).fl ("NotOpen" : Str) = ([] : List Str) := by show flW ("NotOpen" : Str) = ([] : List Str); decide +kernel
          rw [e] at hf
          cases hf
        rw [List.lookup_cons] at hp
        split at hp
        · rename_i hc
          have hc := eq_of_beq hc
          subst hc
          rw [xg_NotWaiting] at hC
          cases hC
          refine ⟨⟨xA_NotWaiting, xB_NotWaiting, xe_NotWaiting, xD_NotWaiting⟩, fun f hf => ?_⟩
          have e : (wd K).fl ("NotWaiting" : Str) = ([] : List Str) := by show flW ("NotWaiting" : Str) = ([] : List Str); decide +kernel
          rw [e] at hf
          cases hf
        rw [List.lookup_cons] at hp
        split at hp
        · rename_i hc
          have hc := eq_of_beq hc
          subst hc
          rw [xg_NoTick] at hC
          cases hC
          refine ⟨⟨xA_NoTick, xB_NoTick, xe_NoTick, xD_NoTick⟩, fun f hf => ?_⟩
          have e : (wd K).fl ("NoTick" : Str) = ([] : List Str) := by show flW ("NoTick" : Str) = ([] : List Str); decide +kernel
          rw [e] at hf
          cases hf
        rw [List.lookup_cons] at hp
        split at hp
        · rename_i hc
          have hc := eq_of_beq hc
          subst hc
          rw [xg_Gap] at hC
          cases hC
          refine ⟨⟨xA_Gap, xB_Gap, xe_Gap, xD_Gap⟩, fun f hf => ?_⟩
          have e : (wd K).fl ("Gap" : Str) = ([] : List Str) := by show flW ("Gap" : Str) = ([] : List Str); decide +kernel
          rw [e] at hf
          cases hf
        cases hp
      · cases hC
    · unfold Gam at hx
      split at hx
      · rename_i hc
        subst hc
        cases hx
        exact ⟨_, .int 256, PySem.W.mg_of X G m_BYTE, ⟨t_BYTE, rfl⟩, fun _ _ _ => rfl, by decide +kernel⟩
      split at hx
      · rename_i hc
        subst hc
        cases hx
        exact ⟨_, .int 100000, PySem.W.mg_of X G m_MOST_INPUTS, ⟨t_MOST_INPUTS, rfl⟩, fun _ _ _ => rfl, by decide +kernel⟩
      split at hx
      · rename_i hc
        subst hc
        cases hx
        exact ⟨_, .int 4, PySem.W.mg_of X G m_MOST_SEATS, ⟨t_MOST_SEATS, rfl⟩, fun _ _ _ => rfl, by decide +kernel⟩
      split at hx
      · rename_i hc
        subst hc
        cases hx
        exact ⟨_, .int 100000, PySem.W.mg_of X G m_LAST_TICK, ⟨t_LAST_TICK, rfl⟩, fun _ _ _ => rfl, by decide +kernel⟩
      split at hx
      · rename_i hc
        subst hc
        cases hx
        exact ⟨_, .str "waiting", PySem.W.mg_of X G m_WAITING, ⟨t_WAITING, rfl⟩, fun _ _ _ => rfl, by decide +kernel⟩
      split at hx
      · rename_i hc
        subst hc
        cases hx
        exact ⟨_, .str "open", PySem.W.mg_of X G m_OPEN, ⟨t_OPEN, rfl⟩, fun _ _ _ => rfl, by decide +kernel⟩
      split at hx
      · rename_i hc
        subst hc
        cases hx
        exact ⟨_, .str "closed", PySem.W.mg_of X G m_CLOSED, ⟨t_CLOSED, rfl⟩, fun _ _ _ => rfl, by decide +kernel⟩
      split at hx
      · rename_i hc
        subst hc
        cases hx
        exact ⟨_, .str "tell", PySem.W.mg_of X G m_TELL, ⟨t_TELL, rfl⟩, fun _ _ _ => rfl, by decide +kernel⟩
      split at hx
      · rename_i hc
        subst hc
        cases hx
        exact ⟨_, .str "close", PySem.W.mg_of X G m_CLOSE, ⟨t_CLOSE, rfl⟩, fun _ _ _ => rfl, by decide +kernel⟩
      cases hx
    · simp only [bltNames, List.mem_cons, List.not_mem_nil, or_false] at hx
      rcases hx with rfl | rfl | rfl | rfl | rfl | rfl | rfl | rfl | rfl | rfl | rfl | rfl | rfl | rfl | rfl | rfl | rfl | rfl | rfl | rfl | rfl
      · exact PySem.W.mg_none_of X G z_len
      · exact PySem.W.mg_none_of X G z_int
      · exact PySem.W.mg_none_of X G z_bool
      · exact PySem.W.mg_none_of X G z_str
      · exact PySem.W.mg_none_of X G z_tuple
      · exact PySem.W.mg_none_of X G z_list
      · exact PySem.W.mg_none_of X G z_abs
      · exact PySem.W.mg_none_of X G z_min
      · exact PySem.W.mg_none_of X G z_max
      · exact PySem.W.mg_none_of X G z_sum
      · exact PySem.W.mg_none_of X G z_all
      · exact PySem.W.mg_none_of X G z_any
      · exact PySem.W.mg_none_of X G z_range
      · exact PySem.W.mg_none_of X G z_zip
      · exact PySem.W.mg_none_of X G z_enumerate
      · exact PySem.W.mg_none_of X G z_reversed
      · exact PySem.W.mg_none_of X G z_isinstance
      · exact PySem.W.mg_none_of X G z_dict
      · exact PySem.W.mg_none_of X G z_sorted
      · exact PySem.W.mg_none_of X G z_set
      · exact PySem.W.mg_none_of X G z_repr
  refine ⟨PySem.W.fnOf "law" "law" (defArgs st_law) (defBody st_law) (defScope st_law) .none kV37 dc37 pm37 an37 cd37 ct37, fun s v => .of_eq rfl, fun base _ _ => ?_⟩
  have F0 := fun_mk (x := "is_integer") (qual := "is_integer") (st := st_is_integer) l0 c0 k0
  have h0 : ∀ g, g ∈ tc_is_integer.fs → DfA P w K mg base (wd K) 0 Phi g := by
    intro g hg
    cases hg
  have D0 : Df P w K mg base (wd K) 1 "is_integer" (Phi "is_integer") := df_ok (Φ := Phi) (Γ := Gam) (c := tc_is_integer) (m := 60) (n := 100) F0 (PySem.W.mg_of X G a0) (F0.binds (ps := ["thing"]) fun _ _ _ _ _ _ us hl => match us, hl with | [_], _ => rfl) (by decide +kernel) sc_is_integer tr_is_integer h0 gd (by decide +kernel) k_is_integer
  have F12 := fun_mk (x := "end_of") (qual := "Book.end_of") (st := st_Book_end_of) l12 c12 k12
  have h12 : ∀ g, g ∈ tc_Book_end_of.fs → DfA P w K mg base (wd K) 0 Phi g := by
    intro g hg
    simp only [tc_Book_end_of, List.mem_cons, List.not_mem_nil, or_false] at hg
    rcases hg with rfl | rfl
    · refine DfA.of_ic fun c C hC => ?_
      have hC : ciK K c = some C := hC
      unfold ciK at hC
      split at hC
      · rename_i ht0
        simp only [cis, List.contains_cons, List.contains_nil, Bool.or_false, Bool.or_eq_true, beq_iff_eq] at ht0
        subst ht0
        · rw [xg_Book] at hC
          cases hC
          exact ⟨⟨pg_Book, hd_Book, po_Book, sa_Book⟩, nf_Book_begins⟩
      · cases hC
    · refine DfA.of_ic fun c C hC => ?_
      have hC : ciK K c = some C := hC
      unfold ciK at hC
      split at hC
      · rename_i ht0
        simp only [cis, List.contains_cons, List.contains_nil, Bool.or_false, Bool.or_eq_true, beq_iff_eq] at ht0
        subst ht0
        · rw [xg_Book] at hC
          cases hC
          exact ⟨⟨pg_Book, hd_Book, po_Book, sa_Book⟩, nf_Book_told⟩
      · cases hC
  have B12 := F12.binds (ps := ["self", "seat"]) fun _ _ _ _ _ _ us hl => match us, hl with | [_, _], _ => rfl
  have E12 : FnOk P w K mg base (L2.CX P w) 1 f12 _ ["self", "seat"] (spV (wd K) s_Book_end_of) := fn_ok (Φ := Phi) (Γ := Gam) (c := tc_Book_end_of) (m := 60) (n := 100) F12 sc_Book_end_of tr_Book_end_of h12 gd (by decide +kernel) k_Book_end_of
  have F22 := fun_mk (x := "deeds") (qual := "Book.deeds") (st := st_Book_deeds) l22 c22 k22
  have h22 : ∀ g, g ∈ tc_Book_deeds.fs → DfA P w K mg base (wd K) 0 Phi g := by
    intro g hg
    simp only [tc_Book_deeds, List.mem_cons, List.not_mem_nil, or_false] at hg
    subst hg
    · refine DfA.of_ic fun c C hC => ?_
      have hC : ciK K c = some C := hC
      unfold ciK at hC
      split at hC
      · rename_i ht0
        simp only [cis, List.contains_cons, List.contains_nil, Bool.or_false, Bool.or_eq_true, beq_iff_eq] at ht0
        subst ht0
        · rw [xg_Book] at hC
          cases hC
          exact ⟨⟨pg_Book, hd_Book, po_Book, sa_Book⟩, nf_Book_done⟩
      · cases hC
  have B22 := F22.binds (ps := ["self"]) fun _ _ _ _ _ _ us hl => match us, hl with | [_], _ => rfl
  have E22 : FnOk P w K mg base (L2.CX P w) 1 f22 _ ["self"] (spV (wd K) s_Book_deeds) := fn_ok (Φ := Phi) (Γ := Gam) (c := tc_Book_deeds) (m := 60) (n := 100) F22 sc_Book_deeds tr_Book_deeds h22 gd (by decide +kernel) k_Book_deeds
  have F23 := fun_mk (x := "_law_hand") (qual := "_law_hand") (st := st__law_hand) l23 c23 k23
  have h23 : ∀ g, g ∈ tc__law_hand.fs → DfA P w K mg base (wd K) 0 Phi g := by
    intro g hg
    cases hg
  have D23 : Df P w K mg base (wd K) 1 "_law_hand" (Phi "_law_hand") := df_ok (Φ := Phi) (Γ := Gam) (c := tc__law_hand) (m := 60) (n := 100) F23 (PySem.W.mg_of X G a23) (F23.binds (ps := ["script"]) fun _ _ _ _ _ _ us hl => match us, hl with | [_], _ => rfl) (by decide +kernel) sc__law_hand tr__law_hand h23 gd (by decide +kernel) k_law_hand
  have F24 := fun_mk (x := "_law_draw") (qual := "_law_draw") (st := st__law_draw) l24 c24 k24
  have h24 : ∀ g, g ∈ tc__law_draw.fs → DfA P w K mg base (wd K) 0 Phi g := by
    intro g hg
    cases hg
  have D24 : Df P w K mg base (wd K) 1 "_law_draw" (Phi "_law_draw") := df_ok (Φ := Phi) (Γ := Gam) (c := tc__law_draw) (m := 60) (n := 100) F24 (PySem.W.mg_of X G a24) (F24.binds (ps := ["hand", "many"]) fun _ _ _ _ _ _ us hl => match us, hl with | [_, _], _ => rfl) (by decide +kernel) sc__law_draw tr__law_draw h24 gd (by decide +kernel) k_law_draw
  have F26 := fun_mk (x := "_law_end") (qual := "_law_end") (st := st__law_end) l26 c26 k26
  have h26 : ∀ g, g ∈ tc__law_end.fs → DfA P w K mg base (wd K) 0 Phi g := by
    intro g hg
    cases hg
  have D26 : Df P w K mg base (wd K) 1 "_law_end" (Phi "_law_end") := df_ok (Φ := Phi) (Γ := Gam) (c := tc__law_end) (m := 60) (n := 100) F26 (PySem.W.mg_of X G a26) (F26.binds (ps := ["seat"]) fun _ _ _ _ _ _ us hl => match us, hl with | [_], _ => rfl) (by decide +kernel) sc__law_end tr__law_end h26 gd (by decide +kernel) k_law_end
  have F31 := fun_mk (x := "_law_number_up_to") (qual := "_law_number_up_to") (st := st__law_number_up_to) l31 c31 k31
  have h31 : ∀ g, g ∈ tc__law_number_up_to.fs → DfA P w K mg base (wd K) 0 Phi g := by
    intro g hg
    cases hg
  have D31 : Df P w K mg base (wd K) 1 "_law_number_up_to" (Phi "_law_number_up_to") := df_ok (Φ := Phi) (Γ := Gam) (c := tc__law_number_up_to) (m := 60) (n := 100) F31 (PySem.W.mg_of X G a31) (F31.binds (ps := ["thing", "most"]) fun _ _ _ _ _ _ us hl => match us, hl with | [_, _], _ => rfl) (by decide +kernel) sc__law_number_up_to tr__law_number_up_to h31 gd (by decide +kernel) k_law_number_up_to
  have F1 := fun_mk (x := "is_within") (qual := "is_within") (st := st_is_within) l1 c1 k1
  have h1 : ∀ g, g ∈ tc_is_within.fs → DfA P w K mg base (wd K) 1 Phi g := by
    intro g hg
    simp only [tc_is_within, List.mem_cons, List.not_mem_nil, or_false] at hg
    subst hg
    · exact DfA.of_fn (D0.mono (by decide)) (by decide +kernel)
  have D1 : Df P w K mg base (wd K) 2 "is_within" (Phi "is_within") := df_ok (Φ := Phi) (Γ := Gam) (c := tc_is_within) (m := 60) (n := 100) F1 (PySem.W.mg_of X G a1) (F1.binds (ps := ["thing", "least", "most"]) fun _ _ _ _ _ _ us hl => match us, hl with | [_, _, _], _ => rfl) (by decide +kernel) sc_is_within tr_is_within h1 gd (by decide +kernel) k_is_within
  have F14 := fun_mk (x := "settled") (qual := "Book.settled") (st := st_Book_settled) l14 c14 k14
  have h14 : ∀ g, g ∈ tc_Book_settled.fs → DfA P w K mg base (wd K) 1 Phi g := by
    intro g hg
    simp only [tc_Book_settled, List.mem_cons, List.not_mem_nil, or_false] at hg
    rcases hg with rfl | rfl | rfl
    · refine DfA.of_mt fun c C hC hx => ?_
      have hC : ciK K c = some C := hC
      unfold ciK at hC
      split at hC
      · rename_i ht0
        simp only [cis, List.contains_cons, List.contains_nil, Bool.or_false, Bool.or_eq_true, beq_iff_eq] at ht0
        subst ht0
        · rw [xg_Book] at hC
          cases hC
          rw [mN_Book_end_of]
          exact ⟨f12, _, _, ⟨pg_Book, hd_Book, po_Book, sa_Book⟩, ⟨a12, i12, k12⟩, B12, E12.mono (by decide)⟩
      · cases hC
    · refine DfA.of_ic fun c C hC => ?_
      have hC : ciK K c = some C := hC
      unfold ciK at hC
      split at hC
      · rename_i ht0
        simp only [cis, List.contains_cons, List.contains_nil, Bool.or_false, Bool.or_eq_true, beq_iff_eq] at ht0
        subst ht0
        · rw [xg_Book] at hC
          cases hC
          exact ⟨⟨pg_Book, hd_Book, po_Book, sa_Book⟩, nf_Book_players⟩
      · cases hC
    · refine DfA.of_ic fun c C hC => ?_
      have hC : ciK K c = some C := hC
      unfold ciK at hC
      split at hC
      · rename_i ht0
        simp only [cis, List.contains_cons, List.contains_nil, Bool.or_false, Bool.or_eq_true, beq_iff_eq] at ht0
        subst ht0
        · rw [xg_Book] at hC
          cases hC
          exact ⟨⟨pg_Book, hd_Book, po_Book, sa_Book⟩, nf_Book_words⟩
      · cases hC
  have B14 := F14.binds (ps := ["self"]) fun _ _ _ _ _ _ us hl => match us, hl with | [_], _ => rfl
  have E14 : FnOk P w K mg base (L2.CX P w) 2 f14 _ ["self"] (spV (wd K) s_Book_settled) := fn_ok (Φ := Phi) (Γ := Gam) (c := tc_Book_settled) (m := 60) (n := 100) F14 sc_Book_settled tr_Book_settled h14 gd (by decide +kernel) k_Book_settled
  have F18 := fun_mk (x := "input_of") (qual := "Book.input_of") (st := st_Book_input_of) l18 c18 k18
  have h18 : ∀ g, g ∈ tc_Book_input_of.fs → DfA P w K mg base (wd K) 1 Phi g := by
    intro g hg
    simp only [tc_Book_input_of, List.mem_cons, List.not_mem_nil, or_false] at hg
    rcases hg with rfl | rfl | rfl | rfl
    · refine DfA.of_mt fun c C hC hx => ?_
      have hC : ciK K c = some C := hC
      unfold ciK at hC
      split at hC
      · rename_i ht0
        simp only [cis, List.contains_cons, List.contains_nil, Bool.or_false, Bool.or_eq_true, beq_iff_eq] at ht0
        subst ht0
        · rw [xg_Book] at hC
          cases hC
          rw [mN_Book_end_of]
          exact ⟨f12, _, _, ⟨pg_Book, hd_Book, po_Book, sa_Book⟩, ⟨a12, i12, k12⟩, B12, E12.mono (by decide)⟩
      · cases hC
    · refine DfA.of_ic fun c C hC => ?_
      have hC : ciK K c = some C := hC
      unfold ciK at hC
      split at hC
      · rename_i ht0
        simp only [cis, List.contains_cons, List.contains_nil, Bool.or_false, Bool.or_eq_true, beq_iff_eq] at ht0
        subst ht0
        · rw [xg_Book] at hC
          cases hC
          exact ⟨⟨pg_Book, hd_Book, po_Book, sa_Book⟩, nf_Book_words⟩
      · cases hC
    · refine DfA.of_ic fun c C hC => ?_
      have hC : ciK K c = some C := hC
      unfold ciK at hC
      split at hC
      · rename_i ht0
        simp only [cis, List.contains_cons, List.contains_nil, Bool.or_false, Bool.or_eq_true, beq_iff_eq] at ht0
        subst ht0
        · rw [xg_Book] at hC
          cases hC
          exact ⟨⟨pg_Book, hd_Book, po_Book, sa_Book⟩, nf_Book_begins⟩
      · cases hC
    · refine DfA.of_ic fun c C hC => ?_
      have hC : ciK K c = some C := hC
      unfold ciK at hC
      split at hC
      · rename_i ht0
        simp only [cis, List.contains_cons, List.contains_nil, Bool.or_false, Bool.or_eq_true, beq_iff_eq] at ht0
        subst ht0
        · rw [xg_Book] at hC
          cases hC
          exact ⟨⟨pg_Book, hd_Book, po_Book, sa_Book⟩, nf_Book_told⟩
      · cases hC
  have B18 := F18.binds (ps := ["self", "seat", "tick"]) fun _ _ _ _ _ _ us hl => match us, hl with | [_, _, _], _ => rfl
  have E18 : FnOk P w K mg base (L2.CX P w) 2 f18 _ ["self", "seat", "tick"] (spV (wd K) s_Book_input_of) := fn_ok (Φ := Phi) (Γ := Gam) (c := tc_Book_input_of) (m := 60) (n := 100) F18 sc_Book_input_of tr_Book_input_of h18 gd (by decide +kernel) k_Book_input_of
  have F27 := fun_mk (x := "_law_settled") (qual := "_law_settled") (st := st__law_settled) l27 c27 k27
  have h27 : ∀ g, g ∈ tc__law_settled.fs → DfA P w K mg base (wd K) 1 Phi g := by
    intro g hg
    simp only [tc__law_settled, List.mem_cons, List.not_mem_nil, or_false] at hg
    subst hg
    · exact DfA.of_fn (D26.mono (by decide)) (by decide +kernel)
  have D27 : Df P w K mg base (wd K) 2 "_law_settled" (Phi "_law_settled") := df_ok (Φ := Phi) (Γ := Gam) (c := tc__law_settled) (m := 60) (n := 100) F27 (PySem.W.mg_of X G a27) (F27.binds (ps := ["seats"]) fun _ _ _ _ _ _ us hl => match us, hl with | [_], _ => rfl) (by decide +kernel) sc__law_settled tr__law_settled h27 gd (by decide +kernel) k_law_settled
  have F28 := fun_mk (x := "_law_told_input") (qual := "_law_told_input") (st := st__law_told_input) l28 c28 k28
  have h28 : ∀ g, g ∈ tc__law_told_input.fs → DfA P w K mg base (wd K) 1 Phi g := by
    intro g hg
    simp only [tc__law_told_input, List.mem_cons, List.not_mem_nil, or_false] at hg
    subst hg
    · exact DfA.of_fn (D26.mono (by decide)) (by decide +kernel)
  have D28 : Df P w K mg base (wd K) 2 "_law_told_input" (Phi "_law_told_input") := df_ok (Φ := Phi) (Γ := Gam) (c := tc__law_told_input) (m := 60) (n := 100) F28 (PySem.W.mg_of X G a28) (F28.binds (ps := ["seat", "tick"]) fun _ _ _ _ _ _ us hl => match us, hl with | [_, _], _ => rfl) (by decide +kernel) sc__law_told_input tr__law_told_input h28 gd (by decide +kernel) k_law_told_input
  have F29 := fun_mk (x := "_law_told_inputs") (qual := "_law_told_inputs") (st := st__law_told_inputs) l29 c29 k29
  have h29 : ∀ g, g ∈ tc__law_told_inputs.fs → DfA P w K mg base (wd K) 1 Phi g := by
    intro g hg
    simp only [tc__law_told_inputs, List.mem_cons, List.not_mem_nil, or_false] at hg
    subst hg
    · exact DfA.of_fn (D24.mono (by decide)) (by decide +kernel)
  have D29 : Df P w K mg base (wd K) 2 "_law_told_inputs" (Phi "_law_told_inputs") := df_ok (Φ := Phi) (Γ := Gam) (c := tc__law_told_inputs) (m := 60) (n := 100) F29 (PySem.W.mg_of X G a29) (F29.binds (ps := ["hand"]) fun _ _ _ _ _ _ us hl => match us, hl with | [_], _ => rfl) (by decide +kernel) sc__law_told_inputs tr__law_told_inputs h29 gd (by decide +kernel) k_law_told_inputs
  have F32 := fun_mk (x := "_law_are_inputs") (qual := "_law_are_inputs") (st := st__law_are_inputs) l32 c32 k32
  have h32 : ∀ g, g ∈ tc__law_are_inputs.fs → DfA P w K mg base (wd K) 1 Phi g := by
    intro g hg
    simp only [tc__law_are_inputs, List.mem_cons, List.not_mem_nil, or_false] at hg
    subst hg
    · exact DfA.of_fn (D31.mono (by decide)) (by decide +kernel)
  have D32 : Df P w K mg base (wd K) 2 "_law_are_inputs" (Phi "_law_are_inputs") := df_ok (Φ := Phi) (Γ := Gam) (c := tc__law_are_inputs) (m := 60) (n := 100) F32 (PySem.W.mg_of X G a32) (F32.binds (ps := ["thing"]) fun _ _ _ _ _ _ us hl => match us, hl with | [_], _ => rfl) (by decide +kernel) sc__law_are_inputs tr__law_are_inputs h32 gd (by decide +kernel) k_law_are_inputs
  have F2 := fun_mk (x := "is_below") (qual := "is_below") (st := st_is_below) l2 c2 k2
  have h2 : ∀ g, g ∈ tc_is_below.fs → DfA P w K mg base (wd K) 2 Phi g := by
    intro g hg
    simp only [tc_is_below, List.mem_cons, List.not_mem_nil, or_false] at hg
    subst hg
    · exact DfA.of_fn (D1.mono (by decide)) (by decide +kernel)
  have D2 : Df P w K mg base (wd K) 3 "is_below" (Phi "is_below") := df_ok (Φ := Phi) (Γ := Gam) (c := tc_is_below) (m := 60) (n := 100) F2 (PySem.W.mg_of X G a2) (F2.binds (ps := ["thing", "many"]) fun _ _ _ _ _ _ us hl => match us, hl with | [_, _], _ => rfl) (by decide +kernel) sc_is_below tr_is_below h2 gd (by decide +kernel) k_is_below
  have F3 := fun_mk (x := "check_within") (qual := "check_within") (st := st_check_within) l3 c3 k3
  have h3 : ∀ g, g ∈ tc_check_within.fs → DfA P w K mg base (wd K) 2 Phi g := by
    intro g hg
    simp only [tc_check_within, List.mem_cons, List.not_mem_nil, or_false] at hg
    subst hg
    · exact DfA.of_fn (D1.mono (by decide)) (by decide +kernel)
  have D3 : Df P w K mg base (wd K) 3 "check_within" (Phi "check_within") := df_ok (Φ := Phi) (Γ := Gam) (c := tc_check_within) (m := 60) (n := 100) F3 (PySem.W.mg_of X G a3) (F3.binds (ps := ["thing", "least", "most"]) fun _ _ _ _ _ _ us hl => match us, hl with | [_, _, _], _ => rfl) (by decide +kernel) sc_check_within tr_check_within h3 gd (by decide +kernel) k_check_within
  have F20 := fun_mk (x := "inputs_at") (qual := "Book.inputs_at") (st := st_Book_inputs_at) l20 c20 k20
  have h20 : ∀ g, g ∈ tc_Book_inputs_at.fs → DfA P w K mg base (wd K) 2 Phi g := by
    intro g hg
    simp only [tc_Book_inputs_at, List.mem_cons, List.not_mem_nil, or_false] at hg
    rcases hg with rfl | rfl
    · refine DfA.of_mt fun c C hC hx => ?_
      have hC : ciK K c = some C := hC
      unfold ciK at hC
      split at hC
      · rename_i ht0
        simp only [cis, List.contains_cons, List.contains_nil, Bool.or_false, Bool.or_eq_true, beq_iff_eq] at ht0
        subst ht0
        · rw [xg_Book] at hC
          cases hC
          rw [mN_Book_input_of]
          exact ⟨f18, _, _, ⟨pg_Book, hd_Book, po_Book, sa_Book⟩, ⟨a18, i18, k18⟩, B18, E18.mono (by decide)⟩
      · cases hC
    · refine DfA.of_ic fun c C hC => ?_
      have hC : ciK K c = some C := hC
      unfold ciK at hC
      split at hC
      · rename_i ht0
        simp only [cis, List.contains_cons, List.contains_nil, Bool.or_false, Bool.or_eq_true, beq_iff_eq] at ht0
        subst ht0
        · rw [xg_Book] at hC
          cases hC
          exact ⟨⟨pg_Book, hd_Book, po_Book, sa_Book⟩, nf_Book_players⟩
      · cases hC
  have B20 := F20.binds (ps := ["self", "tick"]) fun _ _ _ _ _ _ us hl => match us, hl with | [_, _], _ => rfl
  have E20 : FnOk P w K mg base (L2.CX P w) 3 f20 _ ["self", "tick"] (spV (wd K) s_Book_inputs_at) := fn_ok (Φ := Phi) (Γ := Gam) (c := tc_Book_inputs_at) (m := 60) (n := 100) F20 sc_Book_inputs_at tr_Book_inputs_at h20 gd (by decide +kernel) k_Book_inputs_at
  have F30 := fun_mk (x := "_law_book_deed") (qual := "_law_book_deed") (st := st__law_book_deed) l30 c30 k30
  have h30 : ∀ g, g ∈ tc__law_book_deed.fs → DfA P w K mg base (wd K) 2 Phi g := by
    intro g hg
    simp only [tc__law_book_deed, List.mem_cons, List.not_mem_nil, or_false] at hg
    rcases hg with rfl | rfl | rfl | rfl
    · exact DfA.of_fn (D24.mono (by decide)) (by decide +kernel)
    · exact DfA.of_fn (D27.mono (by decide)) (by decide +kernel)
    · exact DfA.of_fn (D26.mono (by decide)) (by decide +kernel)
    · exact DfA.of_fn (D29.mono (by decide)) (by decide +kernel)
  have D30 : Df P w K mg base (wd K) 3 "_law_book_deed" (Phi "_law_book_deed") := df_ok (Φ := Phi) (Γ := Gam) (c := tc__law_book_deed) (m := 60) (n := 100) F30 (PySem.W.mg_of X G a30) (F30.binds (ps := ["hand", "seats"]) fun _ _ _ _ _ _ us hl => match us, hl with | [_, _], _ => rfl) (by decide +kernel) sc__law_book_deed tr__law_book_deed h30 gd (by decide +kernel) k_law_book_deed
  have F33 := fun_mk (x := "_law_account") (qual := "_law_account") (st := st__law_account) l33 c33 k33
  have h33 : ∀ g, g ∈ tc__law_account.fs → DfA P w K mg base (wd K) 2 Phi g := by
    intro g hg
    simp only [tc__law_account, List.mem_cons, List.not_mem_nil, or_false] at hg
    rcases hg with rfl | rfl | rfl | rfl
    · exact DfA.of_fn (D31.mono (by decide)) (by decide +kernel)
    · exact DfA.of_fn (D27.mono (by decide)) (by decide +kernel)
    · exact DfA.of_fn (D26.mono (by decide)) (by decide +kernel)
    · exact DfA.of_fn (D32.mono (by decide)) (by decide +kernel)
  have D33 : Df P w K mg base (wd K) 3 "_law_account" (Phi "_law_account") := df_ok (Φ := Phi) (Γ := Gam) (c := tc__law_account) (m := 60) (n := 100) F33 (PySem.W.mg_of X G a33) (F33.binds (ps := ["seats", "done", "deed"]) fun _ _ _ _ _ _ us hl => match us, hl with | [_, _, _], _ => rfl) (by decide +kernel) sc__law_account tr__law_account h33 gd (by decide +kernel) k_law_account
  have F4 := fun_mk (x := "is_input") (qual := "is_input") (st := st_is_input) l4 c4 k4
  have h4 : ∀ g, g ∈ tc_is_input.fs → DfA P w K mg base (wd K) 3 Phi g := by
    intro g hg
    simp only [tc_is_input, List.mem_cons, List.not_mem_nil, or_false] at hg
    subst hg
    · exact DfA.of_fn (D2.mono (by decide)) (by decide +kernel)
  have D4 : Df P w K mg base (wd K) 4 "is_input" (Phi "is_input") := df_ok (Φ := Phi) (Γ := Gam) (c := tc_is_input) (m := 60) (n := 100) F4 (PySem.W.mg_of X G a4) (F4.binds (ps := ["thing"]) fun _ _ _ _ _ _ us hl => match us, hl with | [_], _ => rfl) (by decide +kernel) sc_is_input tr_is_input h4 gd (by decide +kernel) k_is_input
  have F7 := fun_mk (x := "__init__") (qual := "Book.__init__") (st := st_Book___init__) l7 c7 k7
  have h7 : ∀ g, g ∈ tc_Book___init__.fs → DfA P w K mg base (wd K) 3 Phi g := by
    intro g hg
    simp only [tc_Book___init__, List.mem_cons, List.not_mem_nil, or_false] at hg
    rcases hg with rfl | rfl | rfl | rfl | rfl | rfl
    · exact DfA.of_fn (D3.mono (by decide)) (by decide +kernel)
    · refine DfA.of_ic fun c C hC => ?_
      have hC : ciK K c = some C := hC
      unfold ciK at hC
      split at hC
      · rename_i ht0
        simp only [cis, List.contains_cons, List.contains_nil, Bool.or_false, Bool.or_eq_true, beq_iff_eq] at ht0
        subst ht0
        · rw [xg_Book] at hC
          cases hC
          exact ⟨⟨pg_Book, hd_Book, po_Book, sa_Book⟩, nf_Book_players⟩
      · cases hC
    · refine DfA.of_ic fun c C hC => ?_
      have hC : ciK K c = some C := hC
      unfold ciK at hC
      split at hC
      · rename_i ht0
        simp only [cis, List.contains_cons, List.contains_nil, Bool.or_false, Bool.or_eq_true, beq_iff_eq] at ht0
        subst ht0
        · rw [xg_Book] at hC
          cases hC
          exact ⟨⟨pg_Book, hd_Book, po_Book, sa_Book⟩, nf_Book_words⟩
      · cases hC
    · refine DfA.of_ic fun c C hC => ?_
      have hC : ciK K c = some C := hC
      unfold ciK at hC
      split at hC
      · rename_i ht0
        simp only [cis, List.contains_cons, List.contains_nil, Bool.or_false, Bool.or_eq_true, beq_iff_eq] at ht0
        subst ht0
        · rw [xg_Book] at hC
          cases hC
          exact ⟨⟨pg_Book, hd_Book, po_Book, sa_Book⟩, nf_Book_begins⟩
      · cases hC
    · refine DfA.of_ic fun c C hC => ?_
      have hC : ciK K c = some C := hC
      unfold ciK at hC
      split at hC
      · rename_i ht0
        simp only [cis, List.contains_cons, List.contains_nil, Bool.or_false, Bool.or_eq_true, beq_iff_eq] at ht0
        subst ht0
        · rw [xg_Book] at hC
          cases hC
          exact ⟨⟨pg_Book, hd_Book, po_Book, sa_Book⟩, nf_Book_told⟩
      · cases hC
    · refine DfA.of_ic fun c C hC => ?_
      have hC : ciK K c = some C := hC
      unfold ciK at hC
      split at hC
      · rename_i ht0
        simp only [cis, List.contains_cons, List.contains_nil, Bool.or_false, Bool.or_eq_true, beq_iff_eq] at ht0
        subst ht0
        · rw [xg_Book] at hC
          cases hC
          exact ⟨⟨pg_Book, hd_Book, po_Book, sa_Book⟩, nf_Book_done⟩
      · cases hC
  have B7 := F7.binds (ps := ["self", "players"]) fun _ _ _ _ _ _ us hl => match us, hl with | [_, _], _ => rfl
  have E7 : FnOk P w K mg base (L2.CX P w) 4 f7 _ ["self", "players"] (spV (wd K) s_Book___init__) := fn_ok (Φ := Phi) (Γ := Gam) (c := tc_Book___init__) (m := 60) (n := 100) F7 sc_Book___init__ tr_Book___init__ h7 gd (by decide +kernel) k_Book___init__
  have F8 := fun_mk (x := "check_seat") (qual := "Book.check_seat") (st := st_Book_check_seat) l8 c8 k8
  have h8 : ∀ g, g ∈ tc_Book_check_seat.fs → DfA P w K mg base (wd K) 3 Phi g := by
    intro g hg
    simp only [tc_Book_check_seat, List.mem_cons, List.not_mem_nil, or_false] at hg
    rcases hg with rfl | rfl
    · exact DfA.of_fn (D2.mono (by decide)) (by decide +kernel)
    · refine DfA.of_ic fun c C hC => ?_
      have hC : ciK K c = some C := hC
      unfold ciK at hC
      split at hC
      · rename_i ht0
        simp only [cis, List.contains_cons, List.contains_nil, Bool.or_false, Bool.or_eq_true, beq_iff_eq] at ht0
        subst ht0
        · rw [xg_Book] at hC
          cases hC
          exact ⟨⟨pg_Book, hd_Book, po_Book, sa_Book⟩, nf_Book_players⟩
      · cases hC
  have B8 := F8.binds (ps := ["self", "seat"]) fun _ _ _ _ _ _ us hl => match us, hl with | [_, _], _ => rfl
  have E8 : FnOk P w K mg base (L2.CX P w) 4 f8 _ ["self", "seat"] (spV (wd K) s_Book_check_seat) := fn_ok (Φ := Phi) (Γ := Gam) (c := tc_Book_check_seat) (m := 60) (n := 100) F8 sc_Book_check_seat tr_Book_check_seat h8 gd (by decide +kernel) k_Book_check_seat
  have F21 := fun_mk (x := "inputs") (qual := "Book.inputs") (st := st_Book_inputs) l21 c21 k21
  have h21 : ∀ g, g ∈ tc_Book_inputs.fs → DfA P w K mg base (wd K) 3 Phi g := by
    intro g hg
    simp only [tc_Book_inputs, List.mem_cons, List.not_mem_nil, or_false] at hg
    rcases hg with rfl | rfl | rfl
    · exact DfA.of_fn (D2.mono (by decide)) (by decide +kernel)
    · refine DfA.of_mt fun c C hC hx => ?_
      have hC : ciK K c = some C := hC
      unfold ciK at hC
      split at hC
      · rename_i ht0
        simp only [cis, List.contains_cons, List.contains_nil, Bool.or_false, Bool.or_eq_true, beq_iff_eq] at ht0
        subst ht0
        · rw [xg_Book] at hC
          cases hC
          rw [mN_Book_settled]
          exact ⟨f14, _, _, ⟨pg_Book, hd_Book, po_Book, sa_Book⟩, ⟨a14, i14, k14⟩, B14, E14.mono (by decide)⟩
      · cases hC
    · refine DfA.of_mt fun c C hC hx => ?_
      have hC : ciK K c = some C := hC
      unfold ciK at hC
      split at hC
      · rename_i ht0
        simp only [cis, List.contains_cons, List.contains_nil, Bool.or_false, Bool.or_eq_true, beq_iff_eq] at ht0
        subst ht0
        · rw [xg_Book] at hC
          cases hC
          rw [mN_Book_inputs_at]
          exact ⟨f20, _, _, ⟨pg_Book, hd_Book, po_Book, sa_Book⟩, ⟨a20, i20, k20⟩, B20, E20.mono (by decide)⟩
      · cases hC
  have B21 := F21.binds (ps := ["self", "tick"]) fun _ _ _ _ _ _ us hl => match us, hl with | [_, _], _ => rfl
  have E21 : FnOk P w K mg base (L2.CX P w) 4 f21 _ ["self", "tick"] (spV (wd K) s_Book_inputs) := fn_ok (Φ := Phi) (Γ := Gam) (c := tc_Book_inputs) (m := 60) (n := 100) F21 sc_Book_inputs tr_Book_inputs h21 gd (by decide +kernel) k_Book_inputs
  have F5 := fun_mk (x := "are_inputs") (qual := "are_inputs") (st := st_are_inputs) l5 c5 k5
  have h5 : ∀ g, g ∈ tc_are_inputs.fs → DfA P w K mg base (wd K) 4 Phi g := by
    intro g hg
    simp only [tc_are_inputs, List.mem_cons, List.not_mem_nil, or_false] at hg
    subst hg
    · exact DfA.of_fn (D4.mono (by decide)) (by decide +kernel)
  have D5 : Df P w K mg base (wd K) 5 "are_inputs" (Phi "are_inputs") := df_ok (Φ := Phi) (Γ := Gam) (c := tc_are_inputs) (m := 60) (n := 100) F5 (PySem.W.mg_of X G a5) (F5.binds (ps := ["thing"]) fun _ _ _ _ _ _ us hl => match us, hl with | [_], _ => rfl) (by decide +kernel) sc_are_inputs tr_are_inputs h5 gd (by decide +kernel) k_are_inputs
  have F9 := fun_mk (x := "check_open") (qual := "Book.check_open") (st := st_Book_check_open) l9 c9 k9
  have h9 : ∀ g, g ∈ tc_Book_check_open.fs → DfA P w K mg base (wd K) 4 Phi g := by
    intro g hg
    simp only [tc_Book_check_open, List.mem_cons, List.not_mem_nil, or_false] at hg
    rcases hg with rfl | rfl
    · refine DfA.of_mt fun c C hC hx => ?_
      have hC : ciK K c = some C := hC
      unfold ciK at hC
      split at hC
      · rename_i ht0
        simp only [cis, List.contains_cons, List.contains_nil, Bool.or_false, Bool.or_eq_true, beq_iff_eq] at ht0
        subst ht0
        · rw [xg_Book] at hC
          cases hC
          rw [mN_Book_check_seat]
          exact ⟨f8, _, _, ⟨pg_Book, hd_Book, po_Book, sa_Book⟩, ⟨a8, i8, k8⟩, B8, E8.mono (by decide)⟩
      · cases hC
    · refine DfA.of_ic fun c C hC => ?_
      have hC : ciK K c = some C := hC
      unfold ciK at hC
      split at hC
      · rename_i ht0
        simp only [cis, List.contains_cons, List.contains_nil, Bool.or_false, Bool.or_eq_true, beq_iff_eq] at ht0
        subst ht0
        · rw [xg_Book] at hC
          cases hC
          exact ⟨⟨pg_Book, hd_Book, po_Book, sa_Book⟩, nf_Book_words⟩
      · cases hC
  have B9 := F9.binds (ps := ["self", "seat"]) fun _ _ _ _ _ _ us hl => match us, hl with | [_, _], _ => rfl
  have E9 : FnOk P w K mg base (L2.CX P w) 5 f9 _ ["self", "seat"] (spV (wd K) s_Book_check_open) := fn_ok (Φ := Phi) (Γ := Gam) (c := tc_Book_check_open) (m := 60) (n := 100) F9 sc_Book_check_open tr_Book_check_open h9 gd (by decide +kernel) k_Book_check_open
  have F10 := fun_mk (x := "word") (qual := "Book.word") (st := st_Book_word) l10 c10 k10
  have h10 : ∀ g, g ∈ tc_Book_word.fs → DfA P w K mg base (wd K) 4 Phi g := by
    intro g hg
    simp only [tc_Book_word, List.mem_cons, List.not_mem_nil, or_false] at hg
    rcases hg with rfl | rfl
    · refine DfA.of_mt fun c C hC hx => ?_
      have hC : ciK K c = some C := hC
      unfold ciK at hC
      split at hC
      · rename_i ht0
        simp only [cis, List.contains_cons, List.contains_nil, Bool.or_false, Bool.or_eq_true, beq_iff_eq] at ht0
        subst ht0
        · rw [xg_Book] at hC
          cases hC
          rw [mN_Book_check_seat]
          exact ⟨f8, _, _, ⟨pg_Book, hd_Book, po_Book, sa_Book⟩, ⟨a8, i8, k8⟩, B8, E8.mono (by decide)⟩
      · cases hC
    · refine DfA.of_ic fun c C hC => ?_
      have hC : ciK K c = some C := hC
      unfold ciK at hC
      split at hC
      · rename_i ht0
        simp only [cis, List.contains_cons, List.contains_nil, Bool.or_false, Bool.or_eq_true, beq_iff_eq] at ht0
        subst ht0
        · rw [xg_Book] at hC
          cases hC
          exact ⟨⟨pg_Book, hd_Book, po_Book, sa_Book⟩, nf_Book_words⟩
      · cases hC
  have B10 := F10.binds (ps := ["self", "seat"]) fun _ _ _ _ _ _ us hl => match us, hl with | [_, _], _ => rfl
  have E10 : FnOk P w K mg base (L2.CX P w) 5 f10 _ ["self", "seat"] (spV (wd K) s_Book_word) := fn_ok (Φ := Phi) (Γ := Gam) (c := tc_Book_word) (m := 60) (n := 100) F10 sc_Book_word tr_Book_word h10 gd (by decide +kernel) k_Book_word
  have F11 := fun_mk (x := "begin") (qual := "Book.begin") (st := st_Book_begin) l11 c11 k11
  have h11 : ∀ g, g ∈ tc_Book_begin.fs → DfA P w K mg base (wd K) 4 Phi g := by
    intro g hg
    simp only [tc_Book_begin, List.mem_cons, List.not_mem_nil, or_false] at hg
    rcases hg with rfl | rfl
    · refine DfA.of_mt fun c C hC hx => ?_
      have hC : ciK K c = some C := hC
      unfold ciK at hC
      split at hC
      · rename_i ht0
        simp only [cis, List.contains_cons, List.contains_nil, Bool.or_false, Bool.or_eq_true, beq_iff_eq] at ht0
        subst ht0
        · rw [xg_Book] at hC
          cases hC
          rw [mN_Book_check_seat]
          exact ⟨f8, _, _, ⟨pg_Book, hd_Book, po_Book, sa_Book⟩, ⟨a8, i8, k8⟩, B8, E8.mono (by decide)⟩
      · cases hC
    · refine DfA.of_ic fun c C hC => ?_
      have hC : ciK K c = some C := hC
      unfold ciK at hC
      split at hC
      · rename_i ht0
        simp only [cis, List.contains_cons, List.contains_nil, Bool.or_false, Bool.or_eq_true, beq_iff_eq] at ht0
        subst ht0
        · rw [xg_Book] at hC
          cases hC
          exact ⟨⟨pg_Book, hd_Book, po_Book, sa_Book⟩, nf_Book_begins⟩
      · cases hC
  have B11 := F11.binds (ps := ["self", "seat"]) fun _ _ _ _ _ _ us hl => match us, hl with | [_, _], _ => rfl
  have E11 : FnOk P w K mg base (L2.CX P w) 5 f11 _ ["self", "seat"] (spV (wd K) s_Book_begin) := fn_ok (Φ := Phi) (Γ := Gam) (c := tc_Book_begin) (m := 60) (n := 100) F11 sc_Book_begin tr_Book_begin h11 gd (by decide +kernel) k_Book_begin
  have F13 := fun_mk (x := "ending") (qual := "Book.ending") (st := st_Book_ending) l13 c13 k13
  have h13 : ∀ g, g ∈ tc_Book_ending.fs → DfA P w K mg base (wd K) 4 Phi g := by
    intro g hg
    simp only [tc_Book_ending, List.mem_cons, List.not_mem_nil, or_false] at hg
    rcases hg with rfl | rfl
    · refine DfA.of_mt fun c C hC hx => ?_
      have hC : ciK K c = some C := hC
      unfold ciK at hC
      split at hC
      · rename_i ht0
        simp only [cis, List.contains_cons, List.contains_nil, Bool.or_false, Bool.or_eq_true, beq_iff_eq] at ht0
        subst ht0
        · rw [xg_Book] at hC
          cases hC
          rw [mN_Book_check_seat]
          exact ⟨f8, _, _, ⟨pg_Book, hd_Book, po_Book, sa_Book⟩, ⟨a8, i8, k8⟩, B8, E8.mono (by decide)⟩
      · cases hC
    · refine DfA.of_mt fun c C hC hx => ?_
      have hC : ciK K c = some C := hC
      unfold ciK at hC
      split at hC
      · rename_i ht0
        simp only [cis, List.contains_cons, List.contains_nil, Bool.or_false, Bool.or_eq_true, beq_iff_eq] at ht0
        subst ht0
        · rw [xg_Book] at hC
          cases hC
          rw [mN_Book_end_of]
          exact ⟨f12, _, _, ⟨pg_Book, hd_Book, po_Book, sa_Book⟩, ⟨a12, i12, k12⟩, B12, E12.mono (by decide)⟩
      · cases hC
  have B13 := F13.binds (ps := ["self", "seat"]) fun _ _ _ _ _ _ us hl => match us, hl with | [_, _], _ => rfl
  have E13 : FnOk P w K mg base (L2.CX P w) 5 f13 _ ["self", "seat"] (spV (wd K) s_Book_ending) := fn_ok (Φ := Phi) (Γ := Gam) (c := tc_Book_ending) (m := 60) (n := 100) F13 sc_Book_ending tr_Book_ending h13 gd (by decide +kernel) k_Book_ending
  have F15 := fun_mk (x := "open_seat") (qual := "Book.open_seat") (st := st_Book_open_seat) l15 c15 k15
  have h15 : ∀ g, g ∈ tc_Book_open_seat.fs → DfA P w K mg base (wd K) 4 Phi g := by
    intro g hg
    simp only [tc_Book_open_seat, List.mem_cons, List.not_mem_nil, or_false] at hg
    rcases hg with rfl | rfl | rfl | rfl | rfl | rfl
    · exact DfA.of_fn (D1.mono (by decide)) (by decide +kernel)
    · refine DfA.of_mt fun c C hC hx => ?_
      have hC : ciK K c = some C := hC
      unfold ciK at hC
      split at hC
      · rename_i ht0
        simp only [cis, List.contains_cons, List.contains_nil, Bool.or_false, Bool.or_eq_true, beq_iff_eq] at ht0
        subst ht0
        · rw [xg_Book] at hC
          cases hC
          rw [mN_Book_check_seat]
          exact ⟨f8, _, _, ⟨pg_Book, hd_Book, po_Book, sa_Book⟩, ⟨a8, i8, k8⟩, B8, E8.mono (by decide)⟩
      · cases hC
    · refine DfA.of_mt fun c C hC hx => ?_
      have hC : ciK K c = some C := hC
      unfold ciK at hC
      split at hC
      · rename_i ht0
        simp only [cis, List.contains_cons, List.contains_nil, Bool.or_false, Bool.or_eq_true, beq_iff_eq] at ht0
        subst ht0
        · rw [xg_Book] at hC
          cases hC
          rw [mN_Book_settled]
          exact ⟨f14, _, _, ⟨pg_Book, hd_Book, po_Book, sa_Book⟩, ⟨a14, i14, k14⟩, B14, E14.mono (by decide)⟩
      · cases hC
    · refine DfA.of_ic fun c C hC => ?_
      have hC : ciK K c = some C := hC
      unfold ciK at hC
      split at hC
      · rename_i ht0
        simp only [cis, List.contains_cons, List.contains_nil, Bool.or_false, Bool.or_eq_true, beq_iff_eq] at ht0
        subst ht0
        · rw [xg_Book] at hC
          cases hC
          exact ⟨⟨pg_Book, hd_Book, po_Book, sa_Book⟩, nf_Book_words⟩
      · cases hC
    · refine DfA.of_ic fun c C hC => ?_
      have hC : ciK K c = some C := hC
      unfold ciK at hC
      split at hC
      · rename_i ht0
        simp only [cis, List.contains_cons, List.contains_nil, Bool.or_false, Bool.or_eq_true, beq_iff_eq] at ht0
        subst ht0
        · rw [xg_Book] at hC
          cases hC
          exact ⟨⟨pg_Book, hd_Book, po_Book, sa_Book⟩, nf_Book_begins⟩
      · cases hC
    · refine DfA.of_ic fun c C hC => ?_
      have hC : ciK K c = some C := hC
      unfold ciK at hC
      split at hC
      · rename_i ht0
        simp only [cis, List.contains_cons, List.contains_nil, Bool.or_false, Bool.or_eq_true, beq_iff_eq] at ht0
        subst ht0
        · rw [xg_Book] at hC
          cases hC
          exact ⟨⟨pg_Book, hd_Book, po_Book, sa_Book⟩, nf_Book_done⟩
      · cases hC
  have B15 := F15.binds (ps := ["self", "seat", "tick"]) fun _ _ _ _ _ _ us hl => match us, hl with | [_, _, _], _ => rfl
  have E15 : FnOk P w K mg base (L2.CX P w) 5 f15 _ ["self", "seat", "tick"] (spV (wd K) s_Book_open_seat) := fn_ok (Φ := Phi) (Γ := Gam) (c := tc_Book_open_seat) (m := 60) (n := 100) F15 sc_Book_open_seat tr_Book_open_seat h15 gd (by decide +kernel) k_Book_open_seat
  have F19 := fun_mk (x := "input_at") (qual := "Book.input_at") (st := st_Book_input_at) l19 c19 k19
  have h19 : ∀ g, g ∈ tc_Book_input_at.fs → DfA P w K mg base (wd K) 4 Phi g := by
    intro g hg
    simp only [tc_Book_input_at, List.mem_cons, List.not_mem_nil, or_false] at hg
    rcases hg with rfl | rfl | rfl
    · exact DfA.of_fn (D1.mono (by decide)) (by decide +kernel)
    · refine DfA.of_mt fun c C hC hx => ?_
      have hC : ciK K c = some C := hC
      unfold ciK at hC
      split at hC
      · rename_i ht0
        simp only [cis, List.contains_cons, List.contains_nil, Bool.or_false, Bool.or_eq_true, beq_iff_eq] at ht0
        subst ht0
        · rw [xg_Book] at hC
          cases hC
          rw [mN_Book_check_seat]
          exact ⟨f8, _, _, ⟨pg_Book, hd_Book, po_Book, sa_Book⟩, ⟨a8, i8, k8⟩, B8, E8.mono (by decide)⟩
      · cases hC
    · refine DfA.of_mt fun c C hC hx => ?_
      have hC : ciK K c = some C := hC
      unfold ciK at hC
      split at hC
      · rename_i ht0
        simp only [cis, List.contains_cons, List.contains_nil, Bool.or_false, Bool.or_eq_true, beq_iff_eq] at ht0
        subst ht0
        · rw [xg_Book] at hC
          cases hC
          rw [mN_Book_input_of]
          exact ⟨f18, _, _, ⟨pg_Book, hd_Book, po_Book, sa_Book⟩, ⟨a18, i18, k18⟩, B18, E18.mono (by decide)⟩
      · cases hC
  have B19 := F19.binds (ps := ["self", "seat", "tick"]) fun _ _ _ _ _ _ us hl => match us, hl with | [_, _, _], _ => rfl
  have E19 : FnOk P w K mg base (L2.CX P w) 5 f19 _ ["self", "seat", "tick"] (spV (wd K) s_Book_input_at) := fn_ok (Φ := Phi) (Γ := Gam) (c := tc_Book_input_at) (m := 60) (n := 100) F19 sc_Book_input_at tr_Book_input_at h19 gd (by decide +kernel) k_Book_input_at
  have F35 := fun_mk (x := "_law_inputs_told") (qual := "_law_inputs_told") (st := st__law_inputs_told) l35 c35 k35
  have h35 : ∀ g, g ∈ tc__law_inputs_told.fs → DfA P w K mg base (wd K) 4 Phi g := by
    intro g hg
    simp only [tc__law_inputs_told, List.mem_cons, List.not_mem_nil, or_false] at hg
    subst hg
    · refine DfA.of_mt fun c C hC hx => ?_
      have hC : ciK K c = some C := hC
      unfold ciK at hC
      split at hC
      · rename_i ht0
        simp only [cis, List.contains_cons, List.contains_nil, Bool.or_false, Bool.or_eq_true, beq_iff_eq] at ht0
        subst ht0
        · rw [xg_Book] at hC
          cases hC
          rw [mN_Book_inputs]
          exact ⟨f21, _, _, ⟨pg_Book, hd_Book, po_Book, sa_Book⟩, ⟨a21, i21, k21⟩, B21, E21.mono (by decide)⟩
      · cases hC
  have D35 : Df P w K mg base (wd K) 5 "_law_inputs_told" (Phi "_law_inputs_told") := df_ok (Φ := Phi) (Γ := Gam) (c := tc__law_inputs_told) (m := 60) (n := 100) F35 (PySem.W.mg_of X G a35) (F35.binds (ps := ["book", "tick"]) fun _ _ _ _ _ _ us hl => match us, hl with | [_, _], _ => rfl) (by decide +kernel) sc__law_inputs_told tr__law_inputs_told h35 gd (by decide +kernel) k_law_inputs_told
  have F6 := fun_mk (x := "check_inputs") (qual := "check_inputs") (st := st_check_inputs) l6 c6 k6
  have h6 : ∀ g, g ∈ tc_check_inputs.fs → DfA P w K mg base (wd K) 5 Phi g := by
    intro g hg
    simp only [tc_check_inputs, List.mem_cons, List.not_mem_nil, or_false] at hg
    subst hg
    · exact DfA.of_fn (D5.mono (by decide)) (by decide +kernel)
  have D6 : Df P w K mg base (wd K) 6 "check_inputs" (Phi "check_inputs") := df_ok (Φ := Phi) (Γ := Gam) (c := tc_check_inputs) (m := 60) (n := 100) F6 (PySem.W.mg_of X G a6) (F6.binds (ps := ["thing"]) fun _ _ _ _ _ _ us hl => match us, hl with | [_], _ => rfl) (by decide +kernel) sc_check_inputs tr_check_inputs h6 gd (by decide +kernel) k_check_inputs
  have F17 := fun_mk (x := "close_seat") (qual := "Book.close_seat") (st := st_Book_close_seat) l17 c17 k17
  have h17 : ∀ g, g ∈ tc_Book_close_seat.fs → DfA P w K mg base (wd K) 5 Phi g := by
    intro g hg
    simp only [tc_Book_close_seat, List.mem_cons, List.not_mem_nil, or_false] at hg
    rcases hg with rfl | rfl | rfl
    · refine DfA.of_mt fun c C hC hx => ?_
      have hC : ciK K c = some C := hC
      unfold ciK at hC
      split at hC
      · rename_i ht0
        simp only [cis, List.contains_cons, List.contains_nil, Bool.or_false, Bool.or_eq_true, beq_iff_eq] at ht0
        subst ht0
        · rw [xg_Book] at hC
          cases hC
          rw [mN_Book_check_open]
          exact ⟨f9, _, _, ⟨pg_Book, hd_Book, po_Book, sa_Book⟩, ⟨a9, i9, k9⟩, B9, E9.mono (by decide)⟩
      · cases hC
    · refine DfA.of_ic fun c C hC => ?_
      have hC : ciK K c = some C := hC
      unfold ciK at hC
      split at hC
      · rename_i ht0
        simp only [cis, List.contains_cons, List.contains_nil, Bool.or_false, Bool.or_eq_true, beq_iff_eq] at ht0
        subst ht0
        · rw [xg_Book] at hC
          cases hC
          exact ⟨⟨pg_Book, hd_Book, po_Book, sa_Book⟩, nf_Book_words⟩
      · cases hC
    · refine DfA.of_ic fun c C hC => ?_
      have hC : ciK K c = some C := hC
      unfold ciK at hC
      split at hC
      · rename_i ht0
        simp only [cis, List.contains_cons, List.contains_nil, Bool.or_false, Bool.or_eq_true, beq_iff_eq] at ht0
        subst ht0
        · rw [xg_Book] at hC
          cases hC
          exact ⟨⟨pg_Book, hd_Book, po_Book, sa_Book⟩, nf_Book_done⟩
      · cases hC
  have B17 := F17.binds (ps := ["self", "seat"]) fun _ _ _ _ _ _ us hl => match us, hl with | [_, _], _ => rfl
  have E17 : FnOk P w K mg base (L2.CX P w) 6 f17 _ ["self", "seat"] (spV (wd K) s_Book_close_seat) := fn_ok (Φ := Phi) (Γ := Gam) (c := tc_Book_close_seat) (m := 60) (n := 100) F17 sc_Book_close_seat tr_Book_close_seat h17 gd (by decide +kernel) k_Book_close_seat
  have F25 := fun_mk (x := "_law_is") (qual := "_law_is") (st := st__law_is) l25 c25 k25
  have R25 : ∀ n, Df P w K mg base (wd K) (1 + n) "_law_is" (PhiL n "_law_is") := by
    refine df_rec ?_ fun n Z => ?_
    · exact df_none F25 (PySem.W.mg_of X G a25) (F25.binds (ps := ["told", "due"]) fun _ _ _ _ _ _ us hl => match us, hl with | [_, _], _ => rfl) (by decide +kernel) k_law_is_none
    · refine df_ok (Φ := PhiL n) (Γ := Gam) (c := tc__law_is) (m := 60) (n := 100) F25 (PySem.W.mg_of X G a25) (F25.binds (ps := ["told", "due"]) fun _ _ _ _ _ _ us hl => match us, hl with | [_, _], _ => rfl) (by decide +kernel) sc__law_is tr__law_is (fun g hg => ?_) gd (by decide +kernel) (k_law_is n)
      simp only [tc__law_is, List.mem_cons, List.not_mem_nil, or_false] at hg
      subst hg
      · exact DfA.of_fn Z (by decide +kernel)
  have D25 : Df P w K mg base (wd K) 6 "_law_is" (Phi "_law_is") := R25 5
  have F16 := fun_mk (x := "tell") (qual := "Book.tell") (st := st_Book_tell) l16 c16 k16
  have h16 : ∀ g, g ∈ tc_Book_tell.fs → DfA P w K mg base (wd K) 6 Phi g := by
    intro g hg
    simp only [tc_Book_tell, List.mem_cons, List.not_mem_nil, or_false] at hg
    rcases hg with rfl | rfl | rfl | rfl | rfl | rfl
    · exact DfA.of_fn (D1.mono (by decide)) (by decide +kernel)
    · exact DfA.of_fn (D6.mono (by decide)) (by decide +kernel)
    · refine DfA.of_mt fun c C hC hx => ?_
      have hC : ciK K c = some C := hC
      unfold ciK at hC
      split at hC
      · rename_i ht0
        simp only [cis, List.contains_cons, List.contains_nil, Bool.or_false, Bool.or_eq_true, beq_iff_eq] at ht0
        subst ht0
        · rw [xg_Book] at hC
          cases hC
          rw [mN_Book_check_open]
          exact ⟨f9, _, _, ⟨pg_Book, hd_Book, po_Book, sa_Book⟩, ⟨a9, i9, k9⟩, B9, E9.mono (by decide)⟩
      · cases hC
    · refine DfA.of_mt fun c C hC hx => ?_
      have hC : ciK K c = some C := hC
      unfold ciK at hC
      split at hC
      · rename_i ht0
        simp only [cis, List.contains_cons, List.contains_nil, Bool.or_false, Bool.or_eq_true, beq_iff_eq] at ht0
        subst ht0
        · rw [xg_Book] at hC
          cases hC
          rw [mN_Book_end_of]
          exact ⟨f12, _, _, ⟨pg_Book, hd_Book, po_Book, sa_Book⟩, ⟨a12, i12, k12⟩, B12, E12.mono (by decide)⟩
      · cases hC
    · refine DfA.of_ic fun c C hC => ?_
      have hC : ciK K c = some C := hC
      unfold ciK at hC
      split at hC
      · rename_i ht0
        simp only [cis, List.contains_cons, List.contains_nil, Bool.or_false, Bool.or_eq_true, beq_iff_eq] at ht0
        subst ht0
        · rw [xg_Book] at hC
          cases hC
          exact ⟨⟨pg_Book, hd_Book, po_Book, sa_Book⟩, nf_Book_told⟩
      · cases hC
    · refine DfA.of_ic fun c C hC => ?_
      have hC : ciK K c = some C := hC
      unfold ciK at hC
      split at hC
      · rename_i ht0
        simp only [cis, List.contains_cons, List.contains_nil, Bool.or_false, Bool.or_eq_true, beq_iff_eq] at ht0
        subst ht0
        · rw [xg_Book] at hC
          cases hC
          exact ⟨⟨pg_Book, hd_Book, po_Book, sa_Book⟩, nf_Book_done⟩
      · cases hC
  have B16 := F16.binds (ps := ["self", "seat", "tick", "inputs"]) fun _ _ _ _ _ _ us hl => match us, hl with | [_, _, _, _], _ => rfl
  have E16 : FnOk P w K mg base (L2.CX P w) 7 f16 _ ["self", "seat", "tick", "inputs"] (spV (wd K) s_Book_tell) := fn_ok (Φ := Phi) (Γ := Gam) (c := tc_Book_tell) (m := 60) (n := 100) F16 sc_Book_tell tr_Book_tell h16 gd (by decide +kernel) k_Book_tell
  have F36 := fun_mk (x := "_law_book_is") (qual := "_law_book_is") (st := st__law_book_is) l36 c36 k36
  have h36 : ∀ g, g ∈ tc__law_book_is.fs → DfA P w K mg base (wd K) 6 Phi g := by
    intro g hg
    simp only [tc__law_book_is, List.mem_cons, List.not_mem_nil, or_false] at hg
    rcases hg with rfl | rfl | rfl | rfl | rfl | rfl | rfl | rfl | rfl | rfl | rfl | rfl
    · exact DfA.of_fn (D27.mono (by decide)) (by decide +kernel)
    · exact DfA.of_fn (D25.mono (by decide)) (by decide +kernel)
    · exact DfA.of_fn (D26.mono (by decide)) (by decide +kernel)
    · exact DfA.of_fn (D24.mono (by decide)) (by decide +kernel)
    · exact DfA.of_fn (D28.mono (by decide)) (by decide +kernel)
    · exact DfA.of_fn (D35.mono (by decide)) (by decide +kernel)
    · refine DfA.of_mt fun c C hC hx => ?_
      have hC : ciK K c = some C := hC
      unfold ciK at hC
      split at hC
      · rename_i ht0
        simp only [cis, List.contains_cons, List.contains_nil, Bool.or_false, Bool.or_eq_true, beq_iff_eq] at ht0
        subst ht0
        · rw [xg_Book] at hC
          cases hC
          rw [mN_Book_settled]
          exact ⟨f14, _, _, ⟨pg_Book, hd_Book, po_Book, sa_Book⟩, ⟨a14, i14, k14⟩, B14, E14.mono (by decide)⟩
      · cases hC
    · refine DfA.of_mt fun c C hC hx => ?_
      have hC : ciK K c = some C := hC
      unfold ciK at hC
      split at hC
      · rename_i ht0
        simp only [cis, List.contains_cons, List.contains_nil, Bool.or_false, Bool.or_eq_true, beq_iff_eq] at ht0
        subst ht0
        · rw [xg_Book] at hC
          cases hC
          rw [mN_Book_deeds]
          exact ⟨f22, _, _, ⟨pg_Book, hd_Book, po_Book, sa_Book⟩, ⟨a22, i22, k22⟩, B22, E22.mono (by decide)⟩
      · cases hC
    · refine DfA.of_mt fun c C hC hx => ?_
      have hC : ciK K c = some C := hC
      unfold ciK at hC
      split at hC
      · rename_i ht0
        simp only [cis, List.contains_cons, List.contains_nil, Bool.or_false, Bool.or_eq_true, beq_iff_eq] at ht0
        subst ht0
        · rw [xg_Book] at hC
          cases hC
          rw [mN_Book_word]
          exact ⟨f10, _, _, ⟨pg_Book, hd_Book, po_Book, sa_Book⟩, ⟨a10, i10, k10⟩, B10, E10.mono (by decide)⟩
      · cases hC
    · refine DfA.of_mt fun c C hC hx => ?_
      have hC : ciK K c = some C := hC
      unfold ciK at hC
      split at hC
      · rename_i ht0
        simp only [cis, List.contains_cons, List.contains_nil, Bool.or_false, Bool.or_eq_true, beq_iff_eq] at ht0
        subst ht0
        · rw [xg_Book] at hC
          cases hC
          rw [mN_Book_begin]
          exact ⟨f11, _, _, ⟨pg_Book, hd_Book, po_Book, sa_Book⟩, ⟨a11, i11, k11⟩, B11, E11.mono (by decide)⟩
      · cases hC
    · refine DfA.of_mt fun c C hC hx => ?_
      have hC : ciK K c = some C := hC
      unfold ciK at hC
      split at hC
      · rename_i ht0
        simp only [cis, List.contains_cons, List.contains_nil, Bool.or_false, Bool.or_eq_true, beq_iff_eq] at ht0
        subst ht0
        · rw [xg_Book] at hC
          cases hC
          rw [mN_Book_ending]
          exact ⟨f13, _, _, ⟨pg_Book, hd_Book, po_Book, sa_Book⟩, ⟨a13, i13, k13⟩, B13, E13.mono (by decide)⟩
      · cases hC
    · refine DfA.of_mt fun c C hC hx => ?_
      have hC : ciK K c = some C := hC
      unfold ciK at hC
      split at hC
      · rename_i ht0
        simp only [cis, List.contains_cons, List.contains_nil, Bool.or_false, Bool.or_eq_true, beq_iff_eq] at ht0
        subst ht0
        · rw [xg_Book] at hC
          cases hC
          rw [mN_Book_input_at]
          exact ⟨f19, _, _, ⟨pg_Book, hd_Book, po_Book, sa_Book⟩, ⟨a19, i19, k19⟩, B19, E19.mono (by decide)⟩
      · cases hC
  have D36 : Df P w K mg base (wd K) 7 "_law_book_is" (Phi "_law_book_is") := df_ok (Φ := Phi) (Γ := Gam) (c := tc__law_book_is) (m := 60) (n := 100) F36 (PySem.W.mg_of X G a36) (F36.binds (ps := ["hand", "book", "seats", "done"]) fun _ _ _ _ _ _ us hl => match us, hl with | [_, _, _, _], _ => rfl) (by decide +kernel) sc__law_book_is tr__law_book_is h36 gd (by decide +kernel) k_law_book_is
  have F34 := fun_mk (x := "_law_done") (qual := "_law_done") (st := st__law_done) l34 c34 k34
  have h34 : ∀ g, g ∈ tc__law_done.fs → DfA P w K mg base (wd K) 7 Phi g := by
    intro g hg
    simp only [tc__law_done, List.mem_cons, List.not_mem_nil, or_false] at hg
    rcases hg with rfl | rfl | rfl
    · refine DfA.of_mt fun c C hC hx => ?_
      have hC : ciK K c = some C := hC
      unfold ciK at hC
      split at hC
      · rename_i ht0
        simp only [cis, List.contains_cons, List.contains_nil, Bool.or_false, Bool.or_eq_true, beq_iff_eq] at ht0
        subst ht0
        · rw [xg_Book] at hC
          cases hC
          rw [mN_Book_open_seat]
          exact ⟨f15, _, _, ⟨pg_Book, hd_Book, po_Book, sa_Book⟩, ⟨a15, i15, k15⟩, B15, E15.mono (by decide)⟩
      · cases hC
    · refine DfA.of_mt fun c C hC hx => ?_
      have hC : ciK K c = some C := hC
      unfold ciK at hC
      split at hC
      · rename_i ht0
        simp only [cis, List.contains_cons, List.contains_nil, Bool.or_false, Bool.or_eq_true, beq_iff_eq] at ht0
        subst ht0
        · rw [xg_Book] at hC
          cases hC
          rw [mN_Book_close_seat]
          exact ⟨f17, _, _, ⟨pg_Book, hd_Book, po_Book, sa_Book⟩, ⟨a17, i17, k17⟩, B17, E17.mono (by decide)⟩
      · cases hC
    · refine DfA.of_mt fun c C hC hx => ?_
      have hC : ciK K c = some C := hC
      unfold ciK at hC
      split at hC
      · rename_i ht0
        simp only [cis, List.contains_cons, List.contains_nil, Bool.or_false, Bool.or_eq_true, beq_iff_eq] at ht0
        subst ht0
        · rw [xg_Book] at hC
          cases hC
          rw [mN_Book_tell]
          exact ⟨f16, _, _, ⟨pg_Book, hd_Book, po_Book, sa_Book⟩, ⟨a16, i16, k16⟩, B16, E16.mono (by decide)⟩
      · cases hC
  have D34 : Df P w K mg base (wd K) 8 "_law_done" (Phi "_law_done") := df_ok (Φ := Phi) (Γ := Gam) (c := tc__law_done) (m := 60) (n := 100) F34 (PySem.W.mg_of X G a34) (F34.binds (ps := ["book", "deed"]) fun _ _ _ _ _ _ us hl => match us, hl with | [_, _], _ => rfl) (by decide +kernel) sc__law_done tr__law_done h34 gd (by decide +kernel) k_law_done
  have F37 := fun_mk (x := "law") (qual := "law") (st := st_law) l37 c37 k37
  have h37 : ∀ g, g ∈ tc_law.fs → DfA P w K mg base (wd K) 8 Phi g := by
    intro g hg
    simp only [tc_law, List.mem_cons, List.not_mem_nil, or_false] at hg
    rcases hg with rfl | rfl | rfl | rfl | rfl | rfl | rfl | rfl | rfl
    · exact DfA.of_fn (D23.mono (by decide)) (by decide +kernel)
    · exact DfA.of_fn (D24.mono (by decide)) (by decide +kernel)
    · exact DfA.of_fn (D36.mono (by decide)) (by decide +kernel)
    · exact DfA.of_fn (D30.mono (by decide)) (by decide +kernel)
    · exact DfA.of_fn (D33.mono (by decide)) (by decide +kernel)
    · exact DfA.of_fn (D25.mono (by decide)) (by decide +kernel)
    · exact DfA.of_fn (D34.mono (by decide)) (by decide +kernel)
    · refine DfA.of_mt fun c C hC hx => ?_
      have hC : ciK K c = some C := hC
      unfold ciK at hC
      split at hC
      · rename_i ht0
        simp only [cis, List.contains_cons, List.contains_nil, Bool.or_false, Bool.or_eq_true, beq_iff_eq] at ht0
        subst ht0
        · rw [xg_Book] at hC
          cases hC
          rw [mN_Book_deeds]
          exact ⟨f22, _, _, ⟨pg_Book, hd_Book, po_Book, sa_Book⟩, ⟨a22, i22, k22⟩, B22, E22.mono (by decide)⟩
      · cases hC
    · refine DfA.of_mk ?_
      rw [mN_Book___init__]
      exact ⟨C_Book, f7, _, _, 4, by decide, (by show ciK K ("Book" : Str) = some C_Book; unfold ciK; rw [if_pos (by decide +kernel), xg_Book]), PySem.W.mg_of X G xg_Book, ⟨mk_Book, a7, i7, kc_Book⟩, B7, E7, by decide +kernel⟩
  exact fn_ok (Φ := Phi) (Γ := Gam) (c := tc_law) (m := 60) (n := 100) F37 sc_law tr_law h37 gd (by decide +kernel) k_law
theorem walk {l : PySem.W.OpenLaw} {q : Program} {loose : List Str} {XP : (Str → Option Value) → Heap → Prop} {YP : World → Heap → Prop} {d : DefRec} {K : Params → PySem.W.Frag} (hn : l.most = some 63) (hdf : d.params.defaults = [])
    (hY : ∀ (w : World) (h : Heap), YP w h → (K w.params).In h)
    (F : ∀ (w : World) (mg : Str → Option Value) (fa : Addr) (h : Heap), (K w.params).In h → h.Ns mainGlobals mg → mg d.name = some (.ref fa) →
      ∃ fd : FuncData, (∀ (s : Shared) (u : Value), BindsTo s fd ⟨[u], []⟩ [("script", u)]) ∧ ∀ base : Heap, (K w.params).In base → base.Ns mainGlobals mg → FnOk l.prog w (K w.params) mg base (L2.CX l.prog w) 9 fa fd ["script"] (spV (wd (K w.params)) s_law)) :
    PySem.W.WalkO q loose XP YP l.row.toRowW d [] (fun f vs => PySem.call f vs) :=
  L2.walk_ofB (n := 63) (k := 9) (x := "script") (CX := fun w => L2.CX l.prog w) (sp := fun w => spV (wd (K w.params)) s_law) hn (by decide) hdf ⟨rfl, by decide, by decide⟩ hY F (fun w H a ns hl hb ho hs => law_end ho hs (law_run ns hl hb))
    fun w H s e s' ⟨_, _, _, _, _, _, _, _, _, _, _, _, z⟩ => z
end L_k27
open PySem PySem.W PyProof.Rows in
set_option maxRecDepth 100000 in
set_option maxHeartbeats 0 in
theorem PySem.Challenge.cw_swornworlds_k27_whole_books_by_an_own_ac_holds : PySem.Challenge.rw_swornworlds_k27_whole_books_by_an_own_ac.Holds := by
  w_on; o_law; k_head; (case hw => w_witness2)
  k_fill
  refine L_k27.walk (l := PySem.Challenge.rw_swornworlds_k27_whole_books_by_an_own_ac) rfl rfl (fun w h Y => PySem.W.kIn_of Y) ?F
  case F =>
    intro w mg fa h KX G hmg
    refine' L_k27.all_mk KX G hmg ?xg_Book ?pg_Book ?hd_Book ?po_Book ?sa_Book ?mk_Book ?kc_Book ?nf_Book_players ?nf_Book_words ?nf_Book_begins ?nf_Book_told ?nf_Book_done ?a0 ?l0 ?c0 ?k0 ?a1 ?l1 ?c1 ?k1 ?a2 ?l2 ?c2 ?k2 ?a3 ?l3 ?c3 ?k3 ?a4 ?l4 ?c4 ?k4 ?a5 ?l5 ?c5 ?k5 ?a6 ?l6 ?c6 ?k6 ?i7 ?a7 ?l7 ?c7 ?k7 ?i8 ?a8 ?l8 ?c8 ?k8 ?i9 ?a9 ?l9 ?c9 ?k9 ?i10 ?a10 ?l10 ?c10 ?k10 ?i11 ?a11 ?l11 ?c11 ?k11 ?i12 ?a12 ?l12 ?c12 ?k12 ?i13 ?a13 ?l13 ?c13 ?k13 ?i14 ?a14 ?l14 ?c14 ?k14 ?i15 ?a15 ?l15 ?c15 ?k15 ?i16 ?a16 ?l16 ?c16 ?k16 ?i17 ?a17 ?l17 ?c17 ?k17 ?i18 ?a18 ?l18 ?c18 ?k18 ?i19 ?a19 ?l19 ?c19 ?k19 ?i20 ?a20 ?l20 ?c20 ?k20 ?i21 ?a21 ?l21 ?c21 ?k21 ?i22 ?a22 ?l22 ?c22 ?k22 ?a23 ?l23 ?c23 ?k23 ?a24 ?l24 ?c24 ?k24 ?a25 ?l25 ?c25 ?k25 ?a26 ?l26 ?c26 ?k26 ?a27 ?l27 ?c27 ?k27 ?a28 ?l28 ?c28 ?k28 ?a29 ?l29 ?c29 ?k29 ?a30 ?l30 ?c30 ?k30 ?a31 ?l31 ?c31 ?k31 ?a32 ?l32 ?c32 ?k32 ?a33 ?l33 ?c33 ?k33 ?a34 ?l34 ?c34 ?k34 ?a35 ?l35 ?c35 ?k35 ?a36 ?l36 ?c36 ?k36 ?a37 ?l37 ?c37 ?k37 ?z_len ?z_int ?z_bool ?z_str ?z_tuple ?z_list ?z_abs ?z_min ?z_max ?z_sum ?z_all ?z_any ?z_range ?z_zip ?z_enumerate ?z_reversed ?z_isinstance ?z_dict ?z_sorted ?z_set ?z_repr ?xg_NoNumber ?xe_NoNumber ?xt_NoNumber ?xg_WorldError ?xe_WorldError ?xt_WorldError ?xg_NoInputs ?xe_NoInputs ?xt_NoInputs ?xg_NoSeat ?xe_NoSeat ?xt_NoSeat ?xg_NotOpen ?xe_NotOpen ?xt_NotOpen ?xg_NotWaiting ?xe_NotWaiting ?xt_NotWaiting ?xg_NoTick ?xe_NoTick ?xt_NoTick ?xg_Gap ?xe_Gap ?xt_Gap ?xi_NoSeat ?xs_NoNumber_NoSeat ?xs_NoInputs_NoSeat ?xs_NoSeat_NoSeat ?xs_NotOpen_NoSeat ?xs_NotWaiting_NoSeat ?xs_NoTick_NoSeat ?xs_Gap_NoSeat ?xi_NotWaiting ?xs_NoNumber_NotWaiting ?xs_NoInputs_NotWaiting ?xs_NoSeat_NotWaiting ?xs_NotOpen_NotWaiting ?xs_NotWaiting_NotWaiting ?xs_NoTick_NotWaiting ?xs_Gap_NotWaiting ?xi_NoTick ?xs_NoNumber_NoTick ?xs_NoInputs_NoTick ?xs_NoSeat_NoTick ?xs_NotOpen_NoTick ?xs_NotWaiting_NoTick ?xs_NoTick_NoTick ?xs_Gap_NoTick ?xi_NotOpen ?xs_NoNumber_NotOpen ?xs_NoInputs_NotOpen ?xs_NoSeat_NotOpen ?xs_NotOpen_NotOpen ?xs_NotWaiting_NotOpen ?xs_NoTick_NotOpen ?xs_Gap_NotOpen ?xi_Gap ?xs_NoNumber_Gap ?xs_NoInputs_Gap ?xs_NoSeat_Gap ?xs_NotOpen_Gap ?xs_NotWaiting_Gap ?xs_NoTick_Gap ?xs_Gap_Gap ?xi_NoInputs ?xs_NoNumber_NoInputs ?xs_NoInputs_NoInputs ?xs_NoSeat_NoInputs ?xs_NotOpen_NoInputs ?xs_NotWaiting_NoInputs ?xs_NoTick_NoInputs ?xs_Gap_NoInputs ?xk_NoNumber ?xA_NoNumber ?xB_NoNumber ?xD_NoNumber ?xq_NoNumber ?xk_NoInputs ?xA_NoInputs ?xB_NoInputs ?xD_NoInputs ?xq_NoInputs ?xk_NoSeat ?xA_NoSeat ?xB_NoSeat ?xD_NoSeat ?xq_NoSeat ?xk_NotOpen ?xA_NotOpen ?xB_NotOpen ?xD_NotOpen ?xq_NotOpen ?xk_NotWaiting ?xA_NotWaiting ?xB_NotWaiting ?xD_NotWaiting ?xq_NotWaiting ?xk_NoTick ?xA_NoTick ?xB_NoTick ?xD_NoTick ?xq_NoTick ?xk_Gap ?xA_Gap ?xB_Gap ?xD_Gap ?xq_Gap ?m_BYTE ?m_MOST_INPUTS ?m_MOST_SEATS ?m_LAST_TICK ?m_WAITING ?m_OPEN ?m_CLOSED ?m_TELL ?m_CLOSE
    (case xg_Book => k_is)
    (case pg_Book => k_is)
    (case hd_Book => k_is)
    (case po_Book => k_is)
    (case sa_Book => k_is)
    (case mk_Book => k_is)
    (case kc_Book => k_is)
    (case nf_Book_players => k_is)
    (case nf_Book_words => k_is)
    (case nf_Book_begins => k_is)
    (case nf_Book_told => k_is)
    (case nf_Book_done => k_is)
    (case a0 => k_is)
    (case l0 => k_is)
    (case c0 => k_is)
    (case k0 => k_is)
    (case a1 => k_is)
    (case l1 => k_is)
    (case c1 => k_is)
    (case k1 => k_is)
    (case a2 => k_is)
    (case l2 => k_is)
    (case c2 => k_is)
    (case k2 => k_is)
    (case a3 => k_is)
    (case l3 => k_is)
    (case c3 => k_is)
    (case k3 => k_is)
    (case a4 => k_is)
    (case l4 => k_is)
    (case c4 => k_is)
    (case k4 => k_is)
    (case a5 => k_is)
    (case l5 => k_is)
    (case c5 => k_is)
    (case k5 => k_is)
    (case a6 => k_is)
    (case l6 => k_is)
    (case c6 => k_is)
    (case k6 => k_is)
    (case i7 => k_is)
    (case a7 => k_is)
    (case l7 => k_is)
    (case c7 => k_is)
    (case k7 => k_is)
    (case i8 => k_is)
    (case a8 => k_is)
    (case l8 => k_is)
    (case c8 => k_is)
    (case k8 => k_is)
    (case i9 => k_is)
    (case a9 => k_is)
    (case l9 => k_is)
    (case c9 => k_is)
    (case k9 => k_is)
    (case i10 => k_is)
    (case a10 => k_is)
    (case l10 => k_is)
    (case c10 => k_is)
    (case k10 => k_is)
    (case i11 => k_is)
    (case a11 => k_is)
    (case l11 => k_is)
    (case c11 => k_is)
    (case k11 => k_is)
    (case i12 => k_is)
    (case a12 => k_is)
    (case l12 => k_is)
    (case c12 => k_is)
    (case k12 => k_is)
    (case i13 => k_is)
    (case a13 => k_is)
    (case l13 => k_is)
    (case c13 => k_is)
    (case k13 => k_is)
    (case i14 => k_is)
    (case a14 => k_is)
    (case l14 => k_is)
    (case c14 => k_is)
    (case k14 => k_is)
    (case i15 => k_is)
    (case a15 => k_is)
    (case l15 => k_is)
    (case c15 => k_is)
    (case k15 => k_is)
    (case i16 => k_is)
    (case a16 => k_is)
    (case l16 => k_is)
    (case c16 => k_is)
    (case k16 => k_is)
    (case i17 => k_is)
    (case a17 => k_is)
    (case l17 => k_is)
    (case c17 => k_is)
    (case k17 => k_is)
    (case i18 => k_is)
    (case a18 => k_is)
    (case l18 => k_is)
    (case c18 => k_is)
    (case k18 => k_is)
    (case i19 => k_is)
    (case a19 => k_is)
    (case l19 => k_is)
    (case c19 => k_is)
    (case k19 => k_is)
    (case i20 => k_is)
    (case a20 => k_is)
    (case l20 => k_is)
    (case c20 => k_is)
    (case k20 => k_is)
    (case i21 => k_is)
    (case a21 => k_is)
    (case l21 => k_is)
    (case c21 => k_is)
    (case k21 => k_is)
    (case i22 => k_is)
    (case a22 => k_is)
    (case l22 => k_is)
    (case c22 => k_is)
    (case k22 => k_is)
    (case a23 => k_is)
    (case l23 => k_is)
    (case c23 => k_is)
    (case k23 => k_is)
    (case a24 => k_is)
    (case l24 => k_is)
    (case c24 => k_is)
    (case k24 => k_is)
    (case a25 => k_is)
    (case l25 => k_is)
    (case c25 => k_is)
    (case k25 => k_is)
    (case a26 => k_is)
    (case l26 => k_is)
    (case c26 => k_is)
    (case k26 => k_is)
    (case a27 => k_is)
    (case l27 => k_is)
    (case c27 => k_is)
    (case k27 => k_is)
    (case a28 => k_is)
    (case l28 => k_is)
    (case c28 => k_is)
    (case k28 => k_is)
    (case a29 => k_is)
    (case l29 => k_is)
    (case c29 => k_is)
    (case k29 => k_is)
    (case a30 => k_is)
    (case l30 => k_is)
    (case c30 => k_is)
    (case k30 => k_is)
    (case a31 => k_is)
    (case l31 => k_is)
    (case c31 => k_is)
    (case k31 => k_is)
    (case a32 => k_is)
    (case l32 => k_is)
    (case c32 => k_is)
    (case k32 => k_is)
    (case a33 => k_is)
    (case l33 => k_is)
    (case c33 => k_is)
    (case k33 => k_is)
    (case a34 => k_is)
    (case l34 => k_is)
    (case c34 => k_is)
    (case k34 => k_is)
    (case a35 => k_is)
    (case l35 => k_is)
    (case c35 => k_is)
    (case k35 => k_is)
    (case a36 => k_is)
    (case l36 => k_is)
    (case c36 => k_is)
    (case k36 => k_is)
    (case a37 => k_is)
    (case l37 => k_is)
    (case c37 => k_is)
    (case k37 => k_is)
    (case z_len => k_is)
    (case z_int => k_is)
    (case z_bool => k_is)
    (case z_str => k_is)
    (case z_tuple => k_is)
    (case z_list => k_is)
    (case z_abs => k_is)
    (case z_min => k_is)
    (case z_max => k_is)
    (case z_sum => k_is)
    (case z_all => k_is)
    (case z_any => k_is)
    (case z_range => k_is)
    (case z_zip => k_is)
    (case z_enumerate => k_is)
    (case z_reversed => k_is)
    (case z_isinstance => k_is)
    (case z_dict => k_is)
    (case z_sorted => k_is)
    (case z_set => k_is)
    (case z_repr => k_is)
    (case xg_NoNumber => k_is)
    (case xe_NoNumber => k_is)
    (case xt_NoNumber => k_is)
    (case xg_WorldError => k_is)
    (case xe_WorldError => k_is)
    (case xt_WorldError => k_is)
    (case xg_NoInputs => k_is)
    (case xe_NoInputs => k_is)
    (case xt_NoInputs => k_is)
    (case xg_NoSeat => k_is)
    (case xe_NoSeat => k_is)
    (case xt_NoSeat => k_is)
    (case xg_NotOpen => k_is)
    (case xe_NotOpen => k_is)
    (case xt_NotOpen => k_is)
    (case xg_NotWaiting => k_is)
    (case xe_NotWaiting => k_is)
    (case xt_NotWaiting => k_is)
    (case xg_NoTick => k_is)
    (case xe_NoTick => k_is)
    (case xt_NoTick => k_is)
    (case xg_Gap => k_is)
    (case xe_Gap => k_is)
    (case xt_Gap => k_is)
    (case xi_NoSeat => k_is)
    (case xs_NoNumber_NoSeat => first | rfl | k_is)
    (case xs_NoInputs_NoSeat => first | rfl | k_is)
    (case xs_NoSeat_NoSeat => first | rfl | k_is)
    (case xs_NotOpen_NoSeat => first | rfl | k_is)
    (case xs_NotWaiting_NoSeat => first | rfl | k_is)
    (case xs_NoTick_NoSeat => first | rfl | k_is)
    (case xs_Gap_NoSeat => first | rfl | k_is)
    (case xi_NotWaiting => k_is)
    (case xs_NoNumber_NotWaiting => first | rfl | k_is)
    (case xs_NoInputs_NotWaiting => first | rfl | k_is)
    (case xs_NoSeat_NotWaiting => first | rfl | k_is)
    (case xs_NotOpen_NotWaiting => first | rfl | k_is)
    (case xs_NotWaiting_NotWaiting => first | rfl | k_is)
    (case xs_NoTick_NotWaiting => first | rfl | k_is)
    (case xs_Gap_NotWaiting => first | rfl | k_is)
    (case xi_NoTick => k_is)
    (case xs_NoNumber_NoTick => first | rfl | k_is)
    (case xs_NoInputs_NoTick => first | rfl | k_is)
    (case xs_NoSeat_NoTick => first | rfl | k_is)
    (case xs_NotOpen_NoTick => first | rfl | k_is)
    (case xs_NotWaiting_NoTick => first | rfl | k_is)
    (case xs_NoTick_NoTick => first | rfl | k_is)
    (case xs_Gap_NoTick => first | rfl | k_is)
    (case xi_NotOpen => k_is)
    (case xs_NoNumber_NotOpen => first | rfl | k_is)
    (case xs_NoInputs_NotOpen => first | rfl | k_is)
    (case xs_NoSeat_NotOpen => first | rfl | k_is)
    (case xs_NotOpen_NotOpen => first | rfl | k_is)
    (case xs_NotWaiting_NotOpen => first | rfl | k_is)
    (case xs_NoTick_NotOpen => first | rfl | k_is)
    (case xs_Gap_NotOpen => first | rfl | k_is)
    (case xi_Gap => k_is)
    (case xs_NoNumber_Gap => first | rfl | k_is)
    (case xs_NoInputs_Gap => first | rfl | k_is)
    (case xs_NoSeat_Gap => first | rfl | k_is)
    (case xs_NotOpen_Gap => first | rfl | k_is)
    (case xs_NotWaiting_Gap => first | rfl | k_is)
    (case xs_NoTick_Gap => first | rfl | k_is)
    (case xs_Gap_Gap => first | rfl | k_is)
    (case xi_NoInputs => k_is)
    (case xs_NoNumber_NoInputs => first | rfl | k_is)
    (case xs_NoInputs_NoInputs => first | rfl | k_is)
    (case xs_NoSeat_NoInputs => first | rfl | k_is)
    (case xs_NotOpen_NoInputs => first | rfl | k_is)
    (case xs_NotWaiting_NoInputs => first | rfl | k_is)
    (case xs_NoTick_NoInputs => first | rfl | k_is)
    (case xs_Gap_NoInputs => first | rfl | k_is)
    (case xk_NoNumber => k_is)
    (case xA_NoNumber => k_is)
    (case xB_NoNumber => k_is)
    (case xD_NoNumber => k_is)
    (case xq_NoNumber => k_exc)
    (case xk_NoInputs => k_is)
    (case xA_NoInputs => k_is)
    (case xB_NoInputs => k_is)
    (case xD_NoInputs => k_is)
    (case xq_NoInputs => k_exc)
    (case xk_NoSeat => k_is)
    (case xA_NoSeat => k_is)
    (case xB_NoSeat => k_is)
    (case xD_NoSeat => k_is)
    (case xq_NoSeat => k_exc)
    (case xk_NotOpen => k_is)
    (case xA_NotOpen => k_is)
    (case xB_NotOpen => k_is)
    (case xD_NotOpen => k_is)
    (case xq_NotOpen => k_exc)
    (case xk_NotWaiting => k_is)
    (case xA_NotWaiting => k_is)
    (case xB_NotWaiting => k_is)
    (case xD_NotWaiting => k_is)
    (case xq_NotWaiting => k_exc)
    (case xk_NoTick => k_is)
    (case xA_NoTick => k_is)
    (case xB_NoTick => k_is)
    (case xD_NoTick => k_is)
    (case xq_NoTick => k_exc)
    (case xk_Gap => k_is)
    (case xA_Gap => k_is)
    (case xB_Gap => k_is)
    (case xD_Gap => k_is)
    (case xq_Gap => k_exc)
    (case m_BYTE => k_is)
    (case m_MOST_INPUTS => k_is)
    (case m_MOST_SEATS => k_is)
    (case m_LAST_TICK => k_is)
    (case m_WAITING => k_is)
    (case m_OPEN => k_is)
    (case m_CLOSED => k_is)
    (case m_TELL => k_is)
    (case m_CLOSE => k_is)
