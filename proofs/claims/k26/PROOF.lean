import PyProof.Rows.All
import Wide.All
import OpenK.AllK
import Wide.FinOn
import HandS.ForMost
import HandS.ForExc
import HandS.EndBits
import HandS.TupAny
import HandS.Wide
import HandS.Flow
import HandS.Style
import HandS.CallSlots
import HandS.SortInts
import HandS.Zip
import HandS.ExcField
import HandS.TryMany
import HandS.Small
import HandS.ExcInit
import KE.OsGo
import PyProof.LongRange
import HandS.ExcOwn
import HandS.Deep
import HandS.TupMul
import HandS.IsInst
import HandS.SetFor
import HandS.Strs
import HandS.List
import HandS.Conv
import HandS.ExcIs
import HandS.Codes
import PySem.Challenge.RW_swornworlds_k26_whole_inputs_as_rows
set_option Elab.async false
set_option linter.all false
set_option maxRecDepth 100000
set_option maxHeartbeats 4000000
set_option autoImplicit false
set_option autoImplicit false
namespace R
open PySem PySem.Spec PyProof.Rows L2

/-! ## R0: data, slots, the virtual heap, and how they stand for the layer's values -/

/-- data: what a value of the program is, without addresses; ref n: the n-th shared object -/
inductive D where
  | non | bl (b : Bool) | int (i : Int) | str (x : Str) | ty (n : String)
  | tup (xs : List D) | lst (xs : List D) | dct (ks : List Key) (xs : List D) | obj (c : Str) (ns : List Str) (xs : List D)
  | ref (n : Nat) | scr (ns : List Int) | adr (a : Addr)

/-- an expression's value: data, or a list that nobody else holds -/
inductive DV where
  | v (d : D) | fr (ds : List D)
@[reducible] def DV.d : DV → D
  | .v d => d
  | .fr ds => .lst ds

/-- a name's slot: nothing, data, or a list that this slot alone holds -/
inductive Slot where
  | no | val (d : D) | own (ds : List D)

/-- a shared object -/
inductive VO where
  | lst (xs : List D) | dct (ks : List Key) (xs : List D) | ins (c : Str) (ns : List Str) (xs : List D)

/-- what of the program the relation wants: the written part, the classes' addresses -/
structure Wd where
  K : PySem.W.Frag
  cl : Str → Option Addr
  fl : Str → List Str
  ci : Str → Option Addr

def KL (K : PySem.W.Frag) (a : Addr) (xs : List V) : Prop :=
  ∃ (o : Obj) (its : Array Value) (n : Nat), K.lookup a = some o ∧ o.cls = .type "list" ∧ o.dict = none ∧ o.data = .seq its n ∧ its.size ≤ sizeLine ∧ Vals xs its.toList
def SqV (K : PySem.W.Frag) (Z : Addr → Prop) (H : Hp) (a : Addr) (xs : List V) : Prop := (¬ Z a ∧ Rd H a (.lst xs)) ∨ KL K a xs
theorem SqV.sq {K : PySem.W.Frag} {Z : Addr → Prop} {H : Hp} {a : Addr} {xs : List V} (h : SqV K Z H a xs) : SqL K H a xs := by
  rcases h with ⟨_, h⟩ | h
  · exact .inl h
  · exact .inr h

mutual
def RD (G : Wd) (Z : Addr → Prop) (ρ : List Addr) (H : Hp) : D → V → Prop
  | .non, v => v = .non
  | .bl b, v => v = .bl b
  | .int i, v => v = .int i
  | .str x, v => v = .str x
  | .ty n, v => v = .ty n
  | .tup xs, v => ∃ a vs, v = .ref a ∧ SqT G.K H a vs ∧ RDs G Z ρ H xs vs
  | .lst xs, v => ∃ a vs, v = .ref a ∧ ¬ Z a ∧ H a = some (.lst vs) ∧ RDs G Z ρ H xs vs
  | .dct ks xs, v => ∃ a ws vs, v = .ref a ∧ ¬ Z a ∧ H a = some (.dK ws) ∧ ws.map (·.1) = ks ∧ ws.map (·.2) = vs ∧ RDs G Z ρ H xs vs
  | .obj c ns xs, v => ∃ a C dx ws vs, v = .ref a ∧ ¬ Z a ∧ G.ci c = some C ∧ H a = some (.ins C dx ws) ∧ ws.map (·.1) = ns ∧ ws.map (·.2) = vs ∧ RDs G Z ρ H xs vs
  | .ref n, v => ∃ a, ρ[n]? = some a ∧ v = .ref a
  | .scr ns, v => ∃ a, v = .ref a ∧ SqV G.K Z H a (ns.map V.int)
  | .adr a, v => v = .ref a
def RDs (G : Wd) (Z : Addr → Prop) (ρ : List Addr) (H : Hp) : List D → List V → Prop
  | [], vs => vs = []
  | d :: ds, vs => ∃ v r, vs = v :: r ∧ RD G Z ρ H d v ∧ RDs G Z ρ H ds r
end

/-- how the ground may move under data -/
structure Mv (Z : Addr → Prop) (ρ : List Addr) (H : Hp) (Z' : Addr → Prop) (ρ' : List Addr) (H' : Hp) : Prop where
  pre : ∀ (n : Nat) (a : Addr), ρ[n]? = some a → ρ'[n]? = some a
  keep : ∀ a u, ¬ Z a → H a = some u → ¬ Z' a ∧ H' a = some u
  tup : ∀ a xs, Rd H a (.tup xs) → Rd H' a (.tup xs)

theorem Mv.sqv {K : PySem.W.Frag} {Z Z' : Addr → Prop} {ρ ρ' : List Addr} {H H' : Hp} (m : Mv Z ρ H Z' ρ' H') {a : Addr} {xs : List V} (h : SqV K Z H a xs) : SqV K Z' H' a xs := by
  rcases h with ⟨nz, h | ⟨o, h⟩⟩ | h
  · obtain ⟨n1, h1⟩ := m.keep a _ nz h
    exact .inl ⟨n1, .inl h1⟩
  · obtain ⟨n1, h1⟩ := m.keep a _ nz h
    exact .inl ⟨n1, .inr ⟨o, h1⟩⟩
  · exact .inr h
theorem Mv.sqt {K : PySem.W.Frag} {Z Z' : Addr → Prop} {ρ ρ' : List Addr} {H H' : Hp} (m : Mv Z ρ H Z' ρ' H') {a : Addr} {xs : List V} (h : SqT K H a xs) : SqT K H' a xs := by
  rcases h with h | h
  · exact .inl (m.tup a xs h)
  · exact .inr h

mutual
theorem RD.move {G : Wd} {Z Z' : Addr → Prop} {ρ ρ' : List Addr} {H H' : Hp} (m : Mv Z ρ H Z' ρ' H') : ∀ (d : D) (v : V), RD G Z ρ H d v → RD G Z' ρ' H' d v
  | .non, v, h => h
  | .bl b, v, h => h
  | .int i, v, h => h
  | .str x, v, h => h
  | .ty n, v, h => h
  | .adr _, v, h => h
  | .tup xs, v, h => by
    obtain ⟨a, vs, e, h1, h2⟩ := h
    exact ⟨a, vs, e, m.sqt h1, RDs.move m xs vs h2⟩
  | .lst xs, v, h => by
    obtain ⟨a, vs, e, nz, h1, h2⟩ := h
    obtain ⟨n1, h3⟩ := m.keep a _ nz h1
    exact ⟨a, vs, e, n1, h3, RDs.move m xs vs h2⟩
  | .scr ns, v, h => by
    obtain ⟨a, e, h1⟩ := h
    exact ⟨a, e, m.sqv h1⟩
  | .dct ks xs, v, h => by
    obtain ⟨a, ws, vs, e, nz, h1, e1, e2, h2⟩ := h
    obtain ⟨n1, h3⟩ := m.keep a _ nz h1
    exact ⟨a, ws, vs, e, n1, h3, e1, e2, RDs.move m xs vs h2⟩
  | .obj c ns xs, v, h => by
    obtain ⟨a, C, dx, ws, vs, e, nz, hc, h1, e1, e2, h2⟩ := h
    obtain ⟨n1, h3⟩ := m.keep a _ nz h1
    exact ⟨a, C, dx, ws, vs, e, n1, hc, h3, e1, e2, RDs.move m xs vs h2⟩
  | .ref n, v, h => by
    obtain ⟨a, h1, e⟩ := h
    exact ⟨a, m.pre n a h1, e⟩
theorem RDs.move {G : Wd} {Z Z' : Addr → Prop} {ρ ρ' : List Addr} {H H' : Hp} (m : Mv Z ρ H Z' ρ' H') : ∀ (ds : List D) (vs : List V), RDs G Z ρ H ds vs → RDs G Z' ρ' H' ds vs
  | [], vs, h => h
  | d :: ds, vs, h => by
    obtain ⟨v, r, e, h1, h2⟩ := h
    exact ⟨v, r, e, RD.move m d v h1, RDs.move m ds r h2⟩
end

section
variable {G : Wd} {Z : Addr → Prop} {ρ : List Addr} {H : Hp}
theorem RDs.length : ∀ {ds : List D} {vs : List V}, RDs G Z ρ H ds vs → ds.length = vs.length
  | [], vs, h => by cases (show vs = [] from h); rfl
  | d :: ds, vs, h => by
    obtain ⟨v, r, rfl, _, h2⟩ := h
    rw [List.length_cons, List.length_cons, RDs.length h2]
theorem RDs.get : ∀ {ds : List D} {vs : List V} {i : Nat} {d : D}, RDs G Z ρ H ds vs → ds[i]? = some d → ∃ v, vs[i]? = some v ∧ RD G Z ρ H d v
  | [], _, _, _, _, e => by simp at e
  | d :: ds, vs, 0, x, h, e => by
    obtain ⟨v, r, rfl, h1, _⟩ := h
    simp at e
    subst e
    exact ⟨v, rfl, h1⟩
  | d :: ds, vs, i + 1, x, h, e => by
    obtain ⟨v, r, rfl, _, h2⟩ := h
    obtain ⟨w, h3, h4⟩ := RDs.get (i := i) h2 (by simpa using e)
    exact ⟨w, by simpa using h3, h4⟩
theorem RDs.getV : ∀ {ds : List D} {vs : List V} {i : Nat} {v : V}, RDs G Z ρ H ds vs → vs[i]? = some v → ∃ d, ds[i]? = some d ∧ RD G Z ρ H d v
  | [], vs, i, v, h, e => by cases (show vs = [] from h); simp at e
  | d :: ds, vs, 0, x, h, e => by
    obtain ⟨v, r, rfl, h1, _⟩ := h
    simp at e
    subst e
    exact ⟨d, rfl, h1⟩
  | d :: ds, vs, i + 1, x, h, e => by
    obtain ⟨v, r, rfl, _, h2⟩ := h
    obtain ⟨w, h3, h4⟩ := RDs.getV (i := i) h2 (by simpa using e)
    exact ⟨w, by simpa using h3, h4⟩
theorem RDs.append : ∀ {ds es : List D} {vs ws : List V}, RDs G Z ρ H ds vs → RDs G Z ρ H es ws → RDs G Z ρ H (ds ++ es) (vs ++ ws)
  | [], es, vs, ws, h, h' => by cases (show vs = [] from h); exact h'
  | d :: ds, es, vs, ws, h, h' => by
    obtain ⟨v, r, rfl, h1, h2⟩ := h
    exact ⟨v, r ++ ws, rfl, h1, RDs.append h2 h'⟩
theorem RDs.take : ∀ {ds : List D} {vs : List V} (n : Nat), RDs G Z ρ H ds vs → RDs G Z ρ H (ds.take n) (vs.take n)
  | _, _, 0, _ => rfl
  | [], vs, n + 1, h => by cases (show vs = [] from h); rfl
  | d :: ds, vs, n + 1, h => by
    obtain ⟨v, r, rfl, h1, h2⟩ := h
    exact ⟨v, r.take n, rfl, h1, RDs.take n h2⟩
theorem RDs.drop : ∀ {ds : List D} {vs : List V} (n : Nat), RDs G Z ρ H ds vs → RDs G Z ρ H (ds.drop n) (vs.drop n)
  | _, _, 0, h => h
  | [], vs, n + 1, h => by cases (show vs = [] from h); rfl
  | d :: ds, vs, n + 1, h => by
    obtain ⟨v, r, rfl, h1, h2⟩ := h
    exact RDs.drop n h2
theorem RDs.set : ∀ {ds : List D} {vs : List V} {d : D} {v : V} (n : Nat), RDs G Z ρ H ds vs → RD G Z ρ H d v → RDs G Z ρ H (ds.set n d) (vs.set n v)
  | [], vs, d, v, n, h, _ => by cases (show vs = [] from h); rfl
  | d' :: ds, vs, d, v, 0, h, q => by
    obtain ⟨v', r, rfl, h1, h2⟩ := h
    exact ⟨v, r, rfl, q, h2⟩
  | d' :: ds, vs, d, v, n + 1, h, q => by
    obtain ⟨v', r, rfl, h1, h2⟩ := h
    exact ⟨v', r.set n v, rfl, h1, RDs.set n h2 q⟩
theorem RDs.reverse : ∀ {ds : List D} {vs : List V}, RDs G Z ρ H ds vs → RDs G Z ρ H ds.reverse vs.reverse
  | [], vs, h => by cases (show vs = [] from h); rfl
  | d :: ds, vs, h => by
    obtain ⟨v, r, rfl, h1, h2⟩ := h
    rw [List.reverse_cons, List.reverse_cons]
    exact RDs.append (RDs.reverse h2) ⟨v, [], rfl, h1, rfl⟩
theorem RDs.erase : ∀ {ds : List D} {vs : List V} (n : Nat), RDs G Z ρ H ds vs → RDs G Z ρ H (ds.eraseIdx n) (vs.eraseIdx n)
  | [], vs, n, h => by cases (show vs = [] from h); rfl
  | d :: ds, vs, 0, h => by
    obtain ⟨v, r, rfl, h1, h2⟩ := h
    exact h2
  | d :: ds, vs, n + 1, h => by
    obtain ⟨v, r, rfl, h1, h2⟩ := h
    exact ⟨v, r.eraseIdx n, rfl, h1, RDs.erase n h2⟩
theorem RDs.one {d : D} {v : V} (h : RD G Z ρ H d v) : RDs G Z ρ H [d] [v] := ⟨v, [], rfl, h, rfl⟩
theorem RDs.ints : ∀ ns : List Int, RDs G Z ρ H (ns.map D.int) (ns.map V.int)
  | [] => rfl
  | n :: ns => ⟨.int n, ns.map V.int, rfl, rfl, RDs.ints ns⟩
theorem RDs.ints_of : ∀ {ns : List Int} {vs : List V}, RDs G Z ρ H (ns.map D.int) vs → vs = ns.map V.int
  | [], vs, h => h
  | n :: ns, vs, h => by
    obtain ⟨v, r, rfl, h1, h2⟩ := h
    rw [RDs.ints_of h2, show v = .int n from h1]
    rfl
theorem RDs.bls_of : ∀ {ns : List Bool} {vs : List V}, RDs G Z ρ H (ns.map D.bl) vs → vs = ns.map V.bl
  | [], vs, h => h
  | n :: ns, vs, h => by
    obtain ⟨v, r, rfl, h1, h2⟩ := h
    rw [RDs.bls_of h2, show v = .bl n from h1]
    rfl
end

/-- the slot holds it alone -/
def Own (env : List Slot) (σ : L2.St) (a : Addr) (i : Nat) : Prop := ∃ ds, env[i]? = some (.own ds) ∧ σ[i]? = some (some (.ref a))
/-- what may be written here -/
def MZ (T ρ : List Addr) (env : List Slot) (σ : L2.St) (a : Addr) : Prop := a ∈ T ∨ a ∈ ρ ∨ ∃ i, Own env σ a i
/-- what stays: F the callers' own lists; mu what may be written since H0 -/
structure Base where
  F : Addr → Prop
  mu : Addr → Prop
  H0 : Hp
  r0 : List Addr
def ZZ (F : Addr → Prop) (T ρ : List Addr) (env : List Slot) (σ : L2.St) (a : Addr) : Prop := F a ∨ MZ T ρ env σ a
/-- an object of a kind that is written -/
def Mt : HO → Prop
  | .lst _ => True
  | .dK _ => True
  | .ins _ _ _ => True
  | _ => False
def RO (G : Wd) (Z : Addr → Prop) (ρ : List Addr) (H : Hp) (a : Addr) : VO → Prop
  | .lst xs => ∃ vs, H a = some (.lst vs) ∧ RDs G Z ρ H xs vs
  | .dct ks xs => ∃ ws vs, H a = some (.dK ws) ∧ ws.map (·.1) = ks ∧ ws.map (·.2) = vs ∧ RDs G Z ρ H xs vs
  | .ins c ns xs => ∃ C dx ws vs, G.ci c = some C ∧ H a = some (.ins C dx ws) ∧ ws.map (·.1) = ns ∧ ws.map (·.2) = vs ∧ RDs G Z ρ H xs vs
def RSl (G : Wd) (Z : Addr → Prop) (ρ : List Addr) (H : Hp) (o : Option (Option V)) : Slot → Prop
  | .no => True
  | .val d => ∃ v, o = some (some v) ∧ RD G Z ρ H d v
  | .own ds => ∃ a vs, o = some (some (.ref a)) ∧ H a = some (.lst vs) ∧ RDs G Z ρ H ds vs

structure Rel (G : Wd) (B : Base) (T ρ : List Addr) (env : List Slot) (vh : List VO) (σ : L2.St) (H : Hp) : Prop where
  vl : vh.length = ρ.length
  rn : ρ.Nodup
  tn : T.Nodup
  tr : ∀ a, a ∈ T → a ∉ ρ
  ot : ∀ i a, Own env σ a i → a ∉ T ∧ a ∉ ρ
  oi : ∀ i j a, Own env σ a i → Own env σ a j → i = j
  fm : ∀ a, B.F a → ¬ MZ T ρ env σ a
  tk : ∀ a, ZZ B.F T ρ env σ a → ∃ u, H a = some u ∧ Mt u
  ob : ∀ (n : Nat) (o : VO) (a : Addr), vh[n]? = some o → ρ[n]? = some a → RO G (ZZ B.F T ρ env σ) ρ H a o
  sl : σ.length = env.length
  st : ∀ (i : Nat) (s : Slot), env[i]? = some s → RSl G (ZZ B.F T ρ env σ) ρ H σ[i]? s
  kp : ∀ a u, B.H0 a = some u → ¬ B.mu a → H a = some u
  tp : ∀ a xs, Rd B.H0 a (.tup xs) → Rd H a (.tup xs)
  zn : ∀ a, MZ T ρ env σ a → B.mu a ∨ B.H0 a = none
  pr : ∀ (n : Nat) (a : Addr), B.r0[n]? = some a → ρ[n]? = some a

theorem RO.move {G : Wd} {Z Z' : Addr → Prop} {ρ ρ' : List Addr} {H H' : Hp} (m : Mv Z ρ H Z' ρ' H') {a : Addr} {o : VO} (h : RO G Z ρ H a o) (e : H' a = H a) : RO G Z' ρ' H' a o := by
  cases o with
  | lst xs => obtain ⟨vs, h1, h2⟩ := h; exact ⟨vs, e.trans h1, RDs.move m _ _ h2⟩
  | dct ks xs => obtain ⟨ws, vs, h1, e1, e2, h2⟩ := h; exact ⟨ws, vs, e.trans h1, e1, e2, RDs.move m _ _ h2⟩
  | ins c ns xs => obtain ⟨C, dx, ws, vs, hc, h1, e1, e2, h2⟩ := h; exact ⟨C, dx, ws, vs, hc, e.trans h1, e1, e2, RDs.move m _ _ h2⟩
theorem RO.mt {G : Wd} {Z : Addr → Prop} {ρ : List Addr} {H : Hp} {a : Addr} {o : VO} (h : RO G Z ρ H a o) : ∃ u, H a = some u ∧ Mt u := by
  cases o with
  | lst xs => obtain ⟨vs, h1, h2⟩ := h; exact ⟨_, h1, trivial⟩
  | dct ks xs => obtain ⟨ws, vs, h1, e1, e2, h2⟩ := h; exact ⟨_, h1, trivial⟩
  | ins c ns xs => obtain ⟨C, dx, ws, vs, hc, h1, e1, e2, h2⟩ := h; exact ⟨_, h1, trivial⟩
theorem RSl.move {G : Wd} {Z Z' : Addr → Prop} {ρ ρ' : List Addr} {H H' : Hp} (m : Mv Z ρ H Z' ρ' H') {o : Option (Option V)} {s : Slot} (h : RSl G Z ρ H o s) (e : ∀ a ds, s = .own ds → o = some (some (.ref a)) → H' a = H a) : RSl G Z' ρ' H' o s := by
  cases s with
  | no => trivial
  | val d => obtain ⟨v, h1, h2⟩ := h; exact ⟨v, h1, RD.move m _ _ h2⟩
  | own ds => obtain ⟨a, vs, h1, h2, h3⟩ := h; exact ⟨a, vs, h1, (e a ds rfl h1).trans h2, RDs.move m _ _ h3⟩

theorem mt_tup {H : Hp} {a : Addr} {u : HO} {xs : List V} (h : H a = some u) (m : Mt u) : ¬ Rd H a (.tup xs) := by
  rintro (q | ⟨o, q⟩)
  · rw [h] at q; cases q; exact m
  · rw [h] at q; cases q; exact m
end R

set_option autoImplicit false
namespace R
open PySem PySem.Spec PyProof.Rows L2
/-! ## R1: how the relation goes on -/
section
variable {G : Wd} {B : Base} {T ρ : List Addr} {env : List Slot} {vh : List VO} {σ : L2.St} {H : Hp}

theorem Mv.same {Z : Addr → Prop} {H' : Hp} (s : Same H H') : Mv Z ρ H Z ρ H' :=
  ⟨fun _ _ h => h, fun a u nz h => ⟨nz, s a u h⟩, fun a xs h => by
    rcases h with h | ⟨o, h⟩
    · exact .inl (s _ _ h)
    · exact .inr ⟨o, s _ _ h⟩⟩
theorem Mv.less {Z Z' : Addr → Prop} (h : ∀ a, Z' a → Z a) : Mv Z ρ H Z' ρ H :=
  ⟨fun _ _ h => h, fun a u nz e => ⟨fun z => nz (h a z), e⟩, fun a xs e => e⟩
theorem Mv.fresh {Z Z' : Addr → Prop} {H' : Hp} (s : Same H H') (h : ∀ a, Z' a → Z a ∨ H a = none) : Mv Z ρ H Z' ρ H' :=
  ⟨fun _ _ h => h, fun a u nz e => ⟨fun z => (h a z).elim nz fun q => (by rw [e] at q; cases q), s a u e⟩, (Mv.same (Z := Z) (ρ := ρ) s).tup⟩
theorem Mv.upd {Z : Addr → Prop} {x : Addr} {o u : HO} (hx : Z x) (e : H x = some o) (mo : Mt o) : Mv Z ρ H Z ρ (upd H x u) :=
  ⟨fun _ _ h => h, fun a w nz h => ⟨nz, (upd_ne (fun z => nz (by rw [z]; exact hx))).trans h⟩, fun a xs h => by
    have ne : a ≠ x := fun z => by subst z; exact mt_tup e mo h
    rcases h with h | ⟨o, h⟩
    · exact .inl (by rw [upd_ne ne]; exact h)
    · exact .inr ⟨o, by rw [upd_ne ne]; exact h⟩⟩
theorem same_new {p : Addr} {o : HO} (h : H p = none) : Same H (upd H p o) := fun b x e => by
  rw [upd_ne (ne_of_none e h)]
  exact e

theorem Rel.grow {H' : Hp} (R : Rel G B T ρ env vh σ H) (s : Same H H') : Rel G B T ρ env vh σ H' := by
  have m : Mv (ZZ B.F T ρ env σ) ρ H (ZZ B.F T ρ env σ) ρ H' := Mv.same s
  refine ⟨R.vl, R.rn, R.tn, R.tr, R.ot, R.oi, R.fm, fun a z => ?_, fun n o a h1 h2 => ?_, R.sl, fun i x h => ?_, fun a u h1 h2 => s _ _ (R.kp a u h1 h2), fun a xs h => m.tup a xs (R.tp a xs h), R.zn, R.pr⟩
  · obtain ⟨u, h, q⟩ := R.tk a z
    exact ⟨u, s _ _ h, q⟩
  · have q := R.ob n o a h1 h2
    obtain ⟨u, h, _⟩ := q.mt
    exact q.move m ((s _ _ h).trans h.symm)
  · refine (R.st i x h).move m fun a ds e e2 => ?_
    subst e
    obtain ⟨u, h', _⟩ := R.tk a (.inr (.inr (.inr ⟨i, ds, h, e2⟩)))
    exact (s _ _ h').trans h'.symm
theorem Rel.grown {d : D} {v : V} {H' : Hp} (s : Same H H') (h : RD G (ZZ B.F T ρ env σ) ρ H d v) : RD G (ZZ B.F T ρ env σ) ρ H' d v := RD.move (Mv.same s) _ _ h

/-- a new list (or other object) of ours -/
theorem Rel.tmp {p : Addr} {o : HO} (R : Rel G B T ρ env vh σ H) (hp : H p = none) (mo : Mt o) : Rel G B (p :: T) ρ env vh σ (upd H p o) := by
  have s := same_new (o := o) hp
  have np : ∀ a, ZZ B.F T ρ env σ a → a ≠ p := fun a z e => by
    obtain ⟨u, h, _⟩ := R.tk a z
    rw [e, hp] at h; cases h
  have m : Mv (ZZ B.F T ρ env σ) ρ H (ZZ B.F (p :: T) ρ env σ) ρ (upd H p o) := Mv.fresh s fun a z => by
    rcases z with z | z | z
    · exact .inl (.inl z)
    · rcases List.mem_cons.mp z with e | z
      · exact .inr (by rw [e]; exact hp)
      · exact .inl (.inr (.inl z))
    · exact .inl (.inr (.inr z))
  refine ⟨R.vl, R.rn, List.nodup_cons.mpr ⟨fun z => np p (.inr (.inl z)) rfl, R.tn⟩, fun a z => ?_, fun i a z => ⟨fun q => ?_, (R.ot i a z).2⟩, R.oi, fun a z q => ?_, fun a z => ?_, fun n o a h1 h2 => ?_, R.sl, fun i x h => ?_, fun a u h1 h2 => s _ _ (R.kp a u h1 h2), fun a xs h => m.tup a xs (R.tp a xs h), fun a z => ?_, R.pr⟩
  · rcases List.mem_cons.mp z with e | z
    · intro q; exact np a (.inr (.inr (.inl q))) e
    · exact R.tr a z
  · rcases List.mem_cons.mp q with e | q
    · exact np a (.inr (.inr (.inr ⟨i, z⟩))) e
    · exact (R.ot i a z).1 q
  · rcases q with q | q
    · rcases List.mem_cons.mp q with e | q
      · exact np a (.inl z) e
      · exact R.fm a z (.inl q)
    · exact R.fm a z (.inr q)
  · rcases z with z | z | z
    · obtain ⟨u, h, q⟩ := R.tk a (.inl z)
      exact ⟨u, s _ _ h, q⟩
    · rcases List.mem_cons.mp z with e | z
      · exact ⟨o, by rw [e]; exact upd_same, mo⟩
      · obtain ⟨u, h, q⟩ := R.tk a (.inr (.inl z))
        exact ⟨u, s _ _ h, q⟩
    · obtain ⟨u, h, q⟩ := R.tk a (.inr (.inr z))
      exact ⟨u, s _ _ h, q⟩
  · have q := R.ob n o a h1 h2
    obtain ⟨u, h, _⟩ := q.mt
    exact q.move m ((s _ _ h).trans h.symm)
  · refine (R.st i x h).move m fun a ds e e2 => ?_
    subst e
    obtain ⟨u, h', _⟩ := R.tk a (.inr (.inr (.inr ⟨i, ds, h, e2⟩)))
    exact (s _ _ h').trans h'.symm
  · rcases z with z | z
    · rcases List.mem_cons.mp z with e | z
      · by_cases mu : B.mu a
        · exact .inl mu
        · refine .inr ?_
          cases q : B.H0 a with
          | none => rfl
          | some u =>
            have := R.kp a u q mu
            rw [e, hp] at this; cases this
      · exact R.zn a (.inl z)
    · exact R.zn a (.inr z)

theorem Own.of_set {i j : Nat} {s : Slot} {v : Option V} {a : Addr} (h : Own (env.set i s) (σ.set i v) a j) : (j = i ∧ ∃ ds, s = .own ds ∧ v = some (.ref a)) ∨ (j ≠ i ∧ Own env σ a j) := by
  obtain ⟨ds, h1, h2⟩ := h
  by_cases e : j = i
  · subst e
    refine .inl ⟨rfl, ds, ?_, ?_⟩
    · by_cases hl : j < env.length
      · rw [List.getElem?_set_self hl] at h1; exact Option.some.inj h1
      · rw [List.getElem?_eq_none (by simpa using hl)] at h1; cases h1
    · by_cases hl : j < σ.length
      · rw [List.getElem?_set_self hl] at h2; exact Option.some.inj h2
      · rw [List.getElem?_eq_none (by simpa using hl)] at h2; cases h2
  · rw [List.getElem?_set_ne (Ne.symm e)] at h1 h2
    exact .inr ⟨e, ds, h1, h2⟩
theorem Own.of_setE {i j : Nat} {s : Slot} {a : Addr} (h : Own (env.set i s) σ a j) : (j = i ∧ ∃ ds, s = .own ds ∧ σ[i]? = some (some (.ref a))) ∨ (j ≠ i ∧ Own env σ a j) := by
  obtain ⟨ds, h1, h2⟩ := h
  by_cases e : j = i
  · subst e
    refine .inl ⟨rfl, ds, ?_, h2⟩
    by_cases hl : j < env.length
    · rw [List.getElem?_set_self hl] at h1; exact Option.some.inj h1
    · rw [List.getElem?_eq_none (by simpa using hl)] at h1; cases h1
  · rw [List.getElem?_set_ne (Ne.symm e)] at h1
    exact .inr ⟨e, ds, h1, h2⟩
theorem set_getE {α : Type} {l : List α} {i j : Nat} {s x : α} (h : (l.set i s)[j]? = some x) : (j = i ∧ x = s) ∨ (j ≠ i ∧ l[j]? = some x) := by
  by_cases e : j = i
  · subst e
    by_cases hl : j < l.length
    · rw [List.getElem?_set_self hl] at h; exact .inl ⟨rfl, (Option.some.inj h).symm⟩
    · rw [List.getElem?_eq_none (by simpa using hl)] at h; cases h
  · rw [List.getElem?_set_ne (Ne.symm e)] at h
    exact .inr ⟨e, h⟩

/-- fewer things that may be written: T, slots made less -/
theorem Rel.weak {T' : List Addr} {env' : List Slot} {σ' : L2.St} (R : Rel G B T ρ env vh σ H) (hT : ∀ a, a ∈ T' → a ∈ T) (nT : T'.Nodup) (hO : ∀ i a, Own env' σ' a i → Own env σ a i)
    (hl : σ'.length = env'.length) (hs : ∀ (i : Nat) (s : Slot), env'[i]? = some s → RSl G (ZZ B.F T' ρ env' σ') ρ H σ'[i]? s) : Rel G B T' ρ env' vh σ' H := by
  have less : ∀ a, MZ T' ρ env' σ' a → MZ T ρ env σ a := fun a z => by
    rcases z with z | z | ⟨i, z⟩
    · exact .inl (hT a z)
    · exact .inr (.inl z)
    · exact .inr (.inr ⟨i, hO i a z⟩)
  have lessZ : ∀ a, ZZ B.F T' ρ env' σ' a → ZZ B.F T ρ env σ a := fun a z => z.elim .inl fun z => .inr (less a z)
  have m : Mv (ZZ B.F T ρ env σ) ρ H (ZZ B.F T' ρ env' σ') ρ H := Mv.less lessZ
  exact ⟨R.vl, R.rn, nT, fun a z => R.tr a (hT a z), fun i a z => ⟨fun q => (R.ot i a (hO i a z)).1 (hT a q), (R.ot i a (hO i a z)).2⟩, fun i j a p q => R.oi i j a (hO i a p) (hO j a q),
    fun a f z => R.fm a f (less a z), fun a z => R.tk a (lessZ a z), fun n o a h1 h2 => (R.ob n o a h1 h2).move m rfl, hl, hs, R.kp, R.tp, fun a z => R.zn a (less a z), R.pr⟩

theorem Rel.dropT {a : Addr} (R : Rel G B (a :: T) ρ env vh σ H) : Rel G B T ρ env vh σ H :=
  R.weak (fun b h => List.mem_cons_of_mem _ h) (List.nodup_cons.mp R.tn).2 (fun _ _ h => h) R.sl fun i s h => (R.st i s h).move (Mv.less fun b z => by
    rcases z with z | z | z
    · exact .inl z
    · exact .inr (.inl (List.mem_cons_of_mem _ z))
    · exact .inr (.inr z)) fun _ _ _ _ => rfl
theorem Rel.dropT_d {a : Addr} {d : D} {v : V} (h : RD G (ZZ B.F (a :: T) ρ env σ) ρ H d v) : RD G (ZZ B.F T ρ env σ) ρ H d v := RD.move (Mv.less fun b z => by
    rcases z with z | z | z
    · exact .inl z
    · exact .inr (.inl (List.mem_cons_of_mem _ z))
    · exact .inr (.inr z)) _ _ h
theorem Rel.dropT_ds {a : Addr} {ds : List D} {vs : List V} (h : RDs G (ZZ B.F (a :: T) ρ env σ) ρ H ds vs) : RDs G (ZZ B.F T ρ env σ) ρ H ds vs := RDs.move (Mv.less fun b z => by
    rcases z with z | z | z
    · exact .inl z
    · exact .inr (.inl (List.mem_cons_of_mem _ z))
    · exact .inr (.inr z)) _ _ h
/-- a list of ours is let go: it is data then -/
theorem Rel.let_go {a : Addr} {ds : List D} {vs : List V} (R : Rel G B (a :: T) ρ env vh σ H) (e : H a = some (.lst vs)) (h : RDs G (ZZ B.F (a :: T) ρ env σ) ρ H ds vs) : RD G (ZZ B.F T ρ env σ) ρ H (.lst ds) (.ref a) := by
  refine ⟨a, vs, rfl, ?_, e, Rel.dropT_ds h⟩
  rintro (z | z | z | ⟨i, z⟩)
  · exact R.fm a z (.inl List.mem_cons_self)
  · exact (List.nodup_cons.mp R.tn).1 z
  · exact R.tr a List.mem_cons_self z
  · exact (R.ot i a z).1 List.mem_cons_self

/-- a name is stored -/
theorem Rel.setVal {i : Nat} {d : D} {v : V} (R : Rel G B T ρ env vh σ H) (h : RD G (ZZ B.F T ρ env σ) ρ H d v) : Rel G B T ρ (env.set i (.val d)) vh (σ.set i (some v)) H := by
  have hO : ∀ j a, Own (env.set i (.val d)) (σ.set i (some v)) a j → Own env σ a j := fun j a z => by
    rcases Own.of_set z with ⟨_, ds, e, _⟩ | ⟨_, q⟩
    · cases e
    · exact q
  have m : Mv (ZZ B.F T ρ env σ) ρ H (ZZ B.F T ρ (env.set i (.val d)) (σ.set i (some v))) ρ H := Mv.less fun a z => by
    rcases z with z | z | z | ⟨j, z⟩
    · exact .inl z
    · exact .inr (.inl z)
    · exact .inr (.inr (.inl z))
    · exact .inr (.inr (.inr ⟨j, hO j a z⟩))
  refine R.weak (fun _ h => h) R.tn hO (by simpa using R.sl) fun j s hj => ?_
  rcases set_getE hj with ⟨e, e2⟩ | ⟨ne, q⟩
  · subst e e2
    have hl : j < σ.length := by
      have := (List.getElem?_eq_some_iff.mp hj).1
      rw [List.length_set] at this
      rw [R.sl]; exact this
    exact ⟨v, by rw [List.getElem?_set_self hl], RD.move m _ _ h⟩
  · rw [List.getElem?_set_ne (Ne.symm ne)]
    exact (R.st j s q).move m fun _ _ _ _ => rfl
theorem Rel.setOwn {i : Nat} {a : Addr} {ds : List D} {vs : List V} (R : Rel G B (a :: T) ρ env vh σ H) (e : H a = some (.lst vs)) (h : RDs G (ZZ B.F (a :: T) ρ env σ) ρ H ds vs) :
    Rel G B T ρ (env.set i (.own ds)) vh (σ.set i (some (.ref a))) H := by
  have hO : ∀ j b, Own (env.set i (.own ds)) (σ.set i (some (.ref a))) b j → (j = i ∧ b = a) ∨ (j ≠ i ∧ Own env σ b j) := fun j b z => by
    rcases Own.of_set z with ⟨e, _, _, e2⟩ | q
    · cases e2; exact .inl ⟨e, rfl⟩
    · exact .inr q
  have less : ∀ b, MZ T ρ (env.set i (.own ds)) (σ.set i (some (.ref a))) b → MZ (a :: T) ρ env σ b := fun b z => by
    rcases z with z | z | ⟨j, z⟩
    · exact .inl (List.mem_cons_of_mem _ z)
    · exact .inr (.inl z)
    · rcases hO j b z with ⟨_, e⟩ | ⟨_, q⟩
      · exact .inl (by rw [e]; exact List.mem_cons_self)
      · exact .inr (.inr ⟨j, q⟩)
  have lessZ : ∀ b, ZZ B.F T ρ (env.set i (.own ds)) (σ.set i (some (.ref a))) b → ZZ B.F (a :: T) ρ env σ b := fun b z => z.elim .inl fun z => .inr (less b z)
  have m : Mv (ZZ B.F (a :: T) ρ env σ) ρ H (ZZ B.F T ρ (env.set i (.own ds)) (σ.set i (some (.ref a)))) ρ H := Mv.less lessZ
  have aT := (List.nodup_cons.mp R.tn).1
  refine ⟨R.vl, R.rn, (List.nodup_cons.mp R.tn).2, fun b z => R.tr b (List.mem_cons_of_mem _ z), fun j b z => ?_, fun j k b z q => ?_, fun b f z => R.fm b f (less b z), fun b z => R.tk b (lessZ b z),
    fun n o b h1 h2 => (R.ob n o b h1 h2).move m rfl, by simpa using R.sl, fun j s hj => ?_, R.kp, R.tp, fun b z => R.zn b (less b z), R.pr⟩
  · rcases hO j b z with ⟨_, e⟩ | ⟨_, q⟩
    · rw [e]; exact ⟨aT, R.tr a List.mem_cons_self⟩
    · exact ⟨fun z => (R.ot j b q).1 (List.mem_cons_of_mem _ z), (R.ot j b q).2⟩
  · rcases hO j b z with ⟨e1, e2⟩ | ⟨n1, q1⟩
    · rcases hO k b q with ⟨e3, e4⟩ | ⟨n2, q2⟩
      · rw [e1, e3]
      · rw [e2] at q2
        exact absurd List.mem_cons_self (R.ot k a q2).1
    · rcases hO k b q with ⟨e3, e4⟩ | ⟨n2, q2⟩
      · rw [e4] at q1
        exact absurd List.mem_cons_self (R.ot j a q1).1
      · exact R.oi j k b q1 q2
  · rcases set_getE hj with ⟨e1, e2⟩ | ⟨ne, q⟩
    · subst e1 e2
      have hl : j < σ.length := by
        have := (List.getElem?_eq_some_iff.mp hj).1
        rw [List.length_set] at this
        rw [R.sl]; exact this
      exact ⟨a, vs, by rw [List.getElem?_set_self hl], e, RDs.move m _ _ h⟩
    · rw [List.getElem?_set_ne (Ne.symm ne)]
      exact (R.st j s q).move m fun _ _ _ _ => rfl
/-- a slot lets its list go -/
theorem Rel.freeze {i : Nat} {ds : List D} (R : Rel G B T ρ env vh σ H) (hi : env[i]? = some (.own ds)) : Rel G B T ρ (env.set i (.val (.lst ds))) vh σ H := by
  obtain ⟨a, vs, ha, e, h⟩ := R.st i _ hi
  have hO : ∀ j b, Own (env.set i (.val (.lst ds))) σ b j → j ≠ i ∧ Own env σ b j := fun j b z => by
    rcases Own.of_setE z with ⟨_, _, e, _⟩ | q
    · cases e
    · exact q
  have m : Mv (ZZ B.F T ρ env σ) ρ H (ZZ B.F T ρ (env.set i (.val (.lst ds))) σ) ρ H := Mv.less fun b z => by
    rcases z with z | z | z | ⟨j, z⟩
    · exact .inl z
    · exact .inr (.inl z)
    · exact .inr (.inr (.inl z))
    · exact .inr (.inr (.inr ⟨j, (hO j b z).2⟩))
  have own : Own env σ a i := ⟨ds, hi, ha⟩
  refine R.weak (fun _ h => h) R.tn (fun j b z => (hO j b z).2) (by rw [List.length_set]; exact R.sl) fun j s hj => ?_
  rcases set_getE hj with ⟨e1, e2⟩ | ⟨ne, q⟩
  · subst e1 e2
    refine ⟨.ref a, ha, a, vs, rfl, ?_, e, RDs.move m _ _ h⟩
    rintro (z | z | z | ⟨k, z⟩)
    · exact R.fm a z (.inr (.inr ⟨j, own⟩))
    · exact (R.ot j a own).1 z
    · exact (R.ot j a own).2 z
    · obtain ⟨n, q⟩ := hO k a z
      exact n (R.oi k j a q own)
  · exact (R.st j s q).move m fun _ _ _ _ => rfl

/-- an object of ours is written; what else stands, stands -/
theorem Rel.write {x : Addr} {o u : HO} {env' : List Slot} {vh' : List VO} (R : Rel G B T ρ env vh σ H) (hx : MZ T ρ env σ x) (e : H x = some o) (mo : Mt o) (mu : Mt u) (hl : vh'.length = vh.length) (hle : env'.length = env.length)
    (hO : ∀ i a, Own env' σ a i ↔ Own env σ a i)
    (hob : ∀ (n : Nat) (o : VO) (a : Addr), vh'[n]? = some o → ρ[n]? = some a → (a ≠ x → vh[n]? = some o) ∧ (a = x → RO G (ZZ B.F T ρ env σ) ρ (upd H x u) x o))
    (hst : ∀ (i : Nat) (s : Slot), env'[i]? = some s → (env[i]? = some s ∧ ∀ ds, s = .own ds → σ[i]? ≠ some (some (.ref x))) ∨ RSl G (ZZ B.F T ρ env σ) ρ (upd H x u) σ[i]? s) : Rel G B T ρ env' vh' σ (upd H x u) := by
  have hM : ∀ a, MZ T ρ env' σ a ↔ MZ T ρ env σ a := fun a =>
    ⟨fun z => z.imp id (Or.imp id fun ⟨i, z⟩ => ⟨i, (hO i a).mp z⟩), fun z => z.imp id (Or.imp id fun ⟨i, z⟩ => ⟨i, (hO i a).mpr z⟩)⟩
  have hZ : ∀ a, ZZ B.F T ρ env' σ a ↔ ZZ B.F T ρ env σ a := fun a => ⟨fun z => z.imp id (hM a).mp, fun z => z.imp id (hM a).mpr⟩
  have eZ : ZZ B.F T ρ env' σ = ZZ B.F T ρ env σ := funext fun a => propext (hZ a)
  have m : Mv (ZZ B.F T ρ env σ) ρ H (ZZ B.F T ρ env σ) ρ (upd H x u) := Mv.upd (.inr hx) e mo
  refine ⟨hl.trans R.vl, R.rn, R.tn, R.tr, fun i a z => R.ot i a ((hO i a).mp z), fun i j a z q => R.oi i j a ((hO i a).mp z) ((hO j a).mp q), fun a f z => R.fm a f ((hM a).mp z), fun a z => ?_, fun n o a h1 h2 => ?_, R.sl.trans hle.symm, fun i s h => ?_, fun a w h1 h2 => ?_, fun a xs h => m.tup a xs (R.tp a xs h), fun a z => R.zn a ((hM a).mp z), R.pr⟩
  · by_cases ea : a = x
    · exact ⟨u, by rw [ea]; exact upd_same, mu⟩
    · obtain ⟨w, h, q⟩ := R.tk a ((hZ a).mp z)
      exact ⟨w, by rw [upd_ne ea]; exact h, q⟩
  · rw [eZ]
    obtain ⟨q1, q2⟩ := hob n o a h1 h2
    by_cases ea : a = x
    · rw [ea]; exact q2 ea
    · exact (R.ob n o a (q1 ea) h2).move m (upd_ne ea)
  · rw [eZ]
    rcases hst i s h with ⟨q, nx⟩ | q
    · refine (R.st i s q).move m fun a ds es e2 => upd_ne fun z => nx ds es ?_
      rw [e2, z]
    · exact q
  · have n : a ≠ x := fun z => by
      rcases R.zn x hx with q | q
      · rw [z] at h2; exact h2 q
      · rw [z, q] at h1; cases h1
    rw [upd_ne n]
    exact R.kp a w h1 h2
/-- an own list is written -/
theorem Rel.ownUpd {i : Nat} {ds ds' : List D} {a : Addr} {vs vs' : List V} (R : Rel G B T ρ env vh σ H) (hi : env[i]? = some (.own ds)) (ha : σ[i]? = some (some (.ref a))) (e : H a = some (.lst vs)) (h : RDs G (ZZ B.F T ρ env σ) ρ H ds' vs') :
    Rel G B T ρ (env.set i (.own ds')) vh σ (upd H a (.lst vs')) := by
  have own : Own env σ a i := ⟨ds, hi, ha⟩
  have li : i < env.length := (List.getElem?_eq_some_iff.mp hi).1
  have m : Mv (ZZ B.F T ρ env σ) ρ H (ZZ B.F T ρ env σ) ρ (upd H a (.lst vs')) := Mv.upd (.inr (.inr (.inr ⟨i, own⟩))) e trivial
  refine R.write (.inr (.inr ⟨i, own⟩)) e trivial trivial rfl (by simp) (fun j b => ⟨fun z => ?_, fun z => ?_⟩) (fun n o b h1 h2 => ⟨fun _ => h1, fun eb => ?_⟩) fun j s hj => ?_
  · rcases Own.of_setE z with ⟨e1, _, _, e3⟩ | ⟨_, q⟩
    · rw [e1]; exact ⟨ds, hi, e3⟩
    · exact q
  · obtain ⟨es, h1, h2⟩ := z
    by_cases ej : j = i
    · rw [ej] at h2 ⊢
      exact ⟨ds', by rw [List.getElem?_set_self li], h2⟩
    · exact ⟨es, by rw [List.getElem?_set_ne (Ne.symm ej)]; exact h1, h2⟩
  · rw [eb] at h2
    exact absurd (List.mem_of_getElem? h2) (R.ot i a own).2
  · rcases set_getE hj with ⟨e1, e2⟩ | ⟨ne, q⟩
    · subst e1 e2
      exact .inr ⟨a, vs', ha, upd_same, RDs.move m _ _ h⟩
    · exact .inl ⟨q, fun es e1 e2 => ne (R.oi j i a ⟨es, by rw [q, e1], e2⟩ own)⟩
/-- a shared object is written -/
theorem Rel.shUpd {n : Nat} {a : Addr} {o o' : VO} {u : HO} (R : Rel G B T ρ env vh σ H) (hn : vh[n]? = some o) (ha : ρ[n]? = some a) (mu : Mt u) (h : RO G (ZZ B.F T ρ env σ) ρ (upd H a u) a o') :
    Rel G B T ρ env (vh.set n o') σ (upd H a u) := by
  obtain ⟨w, e, mo⟩ := (R.ob n o a hn ha).mt
  have hx : MZ T ρ env σ a := .inr (.inl (List.mem_of_getElem? ha))
  refine R.write hx e mo mu (by simp) rfl (fun _ _ => Iff.rfl) (fun k p b h1 h2 => ⟨fun nb => ?_, fun eb => ?_⟩) fun j s hj => .inl ⟨hj, fun ds e1 e2 => ?_⟩
  · rcases set_getE h1 with ⟨e1, _⟩ | ⟨_, q⟩
    · rw [e1, ha] at h2
      exact absurd (Option.some.inj h2).symm nb
    · exact q
  · have ek : k = n := by
      rw [eb] at h2
      obtain ⟨l1, e1⟩ := List.getElem?_eq_some_iff.mp h2
      obtain ⟨l2, e2⟩ := List.getElem?_eq_some_iff.mp ha
      exact (List.getElem_inj R.rn).mp (e1.trans e2.symm)
    rcases set_getE h1 with ⟨_, e2⟩ | ⟨ne, _⟩
    · rw [e2]; exact h
    · exact absurd ek ne
  · exact (R.ot j a ⟨ds, by rw [hj, e1], e2⟩).2 (List.mem_of_getElem? ha)
/-- what is ours becomes shared -/
theorem Rel.share {a : Addr} {o : VO} (R : Rel G B (a :: T) ρ env vh σ H) (h : RO G (ZZ B.F (a :: T) ρ env σ) ρ H a o) : Rel G B T (ρ ++ [a]) env (vh ++ [o]) σ H := by
  have ar : a ∉ ρ := R.tr a List.mem_cons_self
  have aT := (List.nodup_cons.mp R.tn).1
  have hM : ∀ b, MZ T (ρ ++ [a]) env σ b ↔ MZ (a :: T) ρ env σ b := fun b => by
    unfold MZ
    rw [List.mem_append, List.mem_singleton, List.mem_cons]
    constructor
    · rintro (z | (z | z) | z)
      · exact .inl (.inr z)
      · exact .inr (.inl z)
      · exact .inl (.inl z)
      · exact .inr (.inr z)
    · rintro ((z | z) | z | z)
      · exact .inr (.inl (.inr z))
      · exact .inl z
      · exact .inr (.inl (.inl z))
      · exact .inr (.inr z)
  have eZ : ZZ B.F T (ρ ++ [a]) env σ = ZZ B.F (a :: T) ρ env σ := funext fun b => propext ⟨fun z => z.imp id (hM b).mp, fun z => z.imp id (hM b).mpr⟩
  have pre : ∀ (n : Nat) (b : Addr), ρ[n]? = some b → (ρ ++ [a])[n]? = some b := fun n b e => by
    rw [List.getElem?_append_left (List.getElem?_eq_some_iff.mp e).1]; exact e
  have m : Mv (ZZ B.F (a :: T) ρ env σ) ρ H (ZZ B.F (a :: T) ρ env σ) (ρ ++ [a]) H := ⟨pre, fun b u nz e => ⟨nz, e⟩, fun _ _ e => e⟩
  refine ⟨by rw [List.length_append, List.length_append, R.vl]; rfl, ?_, (List.nodup_cons.mp R.tn).2, fun b z q => ?_, fun i b z => ⟨fun q => (R.ot i b z).1 (List.mem_cons_of_mem _ q), fun q => ?_⟩, R.oi, fun b f z => R.fm b f ((hM b).mp z), fun b z => R.tk b (by rw [← eZ]; exact z),
    fun n p b h1 h2 => ?_, R.sl, fun i s hi => ?_, R.kp, R.tp, fun b z => R.zn b ((hM b).mp z), fun n b e => pre n b (R.pr n b e)⟩
  · refine List.nodup_append.mpr ⟨R.rn, List.nodup_cons.mpr ⟨fun z => (by cases z), List.nodup_nil⟩, fun x hx y hy e => ?_⟩
    rw [List.mem_singleton.mp hy] at e
    rw [e] at hx
    exact ar hx
  · rcases List.mem_append.mp q with q | q
    · exact R.tr b (List.mem_cons_of_mem _ z) q
    · rw [List.mem_singleton.mp q] at z; exact aT z
  · rcases List.mem_append.mp q with q | q
    · exact (R.ot i b z).2 q
    · rw [List.mem_singleton.mp q] at z
      exact (R.ot i a z).1 List.mem_cons_self
  · rw [eZ]
    by_cases hl : n < ρ.length
    · rw [List.getElem?_append_left hl] at h2
      rw [List.getElem?_append_left (by rw [R.vl]; exact hl)] at h1
      exact (R.ob n p b h1 h2).move m rfl
    · rw [List.getElem?_append_right (by omega)] at h2
      rw [List.getElem?_append_right (by rw [R.vl]; omega), R.vl] at h1
      have z : n - ρ.length = 0 := by
        have := (List.getElem?_eq_some_iff.mp h2).1
        rw [List.length_singleton] at this
        omega
      rw [z] at h1 h2
      have e1 : o = p := Option.some.inj h1
      have e2 : a = b := Option.some.inj h2
      rw [← e1, ← e2]
      exact h.move m rfl
  · rw [eZ]
    exact (R.st i s hi).move m fun _ _ _ _ => rfl

/-- the frame is left -/
theorem Rel.ret (R : Rel G B T ρ env vh σ H) : Rel G B T ρ [] vh [] H :=
  R.weak (fun _ h => h) R.tn (fun i a z => by obtain ⟨_, h, _⟩ := z; simp at h) rfl fun i s h => by simp at h
theorem Rel.ret_d {d : D} {v : V} (h : RD G (ZZ B.F T ρ env σ) ρ H d v) : RD G (ZZ B.F T ρ [] []) ρ H d v := RD.move (Mv.less fun b z => by
    rcases z with z | z | z | ⟨i, _, h, _⟩
    · exact .inl z
    · exact .inr (.inl z)
    · exact .inr (.inr (.inl z))
    · simp at h) _ _ h
theorem Rel.ret_ds {ds : List D} {vs : List V} (h : RDs G (ZZ B.F T ρ env σ) ρ H ds vs) : RDs G (ZZ B.F T ρ [] []) ρ H ds vs := RDs.move (Mv.less fun b z => by
    rcases z with z | z | z | ⟨i, _, h, _⟩
    · exact .inl z
    · exact .inr (.inl z)
    · exact .inr (.inr (.inl z))
    · simp at h) _ _ h
/-- a slot gives its list out of hand: it is a list of ours then -/
theorem Rel.take {i : Nat} {ds : List D} (R : Rel G B T ρ env vh σ H) (hi : env[i]? = some (.own ds)) :
    ∃ a vs, σ[i]? = some (some (.ref a)) ∧ H a = some (.lst vs) ∧ Rel G B (a :: T) ρ (env.set i .no) vh σ H ∧ RDs G (ZZ B.F (a :: T) ρ (env.set i .no) σ) ρ H ds vs := by
  obtain ⟨a, vs, ha, e, h⟩ := R.st i _ hi
  have own : Own env σ a i := ⟨ds, hi, ha⟩
  have hO : ∀ j b, Own (env.set i .no) σ b j → j ≠ i ∧ Own env σ b j := fun j b z => by
    rcases Own.of_setE z with ⟨_, _, e, _⟩ | q
    · cases e
    · exact q
  have hM : ∀ b, MZ (a :: T) ρ (env.set i .no) σ b → MZ T ρ env σ b := fun b z => by
    rcases z with z | z | ⟨j, z⟩
    · rcases List.mem_cons.mp z with q | q
      · exact .inr (.inr ⟨i, by rw [q]; exact own⟩)
      · exact .inl q
    · exact .inr (.inl z)
    · exact .inr (.inr ⟨j, (hO j b z).2⟩)
  have hZ : ∀ b, ZZ B.F (a :: T) ρ (env.set i .no) σ b → ZZ B.F T ρ env σ b := fun b z => z.elim .inl fun z => .inr (hM b z)
  have m : Mv (ZZ B.F T ρ env σ) ρ H (ZZ B.F (a :: T) ρ (env.set i .no) σ) ρ H := Mv.less hZ
  refine ⟨a, vs, ha, e, ⟨R.vl, R.rn, List.nodup_cons.mpr ⟨(R.ot i a own).1, R.tn⟩, fun b z => ?_, fun j b z => ⟨fun q => ?_, (R.ot j b (hO j b z).2).2⟩, fun j k b z q => R.oi j k b (hO j b z).2 (hO k b q).2, fun b f z => R.fm b f (hM b z), fun b z => R.tk b (hZ b z),
    fun n o b h1 h2 => (R.ob n o b h1 h2).move m rfl, by rw [List.length_set]; exact R.sl, fun j s hj => ?_, R.kp, R.tp, fun b z => R.zn b (hM b z), R.pr⟩, RDs.move m _ _ h⟩
  · rcases List.mem_cons.mp z with q | q
    · rw [q]; exact (R.ot i a own).2
    · exact R.tr b q
  · obtain ⟨nj, z⟩ := hO j b z
    rcases List.mem_cons.mp q with q | q
    · rw [q] at z; exact nj (R.oi j i a z own)
    · exact (R.ot j b z).1 q
  · rcases set_getE hj with ⟨e1, e2⟩ | ⟨ne, q⟩
    · rw [e2]; trivial
    · exact (R.st j s q).move m fun _ _ _ _ => rfl

/-- what is from here on -/
def Base.now (B : Base) (T ρ : List Addr) (env : List Slot) (σ : L2.St) (H : Hp) : Base := ⟨B.F, MZ T ρ env σ, H, ρ⟩
theorem Rel.rebase (R : Rel G B T ρ env vh σ H) : Rel G (B.now T ρ env σ H) T ρ env vh σ H :=
  ⟨R.vl, R.rn, R.tn, R.tr, R.ot, R.oi, R.fm, R.tk, R.ob, R.sl, R.st, fun _ _ h _ => h, fun _ _ h => h, fun _ z => .inl z, fun _ _ h => h⟩
theorem Rel.unbase {T' ρ' : List Addr} {env' : List Slot} {vh' : List VO} {σ' : L2.St} {H' : Hp} (R : Rel G B T ρ env vh σ H) (S : Rel G (B.now T ρ env σ H) T' ρ' env' vh' σ' H') : Rel G B T' ρ' env' vh' σ' H' :=
  ⟨S.vl, S.rn, S.tn, S.tr, S.ot, S.oi, S.fm, S.tk, S.ob, S.sl, S.st, fun a u h nm => S.kp a u (R.kp a u h nm) fun z => (R.zn a z).elim nm fun q => (by rw [h] at q; cases q), fun a xs h => S.tp a xs (R.tp a xs h), fun a z => (by
    rcases S.zn a z with q | q
    · exact R.zn a q
    · refine (Classical.em (B.mu a)).elim .inl fun nm => .inr ?_
      cases e : B.H0 a with
      | none => rfl
      | some u =>
        have := R.kp a u e nm
        rw [show (B.now T ρ env σ H).H0 a = H a from rfl] at q
        rw [q] at this
        cases this), fun n a h => S.pr n a (R.pr n a h)⟩
theorem Rel.moved {T' ρ' : List Addr} {env' : List Slot} {vh' : List VO} {σ' : L2.St} {H' : Hp} (R : Rel G B T ρ env vh σ H) (S : Rel G (B.now T ρ env σ H) T' ρ' env' vh' σ' H') : Mv (ZZ B.F T ρ env σ) ρ H (ZZ B.F T' ρ' env' σ') ρ' H' :=
  ⟨S.pr, fun a u nz h => ⟨fun z => (by
    rcases z with z | z
    · exact nz (.inl z)
    · rcases S.zn a z with q | q
      · exact nz (.inr q)
      · rw [show (B.now T ρ env σ H).H0 a = H a from rfl] at q
        rw [h] at q
        cases q), S.kp a u h fun z => nz (.inr z)⟩, S.tp⟩

/-- at a call: the callee's ground -/
def Base.callee (B : Base) (T ρ : List Addr) (env : List Slot) (σ : L2.St) (H : Hp) : Base := ⟨fun a => B.F a ∨ a ∈ T ∨ ∃ i, Own env σ a i, fun a => a ∈ ρ, H, ρ⟩
theorem calleeZ : ZZ (B.callee T ρ env σ H).F [] ρ [] [] = ZZ B.F T ρ env σ := funext fun a => propext ⟨fun z => (by
    rcases z with (z | z | z) | z | z | ⟨i, _, h, _⟩
    · exact .inl z
    · exact .inr (.inl z)
    · exact .inr (.inr (.inr z))
    · cases z
    · exact .inr (.inr (.inl z))
    · simp at h), fun z => by
    rcases z with z | z | z | z
    · exact .inl (.inl z)
    · exact .inl (.inr (.inl z))
    · exact .inr (.inr (.inl z))
    · exact .inl (.inr (.inr z))⟩
theorem no_own {a : Addr} {i : Nat} : ¬ Own [] [] a i := fun ⟨_, h, _⟩ => by simp at h
theorem Rel.enter (R : Rel G B T ρ env vh σ H) : Rel G (B.callee T ρ env σ H) [] ρ [] vh [] H := by
  refine ⟨R.vl, R.rn, List.nodup_nil, fun a z => (by cases z), fun i a z => absurd z no_own, fun i j a z => absurd z no_own, fun a f z => ?_, fun a z => R.tk a (by rw [← calleeZ (B := B) (H := H)]; exact z), fun n o a h1 h2 => ?_, rfl, fun i s h => (by simp at h), fun _ _ h _ => h, fun _ _ h => h, fun a z => ?_, fun _ _ h => h⟩
  · have ar : a ∈ ρ := by
      rcases z with z | z | ⟨i, z⟩
      · cases z
      · exact z
      · exact absurd z no_own
    rcases f with f | f | ⟨i, f⟩
    · exact R.fm a f (.inr (.inl ar))
    · exact R.tr a f ar
    · exact (R.ot i a f).2 ar
  · rw [calleeZ]; exact R.ob n o a h1 h2
  · rcases z with z | z | ⟨i, z⟩
    · cases z
    · exact .inl z
    · exact absurd z no_own
/-- behind a call -/
theorem Rel.backMv {T' ρ' : List Addr} {vh' : List VO} {H' : Hp} (R : Rel G B T ρ env vh σ H) (S : Rel G (B.callee T ρ env σ H) T' ρ' [] vh' [] H') : Mv (ZZ B.F T ρ env σ) ρ H (ZZ B.F (T' ++ T) ρ' env σ) ρ' H' := by
  have kp : ∀ a u, H a = some u → a ∉ ρ → H' a = some u := fun a u h n => S.kp a u h n
  refine ⟨S.pr, fun a u nz h => ⟨fun z => ?_, kp a u h fun z => nz (.inr (.inr (.inl z)))⟩, S.tp⟩
  have new : MZ T' ρ' [] [] a → False := fun z => by
    rcases S.zn a z with q | q
    · exact nz (.inr (.inr (.inl q)))
    · rw [show (B.callee T ρ env σ H).H0 a = H a from rfl] at q
      rw [h] at q; cases q
  rcases z with z | z | z | z
  · exact nz (.inl z)
  · rcases List.mem_append.mp z with z | z
    · exact new (.inl z)
    · exact nz (.inr (.inl z))
  · exact new (.inr (.inl z))
  · exact nz (.inr (.inr (.inr z)))
theorem Rel.backZ {T' ρ' : List Addr} {H' : Hp} : ZZ (B.callee T ρ env σ H).F T' ρ' [] [] = ZZ B.F (T' ++ T) ρ' env σ := funext fun a => propext ⟨fun z => (by
    rcases z with (z | z | z) | z | z | ⟨i, z⟩
    · exact .inl z
    · exact .inr (.inl (List.mem_append_right _ z))
    · exact .inr (.inr (.inr z))
    · exact .inr (.inl (List.mem_append_left _ z))
    · exact .inr (.inr (.inl z))
    · exact absurd z no_own), fun z => by
    rcases z with z | z | z | z
    · exact .inl (.inl z)
    · rcases List.mem_append.mp z with z | z
      · exact .inr (.inl z)
      · exact .inl (.inr (.inl z))
    · exact .inr (.inr (.inl z))
    · exact .inl (.inr (.inr z))⟩
theorem Rel.back {T' ρ' : List Addr} {vh' : List VO} {H' : Hp} (R : Rel G B T ρ env vh σ H) (S : Rel G (B.callee T ρ env σ H) T' ρ' [] vh' [] H') : Rel G B (T' ++ T) ρ' env vh' σ H' := by
  have m := R.backMv S
  have kp : ∀ a u, H a = some u → a ∉ ρ → H' a = some u := fun a u h n => S.kp a u h n
  have cut : ∀ a, MZ (T' ++ T) ρ' env σ a → MZ T' ρ' [] [] a ∨ a ∈ T ∨ ∃ i, Own env σ a i := fun a z => by
    rcases z with z | z | z
    · rcases List.mem_append.mp z with z | z
      · exact .inl (.inl z)
      · exact .inr (.inl z)
    · exact .inl (.inr (.inl z))
    · exact .inr (.inr z)
  refine ⟨S.vl, S.rn, ?_, fun a z q => ?_, fun i a z => ⟨fun q => ?_, fun q => ?_⟩, R.oi, fun a f z => ?_, fun a z => S.tk a (by rw [Rel.backZ (H' := H')]; exact z), fun n o a h1 h2 => ?_, R.sl, fun i s hi => ?_, fun a u h nm => ?_, fun a xs h => S.tp a xs (R.tp a xs h), fun a z => ?_, fun n a h => S.pr n a (R.pr n a h)⟩
  · refine List.nodup_append.mpr ⟨S.tn, R.tn, fun x hx y hy e => ?_⟩
    rw [← e] at hy
    exact S.fm x (.inr (.inl hy)) (.inl hx)
  · rcases List.mem_append.mp z with z | z
    · exact S.tr a z q
    · exact S.fm a (.inr (.inl z)) (.inr (.inl q))
  · rcases List.mem_append.mp q with q | q
    · exact S.fm a (.inr (.inr ⟨i, z⟩)) (.inl q)
    · exact (R.ot i a z).1 q
  · exact S.fm a (.inr (.inr ⟨i, z⟩)) (.inr (.inl q))
  · rcases cut a z with z | z | z
    · exact S.fm a (.inl f) z
    · exact R.fm a f (.inl z)
    · exact R.fm a f (.inr (.inr z))
  · rw [← Rel.backZ (B := B) (H := H) (H' := H')]
    exact S.ob n o a h1 h2
  · refine (R.st i s hi).move m fun a ds e1 e2 => ?_
    subst e1
    have own : Own env σ a i := ⟨ds, hi, e2⟩
    obtain ⟨u, h, _⟩ := R.tk a (.inr (.inr (.inr ⟨i, own⟩)))
    exact (kp a u h (R.ot i a own).2).trans h.symm
  · have h1 := R.kp a u h nm
    refine kp a u h1 fun z => ?_
    rcases R.zn a (.inr (.inl z)) with q | q
    · exact nm q
    · rw [h] at q; cases q
  · rcases cut a z with z | z | z
    · rcases S.zn a z with q | q
      · exact R.zn a (.inr (.inl q))
      · refine (Classical.em (B.mu a)).elim .inl fun nm => .inr ?_
        cases e : B.H0 a with
        | none => rfl
        | some u =>
          have := R.kp a u e nm
          rw [show (B.callee T ρ env σ H).H0 a = H a from rfl] at q
          rw [q] at this; cases this
    · exact R.zn a (.inl z)
    · exact R.zn a (.inr (.inr z))
end
end R

set_option autoImplicit true
namespace R
open PySem PySem.Spec PySem.W PySem.Calls PyProof.Rows PySem.HandSPX
/-! ### the text of __init__ -/
@[reducible] def iA (fd : Str) (p1 p2 : Pos) : Arguments := { posonlyargs := [], args := [{ arg := "self", annotation := none, pos := p1 }, { arg := fd, annotation := none, pos := p2 }], vararg := none, kwonlyargs := [], kw_defaults := [], kwarg := none, defaults := [] }
@[reducible] def iB (fd : Str) (q1 q2 q3 q4 : Pos) : List Stmt := [.Assign [.Attribute (.Name "self" q1) fd q2] (.Name fd q3) q4]
@[reducible] def iS (fd : Str) : Scope := { kind := .function, names := [(PySem.Str.ofString "self", .local), (fd, .local)], isGenerator := false, isCoroutine := false, more := [] }
/-- what the written part says of Low, at C, and of its __init__, at fI -/
structure Ex1 (K : Frag) (mg : Str → Option Value) (xn fd : Str) (C fI : Addr) : Prop where
  hs : (fd == ("self" : Str)) = false
  hd : (fd == ("__debug__" : Str)) = false
  hx : (xn == ("__debug__" : Str)) = false
  gC : mg xn = some (.ref C)
  cls : ∃ nm q N bs bm sn sub ab col dd k0 k1 k2 k3 k5, K.lookup C = some (excClassObj nm q C N bs bm true sn sub ab col dd k0 k1 k2 k3 k5 "ValueError.__new__") ∧ refsVE bm = true
  sa : findIn K (.ref C) "__setattr__" = some (some (.builtin "object.__setattr__"))
  ga : findIn K (.ref C) "__getattribute__" = some (some (.builtin "BaseException.__getattribute__"))
  gg : findIn K (.ref C) "__getattr__" = some none
  noN : findIn K (.ref C) fd = some none
  iC : findIn K (.ref C) "__init__" = some (some (.ref fI))
  tC : typeIn K (.ref fI) = some (.type "function")
  kC : keepIn K (.ref C) = true
  exC : subIn K (.ref C) (.type "BaseException") = some true
  tyC : typeIn K (.ref C) = some (.type "type")
  hdC : hasDictIn K C = true
  fn : ∃ (qn : Str) (oc : Value) (od : Option Addr) (doc pm : Value) (an : Option Addr) (cdv ct : Value) (osl : Array (Option Value)) (p1 p2 q1 q2 q3 q4 : Pos),
    K.lookup fI = some ⟨oc, od, .func (fnOf "__init__" qn (iA fd p1 p2) (iB fd q1 q2 q3 q4) (iS fd) .none .none doc pm an cdv ct), osl⟩ ∧ codeIn K cdv qn = true ∧ (∀ (s : Shared) (a b : Value), BindsTo s (fnOf "__init__" qn (iA fd p1 p2) (iB fd q1 q2 q3 q4) (iS fd) .none .none doc pm an cdv ct) ⟨[a, b], []⟩ [("self", a), (fd, b)])
theorem iS_self {fd qn : Str} {L a : Addr} {cd : Value} : (envOfC qn (iS fd) L a cd).kindOf "self" = some .local := rfl
theorem iS_fd {fd qn : Str} {L a : Addr} {cd : Value} (h : (fd == ("self" : Str)) = false) : (envOfC qn (iS fd) L a cd).kindOf fd = some .local := by
  show List.lookup fd [(("self" : Str), NameKind.local), (fd, NameKind.local)] = some .local
  rw [List.lookup_cons, h]
  simp
theorem iS_bind {fd qn : Str} {L a : Addr} {cd : Value} (h : (fd == ("self" : Str)) = false) (u v : Value) : bindL (envOfC qn (iS fd) L a cd).kindOf [("self", u), (fd, v)] (fun _ => none) = fun y => if y = fd then some v else if y = ("self" : Str) then some u else none := by
  show (if _ then _ else _) = _
  rw [if_pos (iS_fd h), if_pos iS_self]
theorem one_size (v : Value) : [v].length ≤ sizeLine := by
  rw [sizeLine_eq]
  exact (by decide : 1 ≤ 16777216)
theorem kept_but {K : Frag} {h h' : Heap} {x : Addr} (X : K.In h) (hx : K.lookup x = none) (k : ∀ b o, b ≠ x → h.get? b = some o → h'.get? b = some o) : K.In h' := fun a o e =>
  k a o (fun z => by rw [z, hx] at e; cases e) (X a o e)
theorem ldC {M : Model} {s : Shared} {name : Str} {scope : Scope} {L a : Addr} {cd : Value} {m : Str → Option Value} {x : Str} {pos : Pos} {v : Value} {Q : Value → Shared → Prop} {A : Around} {E : Value → Shared → Prop} (hn : s.heap.Ns L m) (hv : m x = some v) (h : Q v s)
    (hk : scope.kind = .function := by rfl) (hl : (envOfC name scope L a cd).kindOf x = some .local := by rfl) (hd : (x == ("__debug__" : Str)) = false := by decide) :
    wpAny M A (eval (.Name x pos) (envOfC name scope L a cd)) Q E s := wpAny_Name (wpAny_loadName_local hk hl hn hv h) hd
/-- what __init__ leaves of a fresh exception at x -/
structure InitEnd (fd : Str) (h h' : Heap) (x C dx t1 : Addr) (v : Value) : Prop where
  keep : ∀ b o, b ≠ x → h.get? b = some o → h'.get? b = some o
  obj : h'.get? x = some { cls := .ref C, dict := some dx, data := .fields #[.ref t1, .none, .none, .none, .bool false, .none] }
  dbig : h.objs.size ≤ dx
  dne : dx ≠ x
  ns : h'.Ns1 dx (fun y => if y = fd then some v else none)
/-- a made Low -/
structure OwnMade (fd : Str) (h h' : Heap) (e C d : Addr) (v : Value) : Prop where
  keep : ∀ b o, h.get? b = some o → h'.get? b = some o
  new : h.objs.size ≤ e
  obj : ∃ oe vs, h'.get? e = some oe ∧ oe.cls = .ref C ∧ oe.dict = some d ∧ oe.data = .fields vs ∧ vs[1]? = some .none
  dbig : h.objs.size ≤ d
  dne : d ≠ e
  ns : h'.Ns1 d (fun y => if y = fd then some v else none)
section
variable {prog : Program} {w : World} {A : Around} {E : Value → Shared → Prop} {R : Result → Shared → Prop} {s : Shared} {K : Frag} {mg : Str → Option Value} {xn fd : Str} {C fI : Addr}
theorem low_init (T : Ex1 K mg xn fd C fI) {x t0 : Addr} {v : Value} (X : K.In s.heap) (hlim : s.heap.NoLimit) (hx : s.heap.get? x = some (excO C t0)) (hnx : K.lookup x = none) (hroom : A.depth < recursionLimit)
    (hq : ∀ h' tk dx, InitEnd fd s.heap h' x C dx t0 v → R (.ok (.ret .none)) { s with heap := h', toks := tk }) :
    codeAny (model prog w) A (.call (.ref fI) ⟨[.ref x, v], []⟩) R s := by
  obtain ⟨qn, oc, od, doc, pm, an, cdv, ct, osl, p1, p2, q1, q2, q3, q4, ho, hcd, hbd⟩ := T.fn
  obtain ⟨nm, q, N, bs, bm, sn, sub, ab, col, dd, k0, k1, k2, k3, k5, hC, hbm⟩ := T.cls
  have hcl : clsIn K C = some { name := nm, bases := bs, mro := .ref C :: bm, ns := N, qualname := q, hasDict := true, slotNames := sn, subclasses := sub, abstract := ab, collection := col, hasDel := false } := by unfold clsIn; rw [hC] <;> rfl
  refine Att.call_fn (binds := [("self", .ref x), (fd, v)]) X hlim ho hcd hroom (hbd _ _ _) (by
    have e := iS_fd (qn := qn) (L := fI) (a := fI) (cd := cdv) T.hs
    have e : (iS fd).names.lookup fd = some .local := e
    rw [List.all_cons, List.all_cons, List.all_nil, e]
    rfl) (fun s₁ IC => ?_) rfl rfl rfl
  obtain ⟨h₁, tk₁, rfl⟩ := IC.toInCall.same
  have k : ∀ b o, s.heap.get? b = some o → h₁.get? b = some o := IC.toInCall.keep
  have hn := IC.toInCall.ns
  rw [iS_bind T.hs] at hn
  have hxL : s.heap.objs.size ≠ x := Nat.ne_of_gt (Heap.lt_size hx)
  have X₁ : K.In h₁ := X.keeps k
  have hx₁ := k _ _ hx
  -- self.by = by
  show wpAny _ _ (execs _ _) _ _ _
  refine wpAny_execs_cons (plainObj_wpAny_Assign_Attribute ?_)
  refine ldC (v := v) hn (if_pos rfl) (ldC (v := .ref x) hn (by
    have ne : ("self" : Str) ≠ fd := fun z => by
      have q := T.hs
      rw [← z] at q
      simp at q
    rw [if_neg ne, if_pos rfl]) ?_ rfl iS_self (by decide)) rfl (iS_fd T.hs) T.hd
  refine set_plain X₁ (ox := excO C t0) (od := none) ⟨hx₁, rfl, rfl, trivial⟩ T.sa ?_
  refine exc_osa X₁ hx₁ hcl (show refsVE (.ref C :: bm) = true from hbm) rfl T.noN (fun h₃ tk₃ dx k₃ dn dne hx₃ hn₃ => ?_)
  show wpAny _ _ (execs _ _) _ _ _
  have z : s.heap.objs.size < h₁.objs.size := hn.lt
  exact wpAny_execs_nil (hq h₃ tk₃ dx ⟨fun b o hb e => k₃ b o hb (k b o e), hx₃, Nat.le_of_lt (Nat.lt_of_lt_of_le z dn), dne, hn₃⟩)
theorem low_made (T : Ex1 K mg xn fd C fI) {v : Value} (X : K.In s.heap) (hlim : s.heap.NoLimit) (hroom : A.depth + 1 < recursionLimit)
    (hq : ∀ h' tk e d, OwnMade fd s.heap h' e C d v → R (.ok (.ret (.ref e))) { s with heap := h', toks := tk }) :
    codeAny (model prog w) A (.call (.ref C) ⟨[v], []⟩) R s := by
  obtain ⟨nm, q, N, bs, bm, sn, sub, ab, col, dd, k0, k1, k2, k3, k5, hC, hbm⟩ := T.cls
  obtain ⟨hp, g, dr, tk, os⟩ := s
  have k : ∀ b o, hp.get? b = some o → ((hp.push (kdv_tup [v])).push (excO C hp.objs.size)).get? b = some o := fun b o e => Heap.get?_push_of_some _ (Heap.get?_push_of_some _ e)
  have hget : ((hp.push (kdv_tup [v])).push (excO C hp.objs.size)).get? (hp.objs.size + 1) = some (excO C hp.objs.size) := by heap_get
  have hnx : K.lookup (hp.objs.size + 1) = none := by
    cases e : K.lookup (hp.objs.size + 1) with
    | none => rfl
    | some o =>
      have z : hp.get? (hp.objs.size + 1) = some o := X _ _ e
      exact absurd (Nat.lt_of_succ_lt (Heap.lt_size z)) (Nat.lt_irrefl _)
  refine call_own F.excBase_ValueError (fun X => refsVE_contains X bm hbm) (X _ _ hC) (looks_findIn X T.iC) (fun self => bind_fn X self T.tC) (one_size v) ?_
  refine low_init (s := ⟨(hp.push (kdv_tup [v])).push (excO C hp.objs.size), g, dr, tk, os⟩) T (X.keeps k) (hlim.keeps k) hget hnx ?_ fun h' tk' dx ⟨k', hx, dn, dne, hns⟩ => ?_
  · show A.depth + 1 < recursionLimit
    exact hroom
  · have old : ∀ b o, hp.get? b = some o → h'.get? b = some o := fun b o e => k' b o (Nat.ne_of_lt (Nat.lt_succ_of_lt (Heap.lt_size e))) (k b o e)
    have z : hp.objs.size + 1 + 1 ≤ dx := by
      first
        | (simpa only [Heap.size_push] using dn)
        | exact dn
        | (have q := dn; rw [Heap.size_push, Heap.size_push] at q; exact q)
    exact ⟨rfl, hq h' tk' (hp.objs.size + 1) dx ⟨old, Nat.le_succ _, ⟨_, _, hx, rfl, rfl, rfl, rfl⟩, Nat.le_trans (Nat.le_trans (Nat.le_succ _) (Nat.le_succ _)) z, dne, hns⟩⟩
end
end R
namespace R
open PySem PySem.Spec PyProof.Rows L2
theorem relO_low {fd : Str} {v : V} {v' : Value} (r : RelV v v') (f : Str) : RelO (List.lookup f [(fd, v)]) (if f = fd then some v' else none) := by
  by_cases hw : f = fd
  · subst hw
    rw [if_pos rfl]
    have q : List.lookup f [(f, v)] = some v := by simp [List.lookup]
    rw [q]
    exact r
  · rw [if_neg hw]
    have qw : (f == fd) = false := by simpa using hw
    have q2 : List.lookup f [(fd, v)] = none := by simp [List.lookup, qw]
    rw [q2]
    trivial
section
variable {X : Cx} {xn fd : Str} {C fI : Addr}
/-- Low(e) -/
def tMkLow (fd : Str) (C : Addr) (ta : TA) : L2.St → Hp → XK → Prop := fun σ H Q => ta σ H fun vs H1 => ∃ v, vs = [v] ∧ ∀ d, H1 d = none → Q (.ref C) (some d) (upd H1 d (.xd [(fd, v)]))
theorem pmk_low {a : Expr} {ta : TA} {p pos : Pos} (T : Ex1 X.K X.mg xn fd C fI) (hr : X.A.depth + 1 < recursionLimit) (ha : PA X [a] ta) (hg : Gl X xn)
    (he : starEach (a :: []) X.env = (false, eval a X.env) :: starEach [] X.env := by rfl) (hpl : (backTo pos (starEach [] X.env)).any (·.1) = false := by rfl) :
    PMk X (.Call (.Name xn p) [a] [] pos) (tMkLow fd C ta) := by
  intro pins s σ H Q I h
  refine wpAny_Call_Name_kw (ld_glob I hg T.gC ?_ T.hx)
  refine PySem.W.callWith_K (h₀ := X.base) I.ok.mod.kin T.kC (thn (ha.run pos pins s σ H _ I h) fun us s1 hh => ?_) he hpl
  obtain ⟨vs, H1, I1, r1, v, ev, q1⟩ := hh
  subst ev
  refine ⟨I1.kIn, ?_⟩
  cases r1 with
  | cons rv rn =>
    rename_i v' us'
    cases rn
    show wpAny _ _ (call (.ref C) [v']) _ _ _
    have hlim := I1.nolimit
    obtain ⟨hp, g, dr, tk, os⟩ := s1
    refine wpAny_call (low_made T I1.kIn hlim hr fun h' tk' e d M => ?_)
    show MkP X pins σ Q (.ref e) ⟨h', g, dr, tk', os⟩
    obtain ⟨oe, fv, hoe, hc, hd, hdat, h1⟩ := M.obj
    have hns := M.ns
    obtain ⟨G', g1, g2⟩ := restrict h' fun b => decide (b ≠ e)
    have gk : ∀ b, b ≠ e → G'.get? b = h'.get? b := fun b hb => g1 b (decide_eq_true hb)
    have ge : G'.get? e = none := g2 e (by simp)
    have old : ∀ b o, hp.get? b = some o → G'.get? b = some o := fun b o q => (gk b (Nat.ne_of_lt (Nat.lt_of_lt_of_le (Heap.lt_size q) M.new))).trans (M.keep b o q)
    have ob : ObjOk X.prog X.w (upd H1 d (.xd [(fd, v)])) G' d (.xd [(fd, v)]) :=
      ⟨_, hns.at (fun o q => (gk d M.dne).trans q), fun f => relO_low rv f⟩
    have J : Inv X pins σ (upd H1 d (.xd [(fd, v)])) ⟨G', g, dr, tk', os⟩ := I1.laid (t' := tk') old M.dbig ob
    refine ⟨e, oe, fv, ⟨G', g, dr, tk', os⟩, _, .ref C, some d, rfl, J, fun b o q => ?_, ge, hoe, ⟨hc, hd⟩, hdat, h1, ?_, rfl, I1.bare, raises_own T.exC T.tyC, q1 d (I1.hok.fresh M.dbig)⟩
    · by_cases hb : b = e
      · have q' : G'.get? b = some o := q
        rw [hb, ge] at q'; cases q'
      · exact (gk b hb).symm.trans q
    · rw [upd_ne (Ne.symm M.dne)]
      exact I1.hok.fresh M.new
/-- raise Low(e) -/
def tRaiseLow (fd : Str) (C : Addr) (W : WX) (ta : TA) : TS := fun _ σ H => tMkLow fd C ta σ H fun cls d H' => W cls d σ H'
theorem ps_raiseLow {a : Expr} {ta : TA} {W : WX} {p pos pos2 : Pos} (hc : X.calm = true) (T : Ex1 X.K X.mg xn fd C fI) (hr : X.A.depth + 1 < recursionLimit) (tk : Takes X W) (ha : PA X [a] ta) (hg : Gl X xn)
    (he : starEach (a :: []) X.env = (false, eval a X.env) :: starEach [] X.env := by rfl) (hpl : (backTo pos (starEach [] X.env)).any (·.1) = false := by rfl) :
    PS X (.Raise (some (.Call (.Name xn p) [a] [] pos)) none pos2) (tRaiseLow fd C W ta) := ps_raise hc tk (pmk_low T hr ha hg he hpl)
end
/-- an own exception class without own __init__ -/
structure Ex0 (K : PySem.W.Frag) (mg : Str → Option Value) (xn : Str) (C : Addr) : Prop where
  hx : (xn == ("__debug__" : Str)) = false
  gC : mg xn = some (.ref C)
  q : PySem.W.excIn K C [.type "ValueError", .type "Exception", .type "BaseException", .type "object"] "ValueError.__new__" = true
  kC : PySem.W.keepIn K (.ref C) = true
  exC : PySem.W.subIn K (.ref C) (.type "BaseException") = some true
  tyC : PySem.W.typeIn K (.ref C) = some (.type "type")
/-- X(), X an own exception class without own __init__ -/
theorem pmk_own0 {X : Cx} {C : Addr} {x : Str} {p pos : Pos} (T : Ex0 X.K X.mg x C) (hg : Gl X x) :
    PMk X (.Call (.Name x p) [] [] pos) (fun σ H Q => Q (.ref C) none H) := by
  intro pins s σ H Q I h
  refine wpAny_Call_Name_kw (ld_glob I hg T.gC ?_ T.hx)
  refine PySem.W.callWith_K0 I.kIn T.kC ?_
  obtain ⟨bm, N, nm, qn, bs, hdct, sn, sub, ab, col, dd, k0, k1, k2, k3, k5, mN, hC, hN, hni, F⟩ := exc_obj I.kIn T.q
  show wpAny _ _ (call (.ref C) []) _ _ _
  refine wpAny_call_exc_subT PySem.F.excBase_ValueError F hC hN hni (fun h' e hm => ?_) (Nat.zero_le _)
  exact mk_of I hm (raises_own T.exC T.tyC) h (I.hok.gone hm.new)
theorem Ex1.xf {K : PySem.W.Frag} {mg : Str → Option Value} {xn fd : Str} {C fI : Addr} (T : Ex1 K mg xn fd C fI) : XfC K C := ⟨T.ga, T.gg, T.exC, T.hdC⟩
end R

set_option autoImplicit false
namespace R
open PySem PySem.Spec PyProof.Rows L2
/-! ## RX1: try with several clauses, each with a name or without -/
def dGone (o : Option Nat) (D : Ends) : Ends := match o with
  | none => D
  | some i => { nx := fun σ' H' => D.nx (σ'.set i none) H', rt := D.rt, bk := fun σ' H' => D.bk (σ'.set i none) H', ct := fun σ' H' => D.ct (σ'.set i none) H' }
def stIn (o : Option Nat) (a : Addr) (σ : L2.St) : L2.St := match o with
  | none => σ
  | some i => σ.set i (some (.ref a))
/-- what the clauses wish of an exception of the body, one after the other -/
def wGen (K : PySem.W.Frag) (Wout : WX) (D : Ends) : List (Value × Option Nat × (Addr → Value → Option Addr → TS)) → WX
  | [] => Wout
  | (c, o, ts) :: r => fun cls d σ H => ∃ b, PySem.W.exmOne K cls c = some b ∧ (b = true → ∀ a, H a = none → ts a cls d (dGone o D) (stIn o a σ) H) ∧ (b = false → wGen K Wout D r cls d σ H)
inductive HdsG (X : Cx) : List ExceptHandler → List (Value × Option Nat × (Addr → Value → Option Addr → TS)) → Prop
  | nil : HdsG X [] []
  | plain {x : Str} {c : Value} {ts : Addr → Value → Option Addr → TS} {b₀ : Stmt} {suite : List Stmt} {np pos' : Pos} {hds : List ExceptHandler} {l : List (Value × Option Nat × (Addr → Value → Option Addr → TS))} (hc : Names X x c)
      (hsu : ∀ (a : Addr) (oe : Obj) (cls : Value) (d : Option Addr) (pn : List (Addr × Obj)), Zc cls d oe → (∃ vs, oe.data = .fields vs) → PSs (X.suite a ((a, oe) :: pn)) (b₀ :: suite) (ts a cls d)) (r : HdsG X hds l) :
      HdsG X (.ExceptHandler (some (.Name x np)) none (b₀ :: suite) pos' :: hds) ((c, none, ts) :: l)
  | named {x n : Str} {c : Value} {i : Nat} {ts : Addr → Value → Option Addr → TS} {b₀ : Stmt} {suite : List Stmt} {np pos' : Pos} {hds : List ExceptHandler} {l : List (Value × Option Nat × (Addr → Value → Option Addr → TS))} (hi : X.N[i]? = some n) (hln : X.env.kindOf n = some .local) (hc : Names X x c)
      (hsu : ∀ (a : Addr) (oe : Obj) (cls : Value) (d : Option Addr) (pn : List (Addr × Obj)), Zc cls d oe → (∃ vs, oe.data = .fields vs) → PSs (X.suite a ((a, oe) :: pn)) (b₀ :: suite) (ts a cls d)) (r : HdsG X hds l) :
      HdsG X (.ExceptHandler (some (.Name x np)) (some n) (b₀ :: suite) pos' :: hds) ((c, some i, ts) :: l)
section
variable {X : Cx} {body : List Stmt} {h₀ : ExceptHandler} {hds : List ExceptHandler} {l : List (Value × Option Nat × (Addr → Value → Option Addr → TS))} {pos : Pos} {tb : WX → TS} {Wout : WX}
theorem ps_try_gen (hs : X.stack = X.env :: X.outer) (hf : X.env.frame = some X.env.locals) (hN : X.N.Nodup) (tk : Takes X Wout)
    (hb : ∀ (W : WX) (pn : List (Addr × Obj)) (xe : Value → Shared → Prop), Takes (X.tr pn xe) W → PassesOwn (model X.prog X.w) X.A X.env xe → PSs (X.tr pn xe) body (tb W))
    (hh : HdsG X (h₀ :: hds) l) : PS X (.Try body (h₀ :: hds) [] [] pos) (fun D σ H => tb (wGen X.K Wout D l) D σ H) := by
  refine ⟨fun pins s σ H D I h => ?_⟩
  have ok := I.ok
  have hfr : X.A.frames = some (X.env :: X.outer) := by rw [ok.frames, hs]
  refine wpAny_Try_except ?_
  refine wpAny_mono ((hb (wGen X.K Wout D l) (X.pn ++ pins) (fun e s₁ => wpAny (model X.prog X.w) X.A (noteFrame e X.env) (fun _ s₂ => wpAny (model X.prog X.w) X.A (setFlight e none) (fun _ s₃ =>
    wpAny (model X.prog X.w) X.A (handleBy e X.env (h₀ :: hds)) (SP X pins D) X.xe s₃) X.xe s₂) X.xe s₁) (fun u s' xx => ?_) PassesOwn.looking).run [] s σ H D (I.toTry _) h) (fun f s1 hsp => ?_) (fun e s1 he => he)
  · -- the catch
    obtain ⟨a, B, sI, pins', σ', H', cls, d, rfl, J', nb, up, sky, na, os, ag, w⟩ := xx
    have J : L2.Inv X pins σ' H' sI := J'.ofTry ok
    have sky' : Sky B (X.env :: X.outer) a (Zc cls d) X.env.locals s'.heap := by rw [← hs]; exact sky
    show wpAny (model X.prog X.w) X.A (noteFrame (.ref a) X.env) _ _ _
    refine Sky.land Zc.steady hfr hf sky' fun h3 fl3 up3 => ?_
    have J3 : L2.Inv X pins σ' H' { s' with heap := h3 } := J.landed nb fl3.1 (up.trans up3) os ag
    obtain ⟨oe3, vs3, he3, hz3, hd3⟩ := fl3.there
    have notFr : ∀ {h : Heap} {o : Obj} {vs : Array Value}, h.FunFrames B (X.env :: X.outer) → h.get? a = some o → o.data = .fields vs → a ∉ frs (X.env :: X.outer) := fun {h o vs} ff e dd hm => by
      obtain ⟨_, o', e', hnf⟩ := ff.mem hm
      rw [e] at e'; cases e'
      exact hnf _ dd
    have nfr := notFr fl3.2.2.1 he3 hd3
    have nL : a ≠ X.env.locals := fun z => nfr (List.mem_filterMap.mpr ⟨X.env, List.mem_cons_self, by rw [hf, z]⟩)
    have nF : a ∉ X.fs := fun hm => by
      obtain ⟨e, he, q⟩ := List.mem_filterMap.mp hm
      exact nfr (List.mem_filterMap.mpr ⟨e, List.mem_cons_of_mem _ he, q⟩)
    have S3 := J3.suite he3 hd3 na nL nF
    have go : ∀ {hds' : List ExceptHandler} {l' : List (Value × Option Nat × (Addr → Value → Option Addr → TS))}, HdsG X hds' l' → wGen X.K Wout D l' cls d σ' H' →
        wpAny (model X.prog X.w) X.A (handleBy (.ref a) X.env hds') (SP X pins D) X.xe { s' with heap := h3 } := by
      intro hds' l' hk
      induction hk with
      | nil =>
        intro w
        refine wpAny_handleBy_nil ?_
        obtain ⟨k1, k2, k3, oe, vs, T, oT, ts', he, hz, hd, h1, hr⟩ := id fl3
        unfold PySem.passOn
        refine wpAny_bind (wpAny_field he hd h1 ?_)
        rw [if_neg (show ¬ ((Value.ref T == Value.none) = true) from by simp)]
        have fin : wpAny (model X.prog X.w) X.A (setFlight (.ref a) X.env.frame) (fun _ s4 => wpAny (model X.prog X.w) X.A (throw (.ref a) : Sem Flow) (SP X pins D) X.xe s4) X.xe { s' with heap := h3 } := by
          rw [hf]
          refine HandSPX.setFlight_upZ fl3 fun h4 hh4 up4 => wpAny_throw (tk _ _ ?_)
          exact ⟨a, B, sI, pins, σ', H', cls, d, rfl, J, nb, (up.trans up3).trans up4, .inr (.inr (by rw [hs]; exact hh4)), na, os, ag, w⟩
        first
          | exact wpAny_bind (wpAny_pure (wpAny_bind fin))
          | exact wpAny_bind fin
      | @plain x c ts b₀ suite np pos' hds2 l2 hc hsu r ih =>
        intro w
        obtain ⟨b, hb1, hyes, hno⟩ := w
        refine wpAny_handleBy_cons (codeAny_handlers_test ?_) (by intro q; cases q)
        have LT : PySem.W.Looks (model X.prog X.w) h3 (typeOf (.ref a)) cls := fun A Q E s k q => wpAny_typeOf_ref (k _ _ he3) (by rw [hz3.1]; exact q)
        have LM := PySem.W.exm_one (M := model X.prog X.w) (J3.kIn) LT hb1
        have test : ∀ {Q : Value → Shared → Prop} {E : Value → Shared → Prop}, Q c { s' with heap := h3 } → wpAny (model X.prog X.w) (X.A.mark (some (.ref a))) (eval (.Name x np) X.env) Q E { s' with heap := h3 } := fun {Q E} q => by
          obtain ⟨hg, hdbg, hm | ⟨hm, hv, hnn⟩⟩ := hc
          · exact ld_glob (X := X.suite a ((a, oe3) :: (X.pn ++ pins))) S3 hg hm q hdbg
          · exact ld_blt (X := X.suite a ((a, oe3) :: (X.pn ++ pins))) S3 hg hm hv q hnn hdbg
        refine test (LM.here ?_)
        cases b with
        | true =>
          refine codeAny_handlers_suite ?_
          refine HandSPX.lands_againZ fl3 fun h4 fl4 up4 => ?_
          have J4 : L2.Inv X pins σ' H' { s' with heap := h4 } := J.landed nb fl4.1 ((up.trans up3).trans up4) os ag
          obtain ⟨oe4, vs4, he4, hz4, hd4⟩ := fl4.there
          have S4 := J4.suite he4 hd4 na nL nF
          refine wpAny_mono ((hsu a oe4 cls d (X.pn ++ pins) hz4 ⟨_, hd4⟩).run [] _ _ H' _ S4 (hyes rfl a na)) (fun f s6 hsp => ?_) (fun _ _ z => False.elim z)
          cases f with
          | next =>
            obtain ⟨σ6, H6, S6, q6⟩ := hsp
            exact ⟨_, _, S6.unsuite ok, q6⟩
          | brk =>
            obtain ⟨σ6, H6, S6, q6⟩ := hsp
            exact ⟨_, _, S6.unsuite ok, q6⟩
          | cont =>
            obtain ⟨σ6, H6, S6, q6⟩ := hsp
            exact ⟨_, _, S6.unsuite ok, q6⟩
          | ret u =>
            obtain ⟨v6, σ6, H6, S6, r6, q6⟩ := hsp
            exact ⟨_, _, _, S6.unsuite ok, r6, q6⟩
        | false =>
          show wpAny _ X.A (handleBy (.ref a) X.env hds2) _ _ _
          exact ih (hno rfl)
      | @named x n c i ts b₀ suite np pos' hds2 l2 hi hln hc hsu r ih =>
        intro w
        obtain ⟨b, hb1, hyes, hno⟩ := w
        refine wpAny_handleBy_cons (codeAny_handlers_test ?_) (by intro q; cases q)
        have LT : PySem.W.Looks (model X.prog X.w) h3 (typeOf (.ref a)) cls := fun A Q E s k q => wpAny_typeOf_ref (k _ _ he3) (by rw [hz3.1]; exact q)
        have LM := PySem.W.exm_one (M := model X.prog X.w) (J3.kIn) LT hb1
        have test : ∀ {Q : Value → Shared → Prop} {E : Value → Shared → Prop}, Q c { s' with heap := h3 } → wpAny (model X.prog X.w) (X.A.mark (some (.ref a))) (eval (.Name x np) X.env) Q E { s' with heap := h3 } := fun {Q E} q => by
          obtain ⟨hg, hdbg, hm | ⟨hm, hv, hnn⟩⟩ := hc
          · exact ld_glob (X := X.suite a ((a, oe3) :: (X.pn ++ pins))) S3 hg hm q hdbg
          · exact ld_blt (X := X.suite a ((a, oe3) :: (X.pn ++ pins))) S3 hg hm hv q hnn hdbg
        refine test (LM.here ?_)
        cases b with
        | true =>
          refine codeAny_handlers_suite_as ?_
          refine HandSPX.lands_againZ fl3 fun h4 fl4 up4 => ?_
          have J4 : L2.Inv X pins σ' H' { s' with heap := h4 } := J.landed nb fl4.1 ((up.trans up3).trans up4) os ag
          obtain ⟨oe4, vs4, he4, hz4, hd4⟩ := fl4.there
          have S4 := J4.suite he4 hd4 na nL nF
          refine store_ok (X := X.suite a ((a, oe4) :: (X.pn ++ pins))) (v := .ref a) S4 hN hi (.inl hln) rfl (fun s5 S5 => ?_) (.inr hln)
          refine wpAny_mono ((hsu a oe4 cls d (X.pn ++ pins) hz4 ⟨_, hd4⟩).run [] s5 _ H' _ S5 (hyes rfl a na)) (fun f s6 hsp => ?_) (fun _ _ z => False.elim z)
          have end_ : ∀ {σ6 : L2.St} {H6 : Hp} {Q : Shared → Prop}, L2.Inv (X.suite a ((a, oe4) :: (X.pn ++ pins))) [] σ6 H6 s6 → (∀ s7, L2.Inv X pins (σ6.set i none) H6 s7 → Q s7) →
              wpAny (model X.prog X.w) X.A (do bindName X.env n .none; unbindBehindTheSuite X.env n pos') (fun _ s7 => Q s7) X.xe s6 := fun {σ6 H6 Q} S6 hq => gone_ok (S6.unsuite ok) hN hi hln hq
          cases f with
          | next =>
            obtain ⟨σ6, H6, S6, q6⟩ := hsp
            exact end_ S6 fun s7 J7 => ⟨_, _, J7, q6⟩
          | brk =>
            obtain ⟨σ6, H6, S6, q6⟩ := hsp
            exact end_ S6 fun s7 J7 => ⟨_, _, J7, q6⟩
          | cont =>
            obtain ⟨σ6, H6, S6, q6⟩ := hsp
            exact end_ S6 fun s7 J7 => ⟨_, _, J7, q6⟩
          | ret u =>
            obtain ⟨v6, σ6, H6, S6, r6, q6⟩ := hsp
            exact end_ S6 fun s7 J7 => ⟨_, _, _, J7, r6, q6⟩
        | false =>
          show wpAny _ X.A (handleBy (.ref a) X.env hds2) _ _ _
          exact ih (hno rfl)
    exact go hh w
  · cases f with
    | next =>
      obtain ⟨σ', H', J', q⟩ := hsp
      exact wpAny_execs_nil ⟨σ', H', J'.ofTry ok, q⟩
    | brk =>
      obtain ⟨σ', H', J', q⟩ := hsp
      exact ⟨σ', H', J'.ofTry ok, q⟩
    | cont =>
      obtain ⟨σ', H', J', q⟩ := hsp
      exact ⟨σ', H', J'.ofTry ok, q⟩
    | ret u =>
      obtain ⟨v, σ', H', J', r, q⟩ := hsp
      exact ⟨v, σ', H', J'.ofTry ok, r, q⟩
end
end R

set_option autoImplicit false
namespace R
open PySem PySem.Spec PyProof.Rows L2
open PySem.Sem (wp)
open AutoSeq1 (wpAny_loadPart')
/-! ## RX2: enumerate(tuple) -/
theorem istup_at {h h' : Heap} {l : Addr} {items : Array Value} (hl : h.IsTuple l items) (k : ∀ o, h.get? l = some o → h'.get? l = some o) : h'.IsTuple l items := by
  obtain ⟨o, ho, r⟩ := hl
  exact ⟨o, k o ho, r⟩
theorem draws_tuple {prog : Program} {w : World} {A : Around} (hh : A.handled = none) (it l : Addr) (hne : l ≠ it) (items : Array Value) :
    Draws prog w A it [it, l] items.size (fun i v => items[i]? = some v) (fun i h => h.IsTupleIter it l i ∧ h.IsTuple l items) where
  live := fun _ _ st => let ⟨o, ho, _⟩ := st.1; ⟨o, ho⟩
  frame := fun _ _ _ st hk => ⟨st.1.at fun o e => hk it (by simp) o e, istup_at st.2 fun o e => hk l (by simp) o e⟩
  item := fun i s Q E hi st hQ => by
    refine RZ.nextOf_tuple_item st.1 st.2 (x := items[i]) (by simp [hi]) fun h' hit' hs' => ?_
    exact hQ _ h' s.toks (by simp [hi]) ⟨hit', istup_at st.2 fun o e => hs'.extBut l o hne e⟩ hs'
  done := fun s Q E st hE => RZ.nextOf_tuple_end hh st.1 st.2 (by simp) hE
theorem meets_enumerate_newT (l : Addr) (items : Array Value) (n : Nat) (dct : Option Addr) (sl : Array (Option Value)) :
    Meets (Builtin.«enumerate.__new__» ⟨[.type "enumerate", .ref l], []⟩) (fun _ R s => s.heap.get? l = some { cls := .type "tuple", dict := dct, data := .seq items n, slots := sl } ∧
      R (.ok (.ret (.ref (s.heap.push { cls := .type "tuple_iterator", data := .fields #[.ref l, .int 0 0] }).objs.size)))
        { s with heap := (s.heap.push { cls := .type "tuple_iterator", data := .fields #[.ref l, .int 0 0] }).push { cls := .type "enumerate", data := .fields #[.none, .bool false, .ref s.heap.objs.size, rawInt 0, .none, .none] } }) :=
  .of_wp fun prog w A R s h => by
    obtain ⟨hp, g, d, tk, os⟩ := s; obtain ⟨hl, h⟩ := h
    have hsub := sub_enumerate
    have hL : Heap.IsTuple (Shared.heap ⟨hp, g, d, tk, os⟩) l items := ⟨_, hl, rfl, n, rfl⟩
    wp_walk using wpAny_loadPart' hl
    refine wpAny_stack_any fun st => wpAny_pure ?_
    split
    · rename_i c _ _ _ _ _
      cases (c == Value.type "enumerate")
      · wp_walk using wpAny_loadPart' hl, wpAny_pyIter_tuple hL
        exact ⟨_, rfl, h⟩
      · wp_walk using wpAny_loadPart' hl, wpAny_pyIter_tuple hL
        exact ⟨_, rfl, h⟩
    · wp_walk using wpAny_loadPart' hl, wpAny_pyIter_tuple hL
      exact ⟨_, rfl, h⟩
section
variable {prog : Program} {w : World} {A : Around} {E : Value → Shared → Prop} {s : Shared}
theorem call_enumerate_tuple {l : Addr} {items : Array Value} {Q : Value → Shared → Prop} (hL : s.heap.IsTuple l items)
    (h : ∀ h', IsEnum h' (s.heap.objs.size + 1) s.heap.objs.size 0 .none → h'.IsTupleIter s.heap.objs.size l 0 → h'.objs.size = s.heap.objs.size + 2 →
      (∀ b o, s.heap.get? b = some o → h'.get? b = some o) → Q (.ref (s.heap.objs.size + 1)) { s with heap := h' }) :
    wpAny (model prog w) A (call (.type "enumerate") [.ref l]) Q E s := by
  obtain ⟨⟨c, dct, dt, sl⟩, hl, hc, n, hd⟩ := hL
  replace hc : c = .type "tuple" := hc
  replace hd : dt = .seq items n := hd
  subst hc hd
  refine callType_new F.called_enumerate (by decide) (F.typeCall_enumerate_1 _) (F.newCall_enumerate_1 _) (fun obj => F.args_object_init_2 obj _) F.entry_enumerate_new
    (meets_enumerate_newT l items n dct sl) ⟨hl, ?_⟩
  have hz : (s.heap.push { cls := .type "tuple_iterator", data := .fields #[.ref l, .int 0 0] }).objs.size = s.heap.objs.size + 1 := Heap.size_push ..
  show _ ∧ _
  rw [hz]
  have he : IsEnum ((s.heap.push { cls := .type "tuple_iterator", data := .fields #[.ref l, .int 0 0] }).push
      { cls := .type "enumerate", data := .fields #[.none, .bool false, .ref s.heap.objs.size, rawInt 0, .none, .none] }) (s.heap.objs.size + 1) s.heap.objs.size 0 .none := by
    have := Heap.get?_push_size (s.heap.push { cls := .type "tuple_iterator", data := .fields #[.ref l, .int 0 0] })
      (o := { cls := .type "enumerate", data := .fields #[.none, .bool false, .ref s.heap.objs.size, rawInt 0, .none, .none] }) rfl
    rw [hz] at this; exact this
  refine ⟨⟨_, he, rfl⟩, h _ he ⟨_, Heap.get?_push_of_some _ (Heap.get?_push_size _ rfl), rfl, rfl⟩ (by rw [Heap.size_push, hz]) fun b o x => Heap.get?_push_of_some _ (Heap.get?_push_of_some _ x)⟩
theorem next_enum_endT {e it l : Addr} {i : Nat} {items : Array Value} {old : Value} {Q : Option Value → Shared → Prop} (hh : A.handled = none)
    (he : IsEnum s.heap e it i old) (hit : s.heap.IsTupleIter it l i) (hl : s.heap.IsTuple l items) (hx : items[i]? = none)
    (hQ : ∀ h', Heap.ExtBut it s.heap h' → Q none { s with heap := h' }) : wpAny (model prog w) A (pyNext (.ref e)) Q E s := by
  have hT : s.TypeIs (.ref e) "enumerate" := ⟨_, he, rfl⟩
  unfold pyNext
  refine wpAny_bind (wpAny_attempt (wpAny_callSpecial?_slot (name := Str.ofString "__next__") hT F.slot_enumerate_next
    (wpAny_call_entry F.slot_enumerate_next hT F.entry_enumerate_next ?_ (F.args_enumerate_next_1 _))))
  show wpAny _ _ (field (.ref e) 2 >>= _) _ _ _
  refine wpAny_bind (wpAny_field he rfl (x := .ref it) rfl ?_)
  refine wpAny_bind (RZ.nextOf_tuple_end hh hit hl hx fun h' x he' hx' => ?_)
  obtain ⟨o, ho, hc⟩ := hx'
  refine wpAny_bind (wpAny_isInstance (T := "StopIteration") (b := true) ⟨o, ho, hc⟩ isSubtype_stop ?_)
  exact wpAny_pure (hQ _ he')
end
/-- the tuple at a, each item in a new pair -/
def IteT (K : PySem.W.Frag) (a : Addr) : It :=
  ⟨fun i H => ∃ (xs : List V) (x : V), SqT K H a xs ∧ xs[i]? = some x, fun i H v H' => ∃ T x, v = .ref T ∧ H T = none ∧ H' = upd H T (.tup [.int (i : Nat), x]) ∧ ∀ xs, SqT K H a xs → xs[i]? = some x, fun i H => ∃ xs : List V, SqT K H a xs ∧ xs.length ≤ i⟩
theorem turn_enumT {P : Program} {w : World} {K : PySem.W.Frag} {elts : List Expr} {kk : Nat} {tpos : Pos} (a e it : Addr) :
    Turn P w K (.Tuple elts kk tpos) (IteT K a) [e, it] e (fun i h => (∃ old, IsEnum h e it ((i : Nat) : Int) old) ∧ h.IsTupleIter it a i ∧ e ≠ it ∧ a ≠ it ∧ e ≠ a) where
  mem := by simp
  obj := fun i h st b hb => by
    obtain ⟨⟨old, he⟩, ⟨o, ho, hc, hd⟩, _⟩ := st
    have e' : b = e ∨ b = it := by simpa using hb
    rcases e' with z | z
    · rw [z]; exact ⟨_, he, fun v q => nomatch q⟩
    · rw [z]; exact ⟨o, ho, fun v q => by rw [hd] at q; cases q⟩
  keep := fun i h h' st k => let ⟨⟨old, he⟩, hi, hne⟩ := st; ⟨⟨old, k e (by simp) _ he⟩, hi.at fun o q => k it (by simp) o q, hne⟩
  item := by
    intro X hP hw hK hc i pins s σ H E I hf st hg
    subst hP hw hK
    obtain ⟨⟨old, he⟩, hit, hne, hai, hea⟩ := st
    obtain ⟨xs, x, hq, hx⟩ := hg
    obtain ⟨its, rv, p, hz⟩ := I.tuple hq
    obtain ⟨u, hu, ru⟩ := rv.get hx
    have hel : e < s.heap.objs.size := Heap.lt_size he
    have hil : it < s.heap.objs.size := by obtain ⟨_, q, _⟩ := hit; exact Heap.lt_size q
    have hlt : i < its.toArray.size := by
      have := (List.getElem?_eq_some_iff.mp hu).1
      simpa using this
    refine wpAny_pyNext_enum_itemD (draws_tuple (A := X.A.in1) (I.ok.hd hc) it a hai its.toArray) he ⟨hit, p⟩ hlt hne (by simp [hne, hea]) fun y h' tk hy ho hst' hT hsz hk => ?_
    have ey : y = u := by
      have hy : its.toArray[i]? = some y := hy
      rw [List.getElem?_toArray, hu] at hy
      exact (Option.some.inj hy).symm
    subst ey
    refine ⟨_, rfl, wpAny_letOwnedTupleGo_enum (s := { s with heap := h', toks := tk + 1 }) ho fun h'' he' sb => ?_⟩
    have hT2 : h''.get? s.heap.objs.size = some { cls := .type "tuple", data := .seq #[.int i tk, y] } := (sb.2 _ (Nat.ne_of_gt hel)).trans hT
    have new : ObjOk X.prog X.w (upd H s.heap.objs.size (.tup [.int (i : Nat), x])) h'' s.heap.objs.size (.tup [.int (i : Nat), x]) :=
      ⟨by show 2 ≤ sizeLine; decide, [.int i tk, y], .cons ⟨_, rfl⟩ (.cons ru .nil), ⟨_, hT2, rfl, _, rfl⟩⟩
    have I1 : Inv X pins σ (upd H s.heap.objs.size (.tup [.int (i : Nat), x])) { s with heap := h'', toks := tk + 1 } :=
      I.turnedNew (ch := [e, it]) (fun b ob hb q => (sb.2 b (fun z => hb (by simp [z]))).trans (hk b ob (fun z => hb (by simp [z])) (fun z => hb (by simp [z])) q)) hf (Nat.le_refl _) new
    refine ⟨.ref s.heap.objs.size, _, I1, rfl, ⟨_, x, rfl, I.hok.fresh (Nat.le_refl _), rfl, fun ys hy => by rw [I.tuple_inj hy hq]; exact hx⟩, ⟨⟨y, ?_⟩, hst'.1.at fun o q => (sb.2 it (Ne.symm hne)).trans q, hne, hai, hea⟩, fun b hb => ?_⟩
    · have e1 : ((i + 1 : Nat) : Int) = (i : Int) + 1 := by omega
      rw [e1]; exact he'
    · have hb' : b < s.heap.objs.size := by
        have e' : b = e ∨ b = it := by simpa using hb
        rcases e' with z | z
        · rw [z]; exact hel
        · rw [z]; exact hil
      rw [upd_ne (Nat.ne_of_lt hb')]
      exact (hf b hb).1
  done := by
    intro X hP hw hK hc i pins s σ H E I hf st hg
    subst hP hw hK
    obtain ⟨⟨old, he⟩, hit, hne, hai, hea⟩ := st
    obtain ⟨xs, hq, hx⟩ := hg
    obtain ⟨its, rv, p, hz⟩ := I.tuple hq
    obtain ⟨f0, f1, f2, f3, f4, f5⟩ := hf it (by simp)
    have hl := rv.length
    exact next_enum_endT (I.ok.hd hc) he hit p (by simp; omega) fun h' eb => ⟨rfl, I.turned (t' := s.toks) (fun b o hb q => eb b o hb q) f0 f1 f3 f4 f5⟩
  self := fun A i s Q E st h => let ⟨⟨_, he⟩, _⟩ := st; wpAny_pyIter_enum he h
def iEnumA (K : PySem.W.Frag) (ta : TA) : TI := fun σ H R => ta σ H fun vs H1 => ∃ a xs, vs = [.ref a] ∧ ((SqL K H1 a xs ∧ R (Ite K a) H1) ∨ (SqT K H1 a xs ∧ R (IteT K a) H1))
theorem pi_enumA {X : Cx} {e : Expr} {ta : TA} {p pos tpos : Pos} {elts : List Expr} {kk : Nat} (hg : Gl X "enumerate") (hm : X.mg "enumerate" = none) (ha : PA X [e] ta) (hs : starEach [e] X.env = [(false, eval e X.env)] := by rfl) :
    PI X (.Tuple elts kk tpos) (.Call (.Name "enumerate" p) [e] [] pos) (iEnumA X.K ta) := by
  refine ⟨fun pins s σ H R I h => ?_⟩
  refine Call_ (ld_blt I hg hm boot_enumerate (PyProof.Rows.callWith_type1 (thn (ha.run pos pins s σ H _ I h) fun us s1 ⟨vs, H1, I1, r1, q1⟩ => ?_) hs rfl))
  obtain ⟨a, xs, ex, q1⟩ := q1
  subst ex
  cases r1 with
  | cons r rr =>
    cases rr
    cases r
    have fp : ∀ b, b ∈ [s1.heap.objs.size + 1, s1.heap.objs.size] → FpOk X pins H1 b := fun b hb => by
      have e' : b = s1.heap.objs.size + 1 ∨ b = s1.heap.objs.size := by simpa using hb
      have hle : s1.heap.objs.size ≤ b := by
        rcases e' with z | z
        · rw [z]; exact Nat.le_add_right _ _
        · rw [z]; exact Nat.le_refl _
      exact I1.fpOk hle (I1.hok.fresh hle)
    rcases q1 with ⟨hq, q⟩ | ⟨hq, q⟩
    · obtain ⟨its, rv, p', hz⟩ := I1.list hq
      refine call_enumerate_list p'.isList fun h' he hit hsz hk => wpAny_pyIter_enum he ?_
      have I2 : Inv X pins σ H1 { s1 with heap := h' } := I1.kept (t' := s1.toks) hk
      exact ⟨s1.heap.objs.size + 1, [s1.heap.objs.size + 1, s1.heap.objs.size], _, _, H1, rfl, I2, turn_enum a (s1.heap.objs.size + 1) s1.heap.objs.size, ⟨⟨.none, he⟩, hit, Nat.succ_ne_self _⟩, fp, q⟩
    · obtain ⟨its, rv, p', hz⟩ := I1.tuple hq
      obtain ⟨o1, ho1, _⟩ := id p'
      have hal := Heap.lt_size ho1
      refine call_enumerate_tuple (show s1.heap.IsTuple a its.toArray from p') fun h' he hit hsz hk => wpAny_pyIter_enum he ?_
      have I2 : Inv X pins σ H1 { s1 with heap := h' } := I1.kept (t' := s1.toks) hk
      exact ⟨s1.heap.objs.size + 1, [s1.heap.objs.size + 1, s1.heap.objs.size], _, _, H1, rfl, I2, turn_enumT a (s1.heap.objs.size + 1) s1.heap.objs.size, ⟨⟨.none, he⟩, hit, Nat.succ_ne_self _, Nat.ne_of_lt hal, Nat.ne_of_gt (Nat.lt_succ_of_lt hal)⟩, fp, q⟩
end R

set_option autoImplicit false
namespace R
open PySem PySem.Spec PyProof.Rows L2
/-! ## RX5: zip of a list or a tuple with a list or a tuple -/
/-- a sequence: true: a tuple -/
abbrev itN (k : Bool) : String := match k with
  | true => "tuple_iterator"
  | false => "list_iterator"
def IsIt (k : Bool) (h : Heap) (it l : Addr) (i : Nat) : Prop := match k with
  | true => h.IsTupleIter it l i
  | false => h.IsListIter it l i
def IsSq (k : Bool) (h : Heap) (l : Addr) (xs : Array Value) : Prop := match k with
  | true => h.IsTuple l xs
  | false => h.IsList l xs
section
variable {k : Bool} {h h' : Heap} {it l b : Addr} {i : Nat} {xs : Array Value}
theorem IsIt.ext (x : IsIt k h it l i) (hs : Heap.ExtBut b h h') (hab : it ≠ b) : IsIt k h' it l i := by
  cases k
  · exact Heap.IsListIter.extBut x hs hab
  · exact Heap.IsTupleIter.extBut x hs hab
theorem IsIt.at' (x : IsIt k h it l i) (e : ∀ o, h.get? it = some o → h'.get? it = some o) : IsIt k h' it l i := by
  cases k
  · exact Heap.IsListIter.at x e
  · exact Heap.IsTupleIter.at x e
theorem IsIt.obj (x : IsIt k h it l i) : ∃ o, h.get? it = some o ∧ ∃ fs, o.data = .fields fs := by
  cases k
  · obtain ⟨o, e, _, d⟩ := x
    exact ⟨o, e, _, d⟩
  · obtain ⟨o, e, _, d⟩ := x
    exact ⟨o, e, _, d⟩
theorem IsSq.ext (x : IsSq k h l xs) (hs : Heap.ExtBut b h h') (hab : l ≠ b) : IsSq k h' l xs := by
  cases k
  · exact Heap.IsList.extBut x hs hab
  · exact Heap.IsTuple.extBut x hs hab
theorem IsSq.lt (x : IsSq k h l xs) : l < h.objs.size := by
  cases k
  · obtain ⟨o, e, _⟩ := x
    exact Heap.lt_size e
  · obtain ⟨o, e, _⟩ := x
    exact Heap.lt_size e
end
section
variable {prog : Program} {w : World} {A : Around} {E : Value → Shared → Prop} {s : Shared}
theorem nx_item {k : Bool} {it l : Addr} {i : Nat} {xs : Array Value} {x : Value} {Q : Value → Shared → Prop} (hit : IsIt k s.heap it l i) (hl : IsSq k s.heap l xs) (hx : xs[i]? = some x)
    (hQ : ∀ h', IsIt k h' it l (i + 1) → Heap.SameBut it s.heap h' → Q x { s with heap := h' }) : wpAny (model prog w) A (Builtin.SmallTypes.nextOf (.ref it)) Q E s := by
  cases k
  · exact wpAny_nextOf_list_item hit hl hx hQ
  · exact RZ.nextOf_tuple_item hit hl hx hQ
theorem nx_end {k : Bool} {it l : Addr} {i : Nat} {xs : Array Value} {Q : Value → Shared → Prop} (hh : A.handled = none) (hit : IsIt k s.heap it l i) (hl : IsSq k s.heap l xs) (hx : xs[i]? = none)
    (hE : ∀ h' e, Heap.ExtBut it s.heap h' → (∃ o, h'.get? e = some o ∧ o.cls = .type "StopIteration") → E (.ref e) { s with heap := h' }) : wpAny (model prog w) A (Builtin.SmallTypes.nextOf (.ref it)) Q E s := by
  cases k
  · exact wpAny_nextOf_list_end hh hit hl hx hE
  · exact RZ.nextOf_tuple_end hh hit hl hx hE
variable {p q : Bool} {z TI TO i1 i2 l1 l2 : Addr} {k1 k2 : Nat} {xs ys : Array Value} {x y a b : Value}
theorem zip_item (D : ZipApart z TI TO i1 i2 l1 l2) {Q : Value → Shared → Prop}
    (hz : IsZip s.heap z TI TO .none) (hTI : IsPair s.heap TI (.ref i1) (.ref i2)) (hTO : IsPair s.heap TO a b)
    (h1 : IsIt p s.heap i1 l1 k1) (h2 : IsIt q s.heap i2 l2 k2) (hl1 : IsSq p s.heap l1 xs) (hl2 : IsSq q s.heap l2 ys) (hx : xs[k1]? = some x) (hy : ys[k2]? = some y)
    (hQ : ∀ h', IsZip h' z TI TO (rawInt s.heap.objs.size) → IsPair h' TO x y → IsIt p h' i1 l1 (k1 + 1) → IsIt q h' i2 l2 (k2 + 1) → IsPair h' s.heap.objs.size x y → h'.objs.size = s.heap.objs.size + 1 →
      (∀ c o, c ≠ z → c ≠ TO → c ≠ i1 → c ≠ i2 → s.heap.get? c = some o → h'.get? c = some o) → Q (.ref s.heap.objs.size) { s with heap := h' }) :
    wpAny (model prog w) A (Builtin.«zip.__next__» ⟨[.ref z], []⟩) (fun fin s' => ∃ v, fin = .done (.ret v) ∧ Q v s') E s := by
  show wpAny _ _ (field (.ref z) 2 >>= _) _ _ _
  refine wpAny_bind (wpAny_field hz rfl (x := .bool false) rfl ?_)
  show wpAny _ _ (field (.ref z) 3 >>= _) _ _ _
  refine wpAny_bind (wpAny_field hz rfl (x := .ref TI) rfl ?_)
  refine wpAny_bind (wpAny_seqItems hTI rfl ?_)
  show wpAny _ _ (Builtin.SmallTypes.ownedTupleIsFree (.ref z) >>= _) _ _ _
  refine wpAny_bind ?_
  unfold Builtin.SmallTypes.ownedTupleIsFree
  refine wpAny_bind (wpAny_field hz rfl (x := .none) rfl (wpAny_pure ?_))
  simp only [if_true]
  refine wpAny_bind (wpAny_rule ?_)
  refine wpAny_bind (wpAny_field hz rfl (x := .ref TO) rfl ?_)
  refine wpAny_bind (wpAny_setField_rec hz (by simp) fun g1 hz1 s1 => ?_)
  replace hz1 : IsZip g1 z TI TO .ellipsis := hz1
  refine wpAny_bind ?_
  simp only [List.zipIdx_cons, List.zipIdx_nil, List.forIn_cons, List.forIn_nil]
  refine wpAny_bind (wpAny_bind (wpAny_onRaise ?_))
  show wpAny _ _ (Builtin.SmallTypes.nextOf (.ref i1) >>= _) _ _ _
  refine wpAny_bind (nx_item (h1.ext s1.extBut D.i1z) (hl1.ext s1.extBut D.l1z) hx fun g2 m1 s2 => wpAny_pure ?_)
  have t2 : IsPair g2 TO a b := s2.extBut _ _ D.TOi1 (s1.extBut _ _ D.TOz hTO)
  refine wpAny_bind (wpAny_seqItems t2 rfl ?_)
  refine wpAny_bind (wpAny_updateSeq_pair t2 fun g3 t3 s3 => ?_)
  replace t3 : IsPair g3 TO x b := t3
  refine wpAny_bind (wpAny_letGo (wpAny_pure ?_))
  refine wpAny_bind (wpAny_bind (wpAny_onRaise ?_))
  show wpAny _ _ (Builtin.SmallTypes.nextOf (.ref i2) >>= _) _ _ _
  refine wpAny_bind (nx_item (((h2.ext s1.extBut D.i2z).ext s2.extBut D.i12.symm).ext s3.extBut D.TOi2.symm) (((hl2.ext s1.extBut D.l2z).ext s2.extBut D.l2i1).ext s3.extBut D.l2TO) hy fun g4 m2 s4 => wpAny_pure ?_)
  have t4 : IsPair g4 TO x b := s4.extBut _ _ D.TOi2 t3
  refine wpAny_bind (wpAny_seqItems t4 rfl ?_)
  refine wpAny_bind (wpAny_updateSeq_pair t4 fun g5 t5 s5 => ?_)
  replace t5 : IsPair g5 TO x y := t5
  refine wpAny_bind (wpAny_letGo (wpAny_pure (wpAny_pure ?_)))
  refine wpAny_bind (wpAny_seqItems t5 rfl ?_)
  refine wpAny_bind (wpAny_newTuple ?_)
  have hsz : g5.objs.size = s.heap.objs.size := by rw [s5.1, s4.1, s3.1, s2.1, s1.1]
  have hz5 : IsZip g5 z TI TO .ellipsis := s5.extBut _ _ D.TOz.symm (s4.extBut _ _ D.i2z.symm (s3.extBut _ _ D.TOz.symm (s2.extBut _ _ D.i1z.symm hz1)))
  have hk5 : ∀ c o, c ≠ z → c ≠ TO → c ≠ i1 → c ≠ i2 → s.heap.get? c = some o → g5.get? c = some o := fun c o c1 c2 c3 c4 e => s5.extBut _ _ c2 (s4.extBut _ _ c4 (s3.extBut _ _ c2 (s2.extBut _ _ c3 (s1.extBut _ _ c1 e))))
  have m15 : IsIt p g5 i1 l1 (k1 + 1) := ((m1.ext s3.extBut D.TOi1.symm).ext s4.extBut D.i12).ext s5.extBut D.TOi1.symm
  have m25 : IsIt q g5 i2 l2 (k2 + 1) := m2.ext s5.extBut D.TOi2.symm
  have hzlt : z < g5.objs.size := Heap.lt_size hz5
  show wpAny _ _ (Builtin.SmallTypes.ownedTupleHandOut (.ref z) (.ref g5.objs.size) >>= _) _ _ _
  refine wpAny_bind ?_
  unfold Builtin.SmallTypes.ownedTupleHandOut
  have hz6 : IsZip (g5.push { cls := .type "tuple", data := .seq #[x, y] }) z TI TO .ellipsis := Heap.get?_push_of_some _ hz5
  refine wpAny_bind (wpAny_setField_rec hz6 (by simp) fun g7 hz7 s7 => ?_)
  replace hz7 : IsZip g7 z TI TO (rawInt g5.objs.size) := hz7
  refine wpAny_setField_rec hz7 (by simp) fun g8 hz8 s8 => ?_
  replace hz8 : IsZip g8 z TI TO (rawInt g5.objs.size) := hz8
  have up : ∀ c o, c ≠ z → g5.get? c = some o → g8.get? c = some o := fun c o c1 e => s8.extBut _ _ c1 (s7.extBut _ _ c1 (Heap.get?_push_of_some _ e))
  have t8 : IsPair g8 g5.objs.size x y := s8.extBut _ _ (Nat.ne_of_gt hzlt) (s7.extBut _ _ (Nat.ne_of_gt hzlt) (Heap.get?_push_size _ rfl))
  have e8 : g8.objs.size = g5.objs.size + 1 := by rw [s8.1, s7.1, Heap.size_push]
  rw [hsz] at hz8 t8 e8
  refine wpAny_pure ⟨_, rfl, ?_⟩
  show Q (.ref g5.objs.size) _
  rw [hsz]
  exact hQ g8 hz8 (up _ _ D.TOz t5) (m15.at' fun o e => up _ o D.i1z e) (m25.at' fun o e => up _ o D.i2z e) t8 e8 fun c o c1 c2 c3 c4 e => up c o c1 (hk5 c o c1 c2 c3 c4 e)
theorem zip_end (hh : A.handled = none) (D : ZipApart z TI TO i1 i2 l1 l2) {Q : Fin → Shared → Prop}
    (hz : IsZip s.heap z TI TO .none) (hTI : IsPair s.heap TI (.ref i1) (.ref i2)) (hTO : IsPair s.heap TO a b)
    (h1 : IsIt p s.heap i1 l1 k1) (h2 : IsIt q s.heap i2 l2 k2) (hl1 : IsSq p s.heap l1 xs) (hl2 : IsSq q s.heap l2 ys) (hend : xs[k1]? = none ∨ ys[k2]? = none)
    (hE : ∀ h' e, (∀ c o, c ≠ z → c ≠ TO → c ≠ i1 → c ≠ i2 → s.heap.get? c = some o → h'.get? c = some o) → (∃ o, h'.get? e = some o ∧ o.cls = .type "StopIteration") → E (.ref e) { s with heap := h' }) :
    wpAny (model prog w) A (Builtin.«zip.__next__» ⟨[.ref z], []⟩) Q E s := by
  show wpAny _ _ (field (.ref z) 2 >>= _) _ _ _
  refine wpAny_bind (wpAny_field hz rfl (x := .bool false) rfl ?_)
  show wpAny _ _ (field (.ref z) 3 >>= _) _ _ _
  refine wpAny_bind (wpAny_field hz rfl (x := .ref TI) rfl ?_)
  refine wpAny_bind (wpAny_seqItems hTI rfl ?_)
  show wpAny _ _ (Builtin.SmallTypes.ownedTupleIsFree (.ref z) >>= _) _ _ _
  refine wpAny_bind ?_
  unfold Builtin.SmallTypes.ownedTupleIsFree
  refine wpAny_bind (wpAny_field hz rfl (x := .none) rfl (wpAny_pure ?_))
  simp only [if_true]
  refine wpAny_bind (wpAny_rule ?_)
  refine wpAny_bind (wpAny_field hz rfl (x := .ref TO) rfl ?_)
  refine wpAny_bind (wpAny_setField_rec hz (by simp) fun g1 hz1 s1 => ?_)
  replace hz1 : IsZip g1 z TI TO .ellipsis := hz1
  refine wpAny_bind ?_
  simp only [List.zipIdx_cons, List.zipIdx_nil, List.forIn_cons, List.forIn_nil]
  refine wpAny_bind (wpAny_bind (wpAny_onRaise ?_))
  show wpAny _ _ (Builtin.SmallTypes.nextOf (.ref i1) >>= _) _ _ _
  cases hx : xs[k1]? with
  | none =>
    refine wpAny_bind (nx_end hh (h1.ext s1.extBut D.i1z) (hl1.ext s1.extBut D.l1z) hx fun g2 e s2 he => ?_)
    obtain ⟨oe, hoe, hce⟩ := he
    have hz2 : IsZip g2 z TI TO .ellipsis := s2 _ _ D.i1z.symm hz1
    have hez : e ≠ z := fun x => by subst x; rw [hz2] at hoe; cases hoe; simp at hce
    refine wpAny_setField_rec hz2 (by simp) fun g3 _ s3 => hE g3 e (fun c o c1 _ c3 _ x => s3.extBut _ _ c1 (s2 _ _ c3 (s1.extBut _ _ c1 x))) ⟨oe, s3.extBut _ _ hez hoe, hce⟩
  | some x =>
    have hy : ys[k2]? = none := by rcases hend with h | h; rw [hx] at h; cases h; exact h
    refine wpAny_bind (nx_item (h1.ext s1.extBut D.i1z) (hl1.ext s1.extBut D.l1z) hx fun g2 m1 s2 => wpAny_pure ?_)
    have t2 : IsPair g2 TO a b := s2.extBut _ _ D.TOi1 (s1.extBut _ _ D.TOz hTO)
    refine wpAny_bind (wpAny_seqItems t2 rfl ?_)
    refine wpAny_bind (wpAny_updateSeq_pair t2 fun g3 t3 s3 => ?_)
    refine wpAny_bind (wpAny_letGo (wpAny_pure ?_))
    refine wpAny_bind (wpAny_bind (wpAny_onRaise ?_))
    show wpAny _ _ (Builtin.SmallTypes.nextOf (.ref i2) >>= _) _ _ _
    refine wpAny_bind (nx_end hh (((h2.ext s1.extBut D.i2z).ext s2.extBut D.i12.symm).ext s3.extBut D.TOi2.symm) (((hl2.ext s1.extBut D.l2z).ext s2.extBut D.l2i1).ext s3.extBut D.l2TO) hy fun g4 e s4 he => ?_)
    obtain ⟨oe, hoe, hce⟩ := he
    have hz4 : IsZip g4 z TI TO .ellipsis := s4 _ _ D.i2z.symm (s3.extBut _ _ D.TOz.symm (s2.extBut _ _ D.i1z.symm hz1))
    have hez : e ≠ z := fun x => by subst x; rw [hz4] at hoe; cases hoe; simp at hce
    refine wpAny_setField_rec hz4 (by simp) fun g5 _ s5 => hE g5 e (fun c o c1 c2 c3 c4 x => s5.extBut _ _ c1 (s4 _ _ c4 (s3.extBut _ _ c2 (s2.extBut _ _ c3 (s1.extBut _ _ c1 x))))) ⟨oe, s5.extBut _ _ hez hoe, hce⟩
theorem nextZ_item (D : ZipApart z TI TO i1 i2 l1 l2) {Q : Option Value → Shared → Prop}
    (hz : IsZip s.heap z TI TO .none) (hTI : IsPair s.heap TI (.ref i1) (.ref i2)) (hTO : IsPair s.heap TO a b)
    (h1 : IsIt p s.heap i1 l1 k1) (h2 : IsIt q s.heap i2 l2 k2) (hl1 : IsSq p s.heap l1 xs) (hl2 : IsSq q s.heap l2 ys) (hx : xs[k1]? = some x) (hy : ys[k2]? = some y)
    (hQ : ∀ h', IsZip h' z TI TO (rawInt s.heap.objs.size) → IsPair h' TO x y → IsIt p h' i1 l1 (k1 + 1) → IsIt q h' i2 l2 (k2 + 1) → IsPair h' s.heap.objs.size x y → h'.objs.size = s.heap.objs.size + 1 →
      (∀ c o, c ≠ z → c ≠ TO → c ≠ i1 → c ≠ i2 → s.heap.get? c = some o → h'.get? c = some o) → Q (some (.ref s.heap.objs.size)) { s with heap := h' }) :
    wpAny (model prog w) A (pyNext (.ref z)) Q E s := by
  have hT : s.TypeIs (.ref z) "zip" := ⟨_, hz, rfl⟩
  unfold pyNext
  exact wpAny_bind (wpAny_attempt (wpAny_callSpecial?_slot (name := Str.ofString "__next__") hT F.slot_zip_next (wpAny_call_entry F.slot_zip_next hT F.entry_zip_next
    (zip_item D hz hTI hTO h1 h2 hl1 hl2 hx hy fun h' a1 a2 a3 a4 a5 a6 a7 => wpAny_pure (hQ h' a1 a2 a3 a4 a5 a6 a7)) (F.args_zip_next_1 _))))
theorem nextZ_end (hh : A.handled = none) (D : ZipApart z TI TO i1 i2 l1 l2) {Q : Option Value → Shared → Prop}
    (hz : IsZip s.heap z TI TO .none) (hTI : IsPair s.heap TI (.ref i1) (.ref i2)) (hTO : IsPair s.heap TO a b)
    (h1 : IsIt p s.heap i1 l1 k1) (h2 : IsIt q s.heap i2 l2 k2) (hl1 : IsSq p s.heap l1 xs) (hl2 : IsSq q s.heap l2 ys) (hend : xs[k1]? = none ∨ ys[k2]? = none)
    (hQ : ∀ h', (∀ c o, c ≠ z → c ≠ TO → c ≠ i1 → c ≠ i2 → s.heap.get? c = some o → h'.get? c = some o) → Q none { s with heap := h' }) : wpAny (model prog w) A (pyNext (.ref z)) Q E s := by
  have hT : s.TypeIs (.ref z) "zip" := ⟨_, hz, rfl⟩
  unfold pyNext
  refine wpAny_bind (wpAny_attempt (wpAny_callSpecial?_slot (name := Str.ofString "__next__") hT F.slot_zip_next (wpAny_call_entry F.slot_zip_next hT F.entry_zip_next
    (zip_end (A := A.in1) hh D hz hTI hTO h1 h2 hl1 hl2 hend fun h' e hk he => ?_) (F.args_zip_next_1 _))))
  obtain ⟨o, ho, hc⟩ := he
  refine wpAny_bind (wpAny_isInstance (T := "StopIteration") (b := true) ⟨o, ho, hc⟩ isSubtype_stop ?_)
  exact wpAny_pure (hQ _ hk)
end
/-! ### zip(a, b) -/
abbrev zM1 (p : Bool) (h : Heap) (l1 : Addr) : Heap := h.push { cls := .type (itN p), data := .fields #[.ref l1, .int 0 0] }
abbrev zM2 (p q : Bool) (h : Heap) (l1 l2 : Addr) : Heap := (zM1 p h l1).push { cls := .type (itN q), data := .fields #[.ref l2, .int 0 0] }
abbrev zM3 (p q : Bool) (h : Heap) (l1 l2 : Addr) : Heap := (zM2 p q h l1 l2).push { cls := .type "tuple", data := .seq #[.ref h.objs.size, .ref (zM1 p h l1).objs.size] }
abbrev zM4 (p q : Bool) (h : Heap) (l1 l2 : Addr) : Heap := (zM3 p q h l1 l2).push { cls := .type "tuple", data := .seq #[.none, .none] }
abbrev zM5 (p q : Bool) (h : Heap) (l1 l2 : Addr) : Heap := (zM4 p q h l1 l2).push { cls := .type "zip", data := .fields #[.none, .bool false, .bool false, .ref (zM2 p q h l1 l2).objs.size, .ref (zM3 p q h l1 l2).objs.size] }
theorem meets_zM (p q : Bool) (l1 l2 : Addr) (xs ys : Array Value) :
    Meets (Builtin.«zip.__new__» ⟨[.type "zip", .ref l1, .ref l2], []⟩) (fun _ R s => IsSq p s.heap l1 xs ∧ IsSq q s.heap l2 ys ∧ R (.ok (.ret (.ref (zM4 p q s.heap l1 l2).objs.size))) { s with heap := zM5 p q s.heap l1 l2 }) :=
  .of_wp fun prog w A R s h => by
    obtain ⟨hp, g, d, tk, os⟩ := s; obtain ⟨hl1, hl2, h⟩ := h
    have hsub := sub_zip
    cases p <;> cases q
    · have hL1 : Heap.IsList (Shared.heap ⟨hp, g, d, tk, os⟩) l1 xs := hl1
      have hL2 : Heap.IsList (Shared.heap ⟨hp.push { cls := .type "list_iterator", data := .fields #[.ref l1, .int 0 0] }, g, d, tk, os⟩) l2 ys := Heap.IsList.push hl2 _
      wp_walk using wpAny_pyIter_list hL1, wpAny_pyIter_list hL2
      exact ⟨_, rfl, h⟩
    · have hL1 : Heap.IsList (Shared.heap ⟨hp, g, d, tk, os⟩) l1 xs := hl1
      have hL2 : Heap.IsTuple (Shared.heap ⟨hp.push { cls := .type "list_iterator", data := .fields #[.ref l1, .int 0 0] }, g, d, tk, os⟩) l2 ys := Heap.IsTuple.push hl2 _
      wp_walk using wpAny_pyIter_list hL1, wpAny_pyIter_tuple hL2
      exact ⟨_, rfl, h⟩
    · have hL1 : Heap.IsTuple (Shared.heap ⟨hp, g, d, tk, os⟩) l1 xs := hl1
      have hL2 : Heap.IsList (Shared.heap ⟨hp.push { cls := .type "tuple_iterator", data := .fields #[.ref l1, .int 0 0] }, g, d, tk, os⟩) l2 ys := Heap.IsList.push hl2 _
      wp_walk using wpAny_pyIter_tuple hL1, wpAny_pyIter_list hL2
      exact ⟨_, rfl, h⟩
    · have hL1 : Heap.IsTuple (Shared.heap ⟨hp, g, d, tk, os⟩) l1 xs := hl1
      have hL2 : Heap.IsTuple (Shared.heap ⟨hp.push { cls := .type "tuple_iterator", data := .fields #[.ref l1, .int 0 0] }, g, d, tk, os⟩) l2 ys := Heap.IsTuple.push hl2 _
      wp_walk using wpAny_pyIter_tuple hL1, wpAny_pyIter_tuple hL2
      exact ⟨_, rfl, h⟩
section
variable {prog : Program} {w : World} {A : Around} {E : Value → Shared → Prop} {s : Shared}
theorem isIt_new {k : Bool} {h : Heap} {it l : Addr} (e : h.get? it = some { cls := .type (itN k), data := .fields #[.ref l, .int 0 0] }) : IsIt k h it l 0 := by
  cases k
  · exact ⟨_, e, rfl, rfl⟩
  · exact ⟨_, e, rfl, rfl⟩
theorem call_zM {p q : Bool} {l1 l2 : Addr} {xs ys : Array Value} {Q : Value → Shared → Prop} (hl1 : IsSq p s.heap l1 xs) (hl2 : IsSq q s.heap l2 ys)
    (h : ∀ h', IsZip h' (s.heap.objs.size + 4) (s.heap.objs.size + 2) (s.heap.objs.size + 3) .none → IsPair h' (s.heap.objs.size + 2) (.ref s.heap.objs.size) (.ref (s.heap.objs.size + 1)) →
      IsPair h' (s.heap.objs.size + 3) .none .none → IsIt p h' s.heap.objs.size l1 0 → IsIt q h' (s.heap.objs.size + 1) l2 0 → h'.objs.size = s.heap.objs.size + 5 →
      (∀ c o, s.heap.get? c = some o → h'.get? c = some o) → Q (.ref (s.heap.objs.size + 4)) { s with heap := h' }) :
    wpAny (model prog w) A (call (.type "zip") [.ref l1, .ref l2]) Q E s := by
  refine callType_new F.called_zip (by decide) (F.typeCall_zip_2 _ _) (F.newCall_zip_2 _ _) (fun obj => F.args_object_init_3 obj _ _) F.entry_zip_new (meets_zM p q l1 l2 xs ys) ⟨hl1, hl2, ?_⟩
  have z1 : (zM1 p s.heap l1).objs.size = s.heap.objs.size + 1 := Heap.size_push ..
  have z2 : (zM2 p q s.heap l1 l2).objs.size = s.heap.objs.size + 2 := by rw [Heap.size_push, z1]
  have z3 : (zM3 p q s.heap l1 l2).objs.size = s.heap.objs.size + 3 := by rw [Heap.size_push, z2]
  have z4 : (zM4 p q s.heap l1 l2).objs.size = s.heap.objs.size + 4 := by rw [Heap.size_push, z3]
  have z5 : (zM5 p q s.heap l1 l2).objs.size = s.heap.objs.size + 5 := by rw [Heap.size_push, z4]
  have g5 : (zM5 p q s.heap l1 l2).get? (zM4 p q s.heap l1 l2).objs.size = some _ := Heap.get?_push_size _ rfl
  have g4 : (zM5 p q s.heap l1 l2).get? (zM3 p q s.heap l1 l2).objs.size = some _ := Heap.get?_push_of_some _ (Heap.get?_push_size _ rfl)
  have g3 : (zM5 p q s.heap l1 l2).get? (zM2 p q s.heap l1 l2).objs.size = some _ := Heap.get?_push_of_some _ (Heap.get?_push_of_some _ (Heap.get?_push_size _ rfl))
  have g2 : (zM5 p q s.heap l1 l2).get? (zM1 p s.heap l1).objs.size = some _ := Heap.get?_push_of_some _ (Heap.get?_push_of_some _ (Heap.get?_push_of_some _ (Heap.get?_push_size _ rfl)))
  have g1 : (zM5 p q s.heap l1 l2).get? s.heap.objs.size = some _ := Heap.get?_push_of_some _ (Heap.get?_push_of_some _ (Heap.get?_push_of_some _ (Heap.get?_push_of_some _ (Heap.get?_push_size _ rfl))))
  show _ ∧ _
  rw [z2, z3, z4] at g5
  rw [z1, z2] at g3
  rw [z3] at g4
  rw [z1] at g2
  rw [z4]
  exact ⟨⟨_, g5, rfl⟩, h _ g5 g3 g4 (isIt_new g1) (isIt_new g2) z5 fun c o x => Heap.get?_push_of_some _ (Heap.get?_push_of_some _ (Heap.get?_push_of_some _ (Heap.get?_push_of_some _ (Heap.get?_push_of_some _ x))))⟩
end
/-! ### walked over -/
def SqK (k : Bool) (K : PySem.W.Frag) (H : Hp) (a : Addr) (xs : List V) : Prop := match k with
  | true => SqT K H a xs
  | false => SqL K H a xs
section
variable {X : Cx} {pins : List (Addr × Obj)} {σ : L2.St} {H : Hp} {s : Shared} {a : Addr} {xs ys : List V} {k : Bool}
theorem sqk_is (I : Inv X pins σ H s) (h : SqK k X.K H a xs) : ∃ its, Vals xs its ∧ IsSq k s.heap a its.toArray := by
  cases k
  · obtain ⟨its, r, p, _⟩ := I.list h
    exact ⟨its, r, p.isList⟩
  · obtain ⟨its, r, p, _⟩ := I.tuple h
    exact ⟨its, r, p⟩
theorem sqk_inj (I : Inv X pins σ H s) (h : SqK k X.K H a xs) (h2 : SqK k X.K H a ys) : xs = ys := by
  cases k
  · exact I.list_inj h h2
  · exact I.tuple_inj h h2
end
def Itz4 (p q : Bool) (K : PySem.W.Frag) (a b : Addr) : It :=
  ⟨fun i H => ∃ (xs ys : List V) (x y : V), SqK p K H a xs ∧ SqK q K H b ys ∧ xs[i]? = some x ∧ ys[i]? = some y,
    fun i H v H' => ∃ T x y, v = .ref T ∧ H T = none ∧ H' = upd H T (.tup [x, y]) ∧ (∀ xs, SqK p K H a xs → xs[i]? = some x) ∧ ∀ ys, SqK q K H b ys → ys[i]? = some y,
    fun i H => ∃ xs ys : List V, SqK p K H a xs ∧ SqK q K H b ys ∧ (xs.length ≤ i ∨ ys.length ≤ i)⟩
theorem turn_z4 {P : Program} {w : World} {K : PySem.W.Frag} {elts : List Expr} {kk : Nat} {tpos : Pos} {p q : Bool} {a b z TI TO i1 i2 : Addr} (D : ZipApart z TI TO i1 i2 a b) :
    Turn P w K (.Tuple elts kk tpos) (Itz4 p q K a b) [z, TI, TO, i1, i2] z (fun i h => IsZip h z TI TO .none ∧ IsPair h TI (.ref i1) (.ref i2) ∧ (∃ x y, IsPair h TO x y) ∧ IsIt p h i1 a i ∧ IsIt q h i2 b i) where
  mem := by simp
  obj := fun i h st c hc => by
    obtain ⟨hz, hTI, ⟨x, y, hTO⟩, m1, m2⟩ := st
    have e' : c = z ∨ c = TI ∨ c = TO ∨ c = i1 ∨ c = i2 := by simpa using hc
    rcases e' with e | e | e | e | e
    · rw [e]; exact ⟨_, hz, fun v q => nomatch q⟩
    · rw [e]; exact ⟨_, hTI, fun v q => nomatch q⟩
    · rw [e]; exact ⟨_, hTO, fun v q => nomatch q⟩
    · obtain ⟨o, e1, fs, d⟩ := m1.obj
      rw [e]; exact ⟨o, e1, fun v q => by rw [d] at q; cases q⟩
    · obtain ⟨o, e1, fs, d⟩ := m2.obj
      rw [e]; exact ⟨o, e1, fun v q => by rw [d] at q; cases q⟩
  keep := fun i h h' st k => by
    obtain ⟨hz, hTI, ⟨x, y, hTO⟩, m1, m2⟩ := st
    exact ⟨k z (by simp) _ hz, k TI (by simp) _ hTI, ⟨x, y, k TO (by simp) _ hTO⟩, m1.at' fun o q => k i1 (by simp) o q, m2.at' fun o q => k i2 (by simp) o q⟩
  item := by
    intro X hP hw hK hc i pins s σ H E I hf st hg
    subst hP hw hK
    obtain ⟨hz, hTI, ⟨x0, y0, hTO⟩, m1, m2⟩ := st
    obtain ⟨xs, ys, x, y, hqx, hqy, hx, hy⟩ := hg
    obtain ⟨its, rv, p1⟩ := sqk_is I hqx
    obtain ⟨its2, rv2, p2⟩ := sqk_is I hqy
    obtain ⟨u, hu, ru⟩ := rv.get hx
    obtain ⟨u2, hu2, ru2⟩ := rv2.get hy
    have hzl : z < s.heap.objs.size := Heap.lt_size hz
    refine nextZ_item D hz hTI hTO m1 m2 p1 p2 (x := u) (y := u2) (by simpa using hu) (by simpa using hu2) fun h' z' TO' h1' h2' hT hsz hk => ?_
    refine ⟨_, rfl, wpAny_letOwnedTupleGo_zip (s := { s with heap := h' }) z' fun h'' z'' sb => ?_⟩
    have hT2 : h''.get? s.heap.objs.size = some { cls := .type "tuple", data := .seq #[u, u2] } := (sb.2 _ (Nat.ne_of_gt hzl)).trans hT
    have new : ObjOk X.prog X.w (upd H s.heap.objs.size (.tup [x, y])) h'' s.heap.objs.size (.tup [x, y]) := ⟨by show 2 ≤ sizeLine; decide, [u, u2], .cons ru (.cons ru2 .nil), ⟨_, hT2, rfl, _, rfl⟩⟩
    have I1 : Inv X pins σ (upd H s.heap.objs.size (.tup [x, y])) { s with heap := h'' } :=
      I.turnedNew (t' := s.toks) (ch := [z, TI, TO, i1, i2]) (fun c o hb q => (sb.2 c (fun q' => hb (by simp [q']))).trans (hk c o (fun q' => hb (by simp [q'])) (fun q' => hb (by simp [q'])) (fun q' => hb (by simp [q'])) (fun q' => hb (by simp [q'])) q)) hf (Nat.le_refl _) new
    refine ⟨.ref s.heap.objs.size, _, I1, rfl, ⟨_, x, y, rfl, I.hok.fresh (Nat.le_refl _), rfl, fun l hl => by rw [sqk_inj I hl hqx]; exact hx, fun l hl => by rw [sqk_inj I hl hqy]; exact hy⟩, ⟨z'', ?_, ⟨u, u2, ?_⟩, ?_, ?_⟩, fun c hcm => ?_⟩
    · exact (sb.2 _ D.TIz).trans (hk _ _ D.TIz D.TITO D.TIi1 D.TIi2 hTI)
    · exact (sb.2 _ D.TOz).trans TO'
    · exact h1'.at' fun o q => (sb.2 _ D.i1z).trans q
    · exact h2'.at' fun o q => (sb.2 _ D.i2z).trans q
    · have hlt : c < s.heap.objs.size := by
        have e' : c = z ∨ c = TI ∨ c = TO ∨ c = i1 ∨ c = i2 := by simpa using hcm
        rcases e' with e | e | e | e | e
        · rw [e]; exact hzl
        · rw [e]; exact Heap.lt_size hTI
        · rw [e]; exact Heap.lt_size hTO
        · rw [e]; obtain ⟨_, e1, _⟩ := m1.obj; exact Heap.lt_size e1
        · rw [e]; obtain ⟨_, e2, _⟩ := m2.obj; exact Heap.lt_size e2
      rw [upd_ne (Nat.ne_of_lt hlt)]
      exact (hf c hcm).1
  done := by
    intro X hP hw hK hc i pins s σ H E I hf st hg
    subst hP hw hK
    obtain ⟨hz, hTI, ⟨x0, y0, hTO⟩, m1, m2⟩ := st
    obtain ⟨xs, ys, hqx, hqy, hend⟩ := hg
    obtain ⟨its, rv, p1⟩ := sqk_is I hqx
    obtain ⟨its2, rv2, p2⟩ := sqk_is I hqy
    have l1 := rv.length
    have l2 := rv2.length
    have he : its.toArray[i]? = none ∨ its2.toArray[i]? = none := by
      rcases hend with e | e
      · exact .inl (by simp; omega)
      · exact .inr (by simp; omega)
    exact nextZ_end (I.ok.hd hc) D hz hTI hTO m1 m2 p1 p2 he fun h' hk => ⟨rfl, I.turnedL (t' := s.toks) (ch := [z, TI, TO, i1, i2]) (fun c o hb q =>
      hk c o (fun q' => hb (by simp [q'])) (fun q' => hb (by simp [q'])) (fun q' => hb (by simp [q'])) (fun q' => hb (by simp [q'])) q) hf⟩
  self := fun A i s Q E st h => wpAny_pyIter_zip st.1 h
def iZip4 (K : PySem.W.Frag) (ta : TA) : TI := fun σ H R => ta σ H fun vs H1 => ∃ a b xs ys, vs = [.ref a, .ref b] ∧ ∃ p q, SqK p K H1 a xs ∧ SqK q K H1 b ys ∧ R (Itz4 p q K a b) H1
theorem pi_zip4 {X : Cx} {e e2 : Expr} {ta : TA} {p pos tpos : Pos} {elts : List Expr} {kk : Nat} (hg : Gl X "zip") (hm : X.mg "zip" = none) (ha : PA X [e, e2] ta)
    (hs : starEach [e, e2] X.env = (false, eval e X.env) :: starEach [e2] X.env) (hpl : (backTo pos (starEach [e2] X.env)).any (·.1) = false) :
    PI X (.Tuple elts kk tpos) (.Call (.Name "zip" p) [e, e2] [] pos) (iZip4 X.K ta) := by
  refine ⟨fun pins s σ H R I h => ?_⟩
  refine Call_ (ld_blt I hg hm PyProof.Rows.boot_zip (PyProof.Rows.callWith_type1 (thn (ha.run pos pins s σ H _ I h) fun us s1 ⟨vs, H1, I1, r1, q1⟩ => ?_) hs hpl))
  obtain ⟨a, b, xs, ys, ex, kp, kq, hqx, hqy, q⟩ := q1
  subst ex
  cases r1 with
  | cons r rr =>
    cases rr with
    | cons r' rr =>
      cases rr
      cases r
      cases r'
      obtain ⟨its, rv, p1⟩ := sqk_is I1 hqx
      obtain ⟨its2, rv2, p2⟩ := sqk_is I1 hqy
      refine call_zM p1 p2 fun h' hz hTI hTO m1 m2 hsz hk => wpAny_pyIter_zip hz ?_
      have I2 : Inv X pins σ H1 { s1 with heap := h' } := I1.kept (t' := s1.toks) hk
      refine ⟨s1.heap.objs.size + 4, [s1.heap.objs.size + 4, s1.heap.objs.size + 2, s1.heap.objs.size + 3, s1.heap.objs.size, s1.heap.objs.size + 1], _, _, H1, rfl, I2, turn_z4 (PySem.W.ktu_apart s1.heap.objs.size a b p1.lt p2.lt), ⟨hz, hTI, ⟨_, _, hTO⟩, m1, m2⟩, fun c hcm => ?_, q⟩
      have e' : c = s1.heap.objs.size + 4 ∨ c = s1.heap.objs.size + 2 ∨ c = s1.heap.objs.size + 3 ∨ c = s1.heap.objs.size ∨ c = s1.heap.objs.size + 1 := by simpa using hcm
      have hle : s1.heap.objs.size ≤ c := by
        rcases e' with z | z | z | z | z
        · rw [z]; exact Nat.le_add_right _ _
        · rw [z]; exact Nat.le_add_right _ _
        · rw [z]; exact Nat.le_add_right _ _
        · rw [z]; exact Nat.le_refl _
        · rw [z]; exact Nat.le_add_right _ _
      exact I1.fpOk hle (I1.hok.fresh hle)
end R

set_option autoImplicit false
namespace R
open PySem PySem.Spec PyProof.Rows L2
/-! ## RX6: ranges of any size -/
theorem turn_long {P : Program} {w : World} {K : PySem.W.Frag} {tg : Expr} (it : Addr) (lo : Int) (n : Nat) : Turn P w K tg (Itr lo n) [it] it (fun i h => IsLongIter h it (lo + (i : Nat) * 1) ((n : Int) - (i : Nat)) 1) where
  mem := by simp
  obj := fun i h st b hb => by
    have e : b = it := by simpa using hb
    subst e
    exact ⟨_, st, fun v z => by
      have z' : Data.fields _ = Data.cell v := z
      cases z'⟩
  keep := fun i h h' st k => k it (by simp) _ st
  item := by
    intro X hP hw hK hc i pins s σ H E I hf st hg
    subst hP hw hK
    obtain ⟨f0, f1, f2, f3, f4, f5⟩ := hf it (by simp)
    have W := Walks.longrange (prog := X.prog) (w := X.w) (I.ok.hd hc) it lo 1 n
    refine W.item i s _ _ hg st fun v h' tk hv st' kk => ?_
    obtain ⟨t, rfl⟩ := hv
    have I1 : Inv X pins σ H { s with heap := h', toks := tk } := I.turned (fun b o hb e => kk b o (by simpa using hb) e) f0 f1 f3 f4 f5
    refine ⟨_, rfl, go_of (s := { s with heap := h', toks := tk }) (n := "longrange_iterator") st' rfl rfl (by decide) ⟨.int (lo + i), H, I1, ⟨t, ?_⟩, ⟨rfl, rfl⟩, st', fun b hb => (hf b hb).1⟩⟩
    rw [Int.mul_one]
  done := by
    intro X hP hw hK hc i pins s σ H E I hf st hg
    subst hP hw hK
    obtain ⟨f0, f1, f2, f3, f4, f5⟩ := hf it (by simp)
    exact wpAny_pyNext_long_end (I.ok.hd hc) st (by have : n ≤ i := hg; omega) fun h' eb => ⟨rfl, I.turned (t' := s.toks) (fun b o hb e => eb b o hb e) f0 f1 f3 f4 f5⟩
  self := fun _ _ _ _ _ st h => wpAny_pyIter_longiter st h
section
variable {X : Cx} {tg : Expr}
theorem range_itA {pins : List (Addr × Obj)} {σ : L2.St} {H : Hp} {s : Shared} {R : It → Hp → Prop} {E : Value → Shared → Prop} {lo hi : Int} {t u v : Tok} {tk : Nat} (I : Inv X pins σ H s)
    (q : R (Itr lo (hi - lo).toNat) H) : wpAny (model X.prog X.w) X.A (pyIter (.ref s.heap.objs.size)) (PIE X pins σ tg R) E { s with heap := s.heap.push { cls := .type "range", data := .fields #[.int lo t, .int hi u, .int 1 v] }, toks := tk } := by
  have I1 : Inv X pins σ H { s with heap := s.heap.push { cls := .type "range", data := .fields #[.int lo t, .int hi u, .int 1 v] }, toks := tk } := I.kept fun b o e => Heap.get?_push_of_some _ e
  have e1 : lo + ((0 : Nat) : Int) * 1 = lo := by simp
  have e2 : (((hi - lo).toNat : Nat) : Int) - ((0 : Nat) : Int) = Builtin.Range.rangeSize lo hi 1 := by rw [rangeSize_one]; split <;> omega
  have fp : ∀ b, b ∈ [(s.heap.push { cls := .type "range", data := .fields #[.int lo t, .int hi u, .int 1 v] }).objs.size] → FpOk X pins H b := fun b hb => by
    have e : b = (s.heap.push { cls := .type "range", data := .fields #[.int lo t, .int hi u, .int 1 v] }).objs.size := by simpa using hb
    subst e
    exact I1.fpOk (Nat.le_refl _) (I1.hok.fresh (Nat.le_refl _))
  cases sm : Builtin.Range.small lo hi 1 with
  | true =>
    refine wpAny_pyIter_range (IsRange.new ..) sm ?_
    refine ⟨(s.heap.push { cls := .type "range", data := .fields #[.int lo t, .int hi u, .int 1 v] }).objs.size, [(s.heap.push { cls := .type "range", data := .fields #[.int lo t, .int hi u, .int 1 v] }).objs.size], _, _, H, rfl,
      I1.kept (t' := tk) fun b o e => Heap.get?_push_of_some _ e, turn_range _ lo (hi - lo).toNat, ?_, fp, q⟩
    show IsRangeIter _ _ (lo + ((0 : Nat) : Int) * 1) ((((hi - lo).toNat : Nat) : Int) - ((0 : Nat) : Int)) 1
    rw [e1, e2]
    exact Heap.get?_push_size _ rfl
  | false =>
    refine wpAny_pyIter_longrange (IsRange.new ..) sm ?_
    refine ⟨(s.heap.push { cls := .type "range", data := .fields #[.int lo t, .int hi u, .int 1 v] }).objs.size, [(s.heap.push { cls := .type "range", data := .fields #[.int lo t, .int hi u, .int 1 v] }).objs.size], _, _, H, rfl,
      I1.kept (t' := tk) fun b o e => Heap.get?_push_of_some _ e, turn_long _ lo (hi - lo).toNat, ?_, fp, q⟩
    show IsLongIter _ _ (lo + ((0 : Nat) : Int) * 1) ((((hi - lo).toNat : Nat) : Int) - ((0 : Nat) : Int)) 1
    rw [e1, e2]
    exact Heap.get?_push_size _ rfl
def iRng1A (ta : TA) : TI := fun σ H R => ta σ H fun vs H1 => ∃ j : Int, vs = [.int j] ∧ R (Itr 0 j.toNat) H1
def iRng2A (ta : TA) : TI := fun σ H R => ta σ H fun vs H1 => ∃ i j : Int, vs = [.int i, .int j] ∧ R (Itr i (j - i).toNat) H1
theorem pi_range1A {a : Expr} {ta : TA} {p pos : Pos} (hg : Gl X "range") (hm : X.mg "range" = none) (ha : PA X [a] ta) (hs : starEach [a] X.env = [(false, eval a X.env)] := by rfl) : PI X tg (.Call (.Name "range" p) [a] [] pos) (iRng1A ta) := by
  refine ⟨fun pins s σ H R I h => ?_⟩
  refine Call_ (ld_blt I hg hm boot_range (PyProof.Rows.callWith_type1 (thn (ha.run pos pins s σ H _ I h) fun us s1 ⟨vs, H1, I1, r1, q1⟩ => ?_) hs rfl))
  obtain ⟨j, e, q⟩ := q1
  subst e
  cases r1 with
  | cons r rr =>
    cases rr
    obtain ⟨t, rfl⟩ := r
    exact call_range_1 (range_itA I1 (by simpa using q))
theorem pi_range2A {a b : Expr} {ta : TA} {p pos : Pos} (hg : Gl X "range") (hm : X.mg "range" = none) (ha : PA X [a, b] ta) (hs : starEach [a, b] X.env = [(false, eval a X.env), (false, eval b X.env)] := by rfl) (hs2 : starEach [b] X.env = [(false, eval b X.env)] := by rfl) :
    PI X tg (.Call (.Name "range" p) [a, b] [] pos) (iRng2A ta) := by
  refine ⟨fun pins s σ H R I h => ?_⟩
  refine Call_ (ld_blt I hg hm boot_range (PyProof.Rows.callWith_type1 (thn (ha.run pos pins s σ H _ I h) fun us s1 ⟨vs, H1, I1, r1, q1⟩ => ?_) (by rw [hs, hs2]) (by rw [hs2]; rfl)))
  obtain ⟨i, j, e, q⟩ := q1
  subst e
  cases r1 with
  | cons r rr =>
    cases rr with
    | cons r' rr =>
      cases rr
      obtain ⟨t, rfl⟩ := r
      obtain ⟨t', rfl⟩ := r'
      exact call_range_2 (range_itA I1 q)
end
end R

set_option autoImplicit false
namespace R
open PySem PySem.Spec PyProof.Rows L2
/-! ## RG: promises of defs that stand where nothing is being shown (no repr under way) -/
structure RmG (k : Nat) (A : Around) : Prop where
  rm : Room k A
  gu : A.guards = some []
theorem RmG.mono {j k : Nat} {A : Around} (r : RmG j A) (h : j ≤ k) (r2 : Room k A) : RmG k A := ⟨r2, r.gu⟩
theorem RmG.less {j k : Nat} {A : Around} (r : RmG k A) (h : j ≤ k) : RmG j A := ⟨r.rm.mono h, r.gu⟩
theorem make_guards {A : Around} {C : Addr} {us : List Value} {kw : List (Str × Value)} : (A.under (.builtin "type.__call__" ⟨.ref C :: us, kw⟩)).guards = A.guards := by
  have no : (Code.builtin "type.__call__" ⟨.ref C :: us, kw⟩).isGuard = false := by
    show guardIds.contains "type.__call__" = false
    decide +kernel
  have e : (Code.builtin "type.__call__" ⟨.ref C :: us, kw⟩).guards = [] := by
    unfold Code.guards
    rw [no]
    rfl
  unfold Around.under
  dsimp only
  rw [e]
  cases A.guards <;> rfl
theorem RmG.make {k : Nat} {A : Around} (r : RmG (k + 1) A) (C : Addr) (us : List Value) (kw : List (Str × Value)) : RmG k (A.under (.builtin "type.__call__" ⟨.ref C :: us, kw⟩)) := ⟨r.rm.make C us kw, make_guards.trans r.gu⟩
structure FnG (P : Program) (w : World) (K : PySem.W.Frag) (mg : Str → Option Value) (base : Heap) (Cx0 : CXT) (k : Nat) (f : Addr) (fd : FuncData) (ps : List Str) (sp : Sp) : Prop where
  len : ∀ vs H Q E, sp vs H Q E → vs.length = ps.length
  run : ∀ (A : Around) (out : List Env) (s : Shared) (H : Hp) (args : Args) (us : List Value) (vs : List V) (Q : VK) (E : XK), RmG k A → Env0 P w K mg base A out s H → BindsTo s fd args (ps.zip us) → Vals vs us → sp vs H Q E → codeAny (model P w) A (.call (.ref f) args) (CR Cx0 out P w H s Q E) s
theorem FnG.mono {P : Program} {w : World} {K : PySem.W.Frag} {mg : Str → Option Value} {base : Heap} {Cx0 : CXT} {j k : Nat} {f : Addr} {fd : FuncData} {ps : List Str} {sp : Sp} (F : FnG P w K mg base Cx0 j f fd ps sp) (h : j ≤ k) : FnG P w K mg base Cx0 k f fd ps sp :=
  ⟨F.len, fun A out s H args us vs Q E g => F.run A out s H args us vs Q E (g.less h)⟩
section
variable {X : Cx} {Cx0 : CXT} {k : Nat} {f : Addr} {fd : FuncData} {ps : List Str} {sp : Sp} {E : L2.St → XK} {x : Str} {p pos : Pos} {e : Expr} {es : List Expr} {t : TA}
theorem run_G {pins : List (Addr × Obj)} {σ : L2.St} {H : Hp} {s : Shared} {Q : VK} {us : List Value} {vs : List V} (F : FnG X.prog X.w X.K X.mg X.base Cx0 k f fd ps sp) (g : RmG k X.A) (bi : Binds X.K fd ps []) (pa : PassesAt Cx0 X σ (E σ)) (I : Inv X pins σ H s) (rv : Vals vs us) (w : sp vs H Q (E σ)) :
    wpAny (model X.prog X.w) X.A (call (.ref f) us) (EP X pins σ Q) X.xe s := by
  have n : us.length = ps.length := rv.length ▸ F.len _ _ _ _ w
  have b := bi s us I.kIn ((congrArg List.length (List.append_nil us)).trans n)
  rw [List.append_nil] at b
  refine wpAny_call (codeAny_mono (F.run X.A X.stack s H ⟨us, []⟩ us vs Q (E σ) g I.env0 b rv w) fun o s' c => ?_)
  match o, c with
  | .error z, c => exact pa pins H s z s' I c
  | .ok (.ret z), c => exact I.after c
  | .ok .next, c => exact c.elim
  | .ok .brk, c => exact c.elim
  | .ok .cont, c => exact c.elim
theorem pe_callG (F : FnG X.prog X.w X.K X.mg X.base Cx0 k f fd ps sp) (g : RmG k X.A) (gl : Gl X x) (gm : X.mg x = some (.ref f)) (kp : PySem.W.keepIn X.K (.ref f) = true) (bi : Binds X.K fd ps []) (pa : ∀ σ, PassesAt Cx0 X σ (E σ)) (aa : PA X (e :: es) t) (db : (x == ("__debug__" : Str)) = false)
    (st : starEach (e :: es) X.env = (false, eval e X.env) :: starEach es X.env) (pl : (backTo pos (starEach es X.env)).any (·.1) = false) : PE X (.Call (.Name x p) (e :: es) [] pos) (tCallS sp E t) :=
  ⟨fun pins s σ H Q I w => wpAny_Call_Name_kw (ld_glob I gl gm (PySem.W.callWith_K (h₀ := X.base) I.ok.mod.kin kp (thn (aa.run pos pins s σ H _ I w) fun us s1 ⟨vs, H1, I1, r, q⟩ => ⟨I1.kIn, run_G F g bi (pa σ) I1 r q⟩) st pl) db)⟩
end
/-- a def of the text by its body -/
theorem fn_G {Cx0 : CXT} {P : Program} {w : World} {K : PySem.W.Frag} {mg : Str → Option Value} {base : Heap} {k : Nat} {f : Addr} {nm qual : Str} {prm : Arguments} {body : List Stmt} {sc : Scope} {dV kV doc pm cdv ct oc : Value} {an od : Option Addr} {osl : Array (Option Value)} {N ps : List Str} {sp : Sp}
    (lk : K.lookup f = some ⟨oc, od, .func (PySem.W.fnOf nm qual prm body sc dV kV doc pm an cdv ct), osl⟩) (co : PySem.W.codeIn K cdv qual = true) (S : FnScope N ps sc) (len : ∀ vs H Q E, sp vs H Q E → vs.length = ps.length)
    (bd : ∀ (A : Around) (out : List Env) (s : Shared) (H : Hp) (vs : List V) (Q : VK) (E : XK), RmG k (A.deeper (envOfC qual sc s.heap.objs.size f cdv)) → sp vs H Q E → ∃ t, PSs (cxOf Cx0 P w K mg base N qual sc f cdv A out s H E) body t ∧ t { nx := fun _ H' => Q .non H', rt := Q } (start N vs) H) :
    FnG P w K mg base Cx0 (k + 1) f (PySem.W.fnOf nm qual prm body sc dV kV doc pm an cdv ct) ps sp := by
  refine ⟨len, fun A out s H args us vs Q E g e0 bi rv w0 => ?_⟩
  have kin : K.In s.heap := e0.mod.kin.keeps fun b o z => (e0.bs b o z).1
  have lim : s.heap.NoLimit := e0.mod.nolimit.keeps fun b o z => (e0.bs b o z).1
  have knd : ∀ y ∈ ps.zip us, sc.names.lookup y.1 = some .local ∨ (sc.names.lookup y.1 = some .cell ∧ ((cellsFrom (s.heap.objs.size + 1) sc.names []).lookup y.1).isSome = true) := by
    rintro ⟨n, v⟩ hy
    exact (S.par n (List.of_mem_zip hy).1).imp id fun q => ⟨q, PySem.W.cellsFrom_some _ _ _ (.inl q)⟩
  refine codeAny_call_function g.rm.depth (kin _ _ lk) rfl S.co S.gen rfl (PySem.W.codeRec_of kin co) (bi _ _ _ _ (wpAny_newFunctionEnv_cells S.kind knd fun env he s1 x => ?_))
  subst he
  refine ⟨lim.keeps x.toInCall.keep, codeAny_func ?_⟩
  obtain ⟨t, pt, wt⟩ := bd A out s H vs Q E ⟨g.rm.deeper _, g.gu⟩ w0
  have I : Inv (cxOf Cx0 P w K mg base N qual sc f cdv A out s H E) [] (start N vs) H s1 := inv_start S g.rm.hd e0 (len _ _ _ _ w0) rv x
  refine wpAny_mono (pt.run [] s1 (start N vs) H _ I wt) (fun fl s' hs => ?_) fun _ _ z => z
  have fin : ∀ {σ' : L2.St} {H' : Hp} {v : V} {u : Value}, Inv (cxOf Cx0 P w K mg base N qual sc f cdv A out s H E) [] σ' H' s' → RelV v u → Q v H' → CE out P w H s Q u s' := fun {σ' H' v u} J rv q => ⟨v, H', J.os, J.bare, J.base, J.hok, rv, q⟩
  match fl, hs with
  | .ret u, ⟨v, σ', H', J, rv, q⟩ => exact fin J rv q
  | .next, ⟨σ', H', J, q⟩ => exact fin (v := V.non) (u := Value.none) J rfl q
  | .brk, ⟨_, _, _, q⟩ => exact q.elim
  | .cont, ⟨_, _, _, q⟩ => exact q.elim
theorem Fun_G {P : Program} {w : World} {K : PySem.W.Frag} {mg : Str → Option Value} {base : Heap} {x qual : Str} {st : Stmt} {f : Addr} {fd : FuncData} {N ps : List Str} {k : Nat} {sp : Sp} (F : Fun K x qual st f fd) (S : FnScope N ps (defScope st)) (len : ∀ vs H Q E, sp vs H Q E → vs.length = ps.length)
    (bd : ∀ (cdv : Value) (A : Around) (out : List Env) (s : Shared) (H : Hp) (vs : List V) (Q : VK) (E : XK), RmG k (A.deeper (envOfC qual (defScope st) s.heap.objs.size f cdv)) → sp vs H Q E →
      ∃ t, PSs (cxOf (L2.CX P w) P w K mg base N qual (defScope st) f cdv A out s H E) (defBody st) t ∧ t { nx := fun _ H' => Q .non H', rt := Q } (start N vs) H) : FnG P w K mg base (L2.CX P w) (k + 1) f fd ps sp := by
  obtain ⟨_, _, _, _, _, _, cdv, _, _, rfl, lk, co⟩ := F.ex
  exact fn_G lk co S len fun A out s H vs Q E => bd cdv A out s H vs Q E
/-- the head: the law's promise behind the top -/
theorem law_G {P : Program} {w : World} {K : PySem.W.Frag} {mg mb : Str → Option Value} {Cx0 : CXT} {k : Nat} {fa a : Addr} {fd : FuncData} {x : Str} {sp : Sp} {s₁ : Shared} {vs : List Value} {ns : List Int} (kin : K.In s₁.heap) (hns : s₁.heap.Ns mainGlobals mg) (hb : s₁.heap.Ns builtinsNs mb)
    (hbb : ∀ y : Str, y ≠ "__name__" → mb y = bootBuiltins y) (lim : s₁.heap.NoLimit) (hg : s₁.gens = #[]) (ha : s₁.heap.get? a = some { cls := .type "list", data := .seq vs.toArray }) (hi : IntsAre vs ns) (hl : ns.length ≤ sizeLine) (hr : Room k callerA)
    (F : ∀ base : Heap, K.In base → base.Ns mainGlobals mg → FnG P w K mg base Cx0 k fa fd [x] sp) (bi : ∀ (s : Shared) (u : Value), BindsTo s fd ⟨[u], []⟩ [(x, u)])
    (hsp : ∀ H : Hp, Only H → SqL K H a (ns.map V.int) → sp [.ref a] H (fun v _ => v = .bl true) fun _ _ _ => False) (hCX : ∀ H e s', Cx0 [] H s₁ (fun _ _ _ => False) e s' → False) :
    codeAny (model P w) callerA (.call (.ref fa) ⟨[.ref a], []⟩) (fun r s' => r = .ok (.ret (.bool true)) ∧ OldK s₁.heap s'.heap ∧ s'.os = s₁.os ∧ AllBare s'.gens) s₁ := by
  have rv := vals_ints hi
  have nl := hi.length
  have core : ∀ H : Hp, Only H → SqL K H a (ns.map V.int) → HOk P w H s₁.heap → (∀ b, H b ≠ none → b = a) → (H a ≠ none → K.lookup a = none) → codeAny (model P w) callerA (.call (.ref fa) ⟨[.ref a], []⟩) (fun r s' => r = .ok (.ret (.bool true)) ∧ OldK s₁.heap s'.heap ∧ s'.os = s₁.os ∧ AllBare s'.gens) s₁ := by
    intro H only sq ok one non
    have dict0 : ∀ {b : Addr} {o : Obj} {es : Array DictEntry} {ep : Nat}, s₁.heap.get? b = some o → o.data = .dict es ep → H b = none := by
      intro b o es ep h1 h2
      match q : H b with
      | none => rfl
      | some u =>
        obtain rfl := one b (by rw [q]; exact fun z => nomatch z)
        have h3 : o.data = Data.seq vs.toArray vs.toArray.size ∨ True := .inr trivial
        rw [ha] at h1
        cases h1
        cases h2
    have toT : ∀ {b : Addr} {m : Str → Option Value}, s₁.heap.Ns b m → (hidT s₁.heap H).Ns b m := by
      rintro b m ⟨o, es, ep, h1, h2, h3⟩
      exact ⟨o, es, ep, hidT_get h1 (dict0 h1 h2), h2, h3⟩
    have kT : K.In (hidT s₁.heap H) := by
      intro b o h1
      refine hidT_get (kin b o h1) ?_
      match q : H b with
      | none => rfl
      | some u =>
        have nz : H b ≠ none := by rw [q]; exact fun z => nomatch z
        obtain rfl := one b nz
        have h2 := non nz
        rw [h1] at h2
        cases h2
    have md : Mod K mg (hidT s₁.heap H) := by
      obtain ⟨mc, h1, h2⟩ := lim
      exact ⟨kT, toT hns, ⟨mb, toT hb, hbb⟩, ⟨mc, toT h1, h2⟩⟩
    have ev : Env0 P w K mg (hidT s₁.heap H) callerA [] s₁ H := ⟨rfl, md, fun b o z => of_hidT z, Nat.le_of_eq (hidT_size _ _), trivial, fun b z => absurd z (fun y => nomatch (show b ∈ ([] : List Addr) from y)), ok, .of_eq hg⟩
    refine codeAny_mono ((F _ kT (toT hns)).run callerA [] s₁ H ⟨[.ref a], []⟩ [.ref a] [.ref a] _ _ ⟨hr, rfl⟩ ev (bi s₁ (.ref a)) (.cons rfl .nil) (hsp H only sq)) fun r s' h => ?_
    match r, h with
    | .error z, h => exact (hCX H z s' h).elim
    | .ok .next, h => exact h.elim
    | .ok .brk, h => exact h.elim
    | .ok .cont, h => exact h.elim
    | .ok (.ret u), ⟨v, H', eo, bare, un, ok', r', q⟩ =>
      obtain rfl : v = V.bl true := q
      obtain rfl : u = Value.bool true := r'
      refine ⟨rfl, OldK.of_keep fun b o h1 => ?_, eo, bare⟩
      match q : H b with
      | none => exact un.keep b o h1 q (fun y => nomatch (show b ∈ ([] : List Addr) from y)) (fun y => nomatch y)
      | some u =>
        rcases only b with z | ⟨ob, xs, z⟩
        · rw [q] at z
          cases z
        · obtain ⟨e1, _⟩ := ok b _ z
          obtain ⟨e2, _⟩ := ok' b _ (un.frzs b ob _ z)
          rw [h1] at e1
          cases e1
          exact e2
  match hk : K.lookup a with
  | some o =>
    have z := kin a o hk
    rw [ha] at z
    cases z
    refine core (fun _ => none) (fun _ => .inl rfl) (.inr ⟨_, vs.toArray, _, hk, rfl, rfl, rfl, by rw [List.size_toArray, nl]; exact hl, by simpa using rv⟩) (fun b u z => nomatch (show (none : Option HO) = some u from z)) (fun b z => absurd rfl z) fun z => absurd rfl z
  | none =>
    refine core (fun b => if b = a then some (.frz { cls := .type "list", data := .seq vs.toArray } (.lst (ns.map V.int))) else none) (fun b => ?_) (.inl (.inr ⟨{ cls := .type "list", data := .seq vs.toArray }, if_pos rfl⟩)) (fun b u z => ?_) (fun b z => ?_) fun _ => hk
    · by_cases q : b = a
      · exact .inr ⟨_, _, if_pos q⟩
      · exact .inl (if_neg q)
    · by_cases q : b = a
      · have z2 := (if_pos q).symm.trans z
        cases z2
        subst q
        exact ⟨ha, by rw [List.length_map]; exact hl, vs, _, rv, ha⟩
      · have z2 := (if_neg q).symm.trans z
        cases z2
    · by_cases q : b = a
      · exact q
      · exact absurd (if_neg q) z
theorem walk_G {l : PySem.W.OpenLaw} {n k : Nat} {q : Program} {loose : List Str} {XP : (Str → Option Value) → Heap → Prop} {YP : World → Heap → Prop} {d : DefRec} {K : Params → PySem.W.Frag} {Cx0 : World → CXT} {sp : World → Sp} {x : Str} (hn : l.most = some n) (hn2 : n ≤ sizeLine) (hdf : d.params.defaults = [])
    (hr : Room k callerA) (hY : ∀ (w : World) (h : Heap), YP w h → (K w.params).In h)
    (F : ∀ (w : World) (mg : Str → Option Value) (fa : Addr) (h : Heap), (K w.params).In h → h.Ns mainGlobals mg → mg d.name = some (.ref fa) → ∃ fd : FuncData, (∀ (s : Shared) (u : Value), BindsTo s fd ⟨[u], []⟩ [(x, u)]) ∧ ∀ base : Heap, (K w.params).In base → base.Ns mainGlobals mg → FnG l.prog w (K w.params) mg base (Cx0 w) k fa fd [x] (sp w))
    (hsp : ∀ (w : World) (H : Hp) (a : Addr) (ns : List Int), ns.length ≤ n → (∀ z ∈ ns, Builtin.Int.intBits z ≤ 1048576) → Only H → SqL (K w.params) H a (ns.map V.int) → sp w [.ref a] H (fun v _ => v = .bl true) fun _ _ _ => False)
    (hCX : ∀ (w : World) (H : Hp) (s : Shared) (e : Value) (s' : Shared), Cx0 w [] H s (fun _ _ _ => False) e s' → False) : PySem.W.WalkO q loose XP YP l.row.toRowW d [] (fun f vs => PySem.call f vs) := by
  refine Att.attach_callB hn hdf fun w s₀ s₁ mg mb fa o pm cd doc a vs ns G Y ho hd hcd hmg hobj hints hlen hbits hg => ?_
  have kin := hY w _ Y
  obtain ⟨fd, bi, hF⟩ := F w mg fa _ kin G.T.g hmg
  exact law_G kin G.T.g G.T.b G.T.builtins G.T.nolimit hg hobj hints (Nat.le_trans hlen hn2) hr hF bi (fun H h1 h2 => hsp w H a ns hlen hbits h1 h2) fun H e s' => hCX w H s₁ e s'
end R

set_option autoImplicit false
namespace R
open PySem PySem.Spec PyProof.Rows L2
/-! ## R2: the small language and what its parts come to -/

/-- built-in functions and classes, called by their names -/
inductive Bf where
  | len | int | bool | str | tuple | list | abs | min2 | max2 | sum | all | any | sorted | min1 | max1 | repr
  deriving DecidableEq
/-- what is gone through -/
inductive Ik where
  | seq | rng1 | rng2 | rng3 | zip | enum | rev | seqS | zipS
  deriving DecidableEq
/-- a target -/
inductive Tg where
  | one (i : Nat) | many (is : List Nat)
  deriving DecidableEq

inductive E where
  | non | bl (b : Bool) | int (i : Int) | str (x : Str)
  | var (i : Nat) | bor (i : Nat) | glo (x : Str) | skip
  | tup (es : List E) | lst (es : List E)
  | bin (op : Operator) (a b : E) | neg (a : E)
  | cmp (op : CmpOp) (a b : E) | chain (op op' : CmpOp) (a b c : E)
  | and (a b : E) | or (a b : E) | not (a : E) | ite (c a b : E)
  | idx (a i : E) | sli (a lo hi : E)
  | call (f : Str) (es : List E) | blt (f : Bf) (es : List E)
  | isi (a : E) (tys : List String)
  | lc (elt : E) (tg : Tg) (own : List Nat) (k : Ik) (es : List E) (cs : List E)
  | attr (a : E) (f : Str)
  | dct (ks : List Key) (es : List E)
  | fld (a : E) (f : Str) | meth (a : E) (m : Str) (es : List E) | mk (c : Str) (es : List E) | shr (a : E)
  | join (o e : E) | lrg (a b : E) | isc (a : E) (c : Str)
  | isx (i : Nat) (c : Str) | sset (a : E) | bix (k : Bool) (a : E) | eqI (a b : E)

abbrev VH := List VO
abbrev VE := List Slot
inductive Out where
  | ok (x : DV) | exc (c : Str) (xs : List D)
structure VSp where
  run : List D → VH → (Out → VH → Prop) → Prop
  mono : ∀ (ds : List D) (vh : VH) (R R' : Out → VH → Prop), (∀ o h, R o h → R' o h) → run ds vh R → run ds vh R'
  ex : Prop
/-- a promise by what comes out -/
def det (s : List D → VH → Out → VH → Prop) : VSp := ⟨fun ds vh R => ∃ o h, s ds vh o h ∧ R o h, fun ds vh R R' f ⟨o, h, a, b⟩ => ⟨o, h, a, f o h b⟩, True⟩
abbrev Fns := Str → VSp
abbrev Cns := Str → Option D
/-- what is wanted of an exception -/
abbrev XP := Str → List D → VE → VH → Prop
abbrev QE := DV → VE → VH → Prop

/-- a slot's value, read for its items alone -/
def Slot.ld : Slot → Option D
  | .no => none
  | .val d => some d
  | .own ds => some (.lst ds)
def Slot.ok : Slot → Prop
  | .no => False
  | _ => True
/-- an operand: data, or what a slot holds -/
inductive Op where
  | dat (d : D) | slt (i : Nat)
def deref (vh : VH) : D → Option D
  | .ref n => match vh[n]? with
    | some (.lst xs) => some (.lst xs)
    | some (.dct ks xs) => some (.dct ks xs)
    | _ => none
  | d => some d
def Op.ld (env : VE) (vh : VH) : Op → Option D
  | .dat x => deref vh x
  | .slt i => match env[i]? with
    | some s => match s.ld with
      | some d => deref vh d
      | none => none
    | none => none
/-- an operand as it is -/
def Op.raw (env : VE) : Op → Option D
  | .dat x => some x
  | .slt i => match env[i]? with
    | some (.val d) => some d
    | _ => none
def ldAll (env : VE) (vh : VH) : List Op → Option (List D)
  | [] => some []
  | x :: xs => match x.ld env vh, ldAll env vh xs with
    | some d, some ds => some (d :: ds)
    | _, _ => none

/-! ### truth, equality, operators -/
def truD : D → Option Bool
  | .non => some false
  | .bl b => some b
  | .int i => some (i != 0)
  | .str x => if x.length ≤ 16777216 then some ((x.length : Int) != 0) else none
  | .tup xs => some (!xs.isEmpty)
  | .lst xs => some (!xs.isEmpty)
  | .dct ks xs => some (!xs.isEmpty)
  | _ => none

mutual
def eqD : D → D → Bool
  | .non, .non => true
  | .bl a, .bl b => a == b
  | .bl a, .int j => (if a then 1 else 0) == j
  | .int i, .bl b => i == (if b then 1 else 0)
  | .int i, .int j => i == j
  | .str x, .str y => x == y
  | .lst xs, .lst ys => eqDs xs ys
  | .tup xs, .tup ys => eqDs xs ys
  | _, _ => false
def eqDs : List D → List D → Bool
  | [], [] => true
  | x :: xs, y :: ys => eqD x y && eqDs xs ys
  | _, _ => false
end
mutual
/-- data that == looks at as data, at most so deep -/
def okD : Nat → D → Bool
  | _, .non => true
  | _, .bl _ => true
  | _, .int _ => true
  | _, .str x => PyData.canLay0 (.str x)
  | n + 1, .lst xs => okDs n xs
  | n + 1, .tup xs => okDs n xs
  | _, _ => false
def okDs : Nat → List D → Bool
  | _, [] => true
  | n, x :: xs => okD n x && okDs n xs
end

mutual
def toP : D → PyData
  | .bl b => .bool b
  | .int i => .int i
  | .str x => .str x
  | .lst xs => .list (toPs xs)
  | .tup xs => .tuple (toPs xs)
  | _ => .none
def toPs : List D → List PyData
  | [] => []
  | x :: xs => toP x :: toPs xs
end
/-- repr shows it -/
def rpD (d : D) : Prop := okD 64 d = true ∧ (toP d).showable = true ∧ (toP d).shown.length ≤ 16777216
/-- == looks at both -/
def eqOk (x y : D) : Prop := (okD 64 x = true ∧ okD 64 y = true) ∨ ∃ a b, x = .str a ∧ y = .str b
def mulOk (i j : Int) : Prop := (-(2 ^ 64) < i ∧ i < 2 ^ 64) ∨ (-(2 ^ 64) < j ∧ j < 2 ^ 64) ∨ i.natAbs.log2 + j.natAbs.log2 < 1000000

def wpBin (op : Operator) (a b : D) (Q : DV → Prop) : Prop := match op, a, b with
  | .Add, .int i, .int j => Q (.v (.int (i + j)))
  | .Add, .str x, .str y => x.length + y.length ≤ 16777216 ∧ Q (.v (.str (x ++ y)))
  | .Add, .tup xs, .tup ys => xs.length + ys.length ≤ 16777216 ∧ Q (.v (.tup (xs ++ ys)))
  | .Add, .lst xs, .lst ys => xs.length + ys.length ≤ 16777216 ∧ Q (.fr (xs ++ ys))
  | .Sub, .int i, .int j => Q (.v (.int (i - j)))
  | .Mult, .int i, .int j => mulOk i j ∧ Q (.v (.int (i * j)))
  | .Mult, .str x, .int k => MulOk x k ∧ Q (.v (.str (Txt.mul x k)))
  | .Mult, .tup xs, .int k => -1000 ≤ k ∧ k ≤ 1000 ∧ xs.length ≤ 1000 ∧ Q (.v (.tup (List.replicate k.toNat xs).flatten))
  | .Mult, .lst xs, .int k => (-(2 ^ 62) < k ∧ k < 2 ^ 62 ∧ xs.length * k.toNat ≤ 16777216) ∧ Q (.fr (List.replicate k.toNat xs).flatten)
  | .FloorDiv, .int i, .int j => (0 < j ∧ j.natAbs.log2 < 9000) ∧ Q (.v (.int (i / j)))
  | .Mod, .int i, .int j => 0 < j ∧ Q (.v (.int (i % j)))
  | .Pow, .int i, .int j => (0 ≤ j ∧ j ≤ 1000000 ∧ i.natAbs < 2 ^ 64) ∧ Q (.v (.int (i ^ j.toNat)))
  | _, _, _ => False

def isNon : D → Bool
  | .non => true
  | _ => false
@[reducible] def isB : D → Bool → Bool
  | .bl a, b => decide (a = b)
  | _, _ => false
def flatD : D → Bool
  | .non => true
  | .bl _ => true
  | .int _ => true
  | .str _ => true
  | _ => false
def inD (x : D) (xs : List D) : Bool := xs.any fun y => eqD y x

def wpCmp (op : CmpOp) (a b : D) (Q : Bool → Prop) : Prop := match op, a, b with
  | .Eq, x, y => eqOk x y ∧ Q (eqD x y)
  | .NotEq, x, y => eqOk x y ∧ Q (!eqD x y)
  | .Lt, .int i, .int j => Q (decide (i < j))
  | .LtE, .int i, .int j => Q (decide (i ≤ j))
  | .Gt, .int i, .int j => Q (decide (j < i))
  | .GtE, .int i, .int j => Q (decide (j ≤ i))
  | .Is, x, .non => Q (isNon x)
  | .IsNot, x, .non => Q (!isNon x)
  | .Is, x, .bl b => Q (isB x b)
  | .IsNot, x, .bl b => Q (!isB x b)
  | .In, x, .tup xs => flatD x = true ∧ xs.all flatD = true ∧ Q (inD x xs)
  | .In, x, .lst xs => ((flatD x = true ∧ xs.all flatD = true) ∨ (okD 63 x = true ∧ okD 64 x = true ∧ okD 64 (.lst xs) = true)) ∧ Q (inD x xs)
  | .NotIn, x, .tup xs => flatD x = true ∧ xs.all flatD = true ∧ Q (!inD x xs)
  | .NotIn, x, .lst xs => flatD x = true ∧ xs.all flatD = true ∧ Q (!inD x xs)
  | .In, .str x, .str z => ∃ c : Nat, x = ⟨#[c]⟩ ∧ Q (decide (c ∈ z.cps.toList))
  | .NotIn, .str x, .str z => ∃ c : Nat, x = ⟨#[c]⟩ ∧ Q (!decide (c ∈ z.cps.toList))
  | _, _, _ => False

def wpIdx (a i : D) (Q : D → Prop) : Prop := match a, i with
  | .tup xs, .int k => ∃ d, atI xs k = some d ∧ Q d
  | .lst xs, .int k => ∃ d, atI xs k = some d ∧ Q d
  | .scr xs, .int k => ∃ d, atI xs k = some d ∧ Q (.int d)
  | .str x, .int k => x.length ≤ 16777216 ∧ ∃ c, atI x.cps.toList k = some c ∧ Q (.str ⟨#[c]⟩)
  | _, _ => False
def partD : DV → Option (Option Int)
  | .v (.int i) => some (some i)
  | .v .non => some none
  | _ => none
/-- xs[lo:hi] -/
def cutL {α : Type} (xs : List α) (lo hi : Option Int) : List α := (xs.drop (HT.sIx xs.length 0 lo)).take (HT.sIx xs.length xs.length hi - HT.sIx xs.length 0 lo)
def wpSli (a : D) (lo hi : Option Int) (Q : DV → Prop) : Prop := match a with
  | .tup xs => Q (.v (.tup (cutL xs lo hi)))
  | .lst xs => Q (.fr (cutL xs lo hi))
  | .scr xs => Q (.fr ((cutL xs lo hi).map D.int))
  | .str x => x.length ≤ 16777216 ∧ Q (.v (.str (cutS x lo hi)))
  | _ => False

def eNm (f : Str) : Str := ("%e." : Str) ++ f
/-- o.f -/
def wpAttr (Γ : Cns) (vh : VH) (d : D) (f : Str) (Q : D → Prop) : Prop := match d with
  | .adr a => Γ "%a" = some (.adr a) ∧ ∃ x, Γ (eNm f) = some x ∧ Q x
  | _ => False
/-- isinstance(e, c), e the error that the suite holds -/
def wpIsx (Γ : Cns) (d : D) (c : Str) (Q : Bool → Prop) : Prop := match d with
  | .adr a => Γ "%a" = some (.adr a) ∧ Γ "%n" = some (.int 0) ∧ ∃ anc : List Str, Γ "%c" = some (.tup (anc.map .str)) ∧ Q (anc.contains c)
  | _ => False
theorem wpIsx_mono {Γ : Cns} {d : D} {c : Str} {Q Q' : Bool → Prop} (f : ∀ b, Q b → Q' b) (h : wpIsx Γ d c Q) : wpIsx Γ d c Q' := by
  unfold wpIsx at *
  split at h
  · obtain ⟨p, q, anc, r, z⟩ := h
    exact ⟨p, q, anc, r, f _ z⟩
  · exact h
/-- an instance's attributes -/
def fldD (f : Str) : List Str → List D → Option D
  | n :: ns, x :: xs => if n = f then some x else fldD f ns xs
  | _, _ => none
def putN (f : Str) : List Str → List Str
  | [] => [f]
  | n :: ns => if n = f then n :: ns else n :: putN f ns
def putX (f : Str) (d : D) : List Str → List D → List D
  | n :: ns, x :: xs => if n = f then d :: xs else x :: putX f d ns xs
  | _, _ => [d]
/-- a method's name -/
def mN (c m : Str) : Str := c ++ ("." : Str) ++ m
/-- a value's built-in type -/
def tyD : D → Option String
  | .non => some "NoneType"
  | .bl _ => some "bool"
  | .int _ => some "int"
  | .str _ => some "str"
  | .tup _ => some "tuple"
  | .lst _ => some "list"
  | .scr _ => some "list"
  | .dct _ _ => some "dict"
  | _ => none
/-- the built-in types that isinstance is asked for -/
def okTy (b : String) : Bool := b == "int" || b == "bool" || b == "str" || b == "tuple" || b == "list" || b == "dict"
def isTy (a b : String) : Bool := a == b || (a == "bool" && b == "int")
def wpBlt (f : Bf) (ds : List D) (Q : DV → Prop) : Prop := match f, ds with
  | .len, [.tup xs] => Q (.v (.int xs.length))
  | .len, [.lst xs] => Q (.v (.int xs.length))
  | .len, [.scr xs] => Q (.v (.int xs.length))
  | .len, [.str x] => x.length ≤ 16777216 ∧ Q (.v (.int x.length))
  | .int, [.int i] => Q (.v (.int i))
  | .int, [.bl b] => Q (.v (.int (if b then 1 else 0)))
  | .tuple, [.lst xs] => Q (.v (.tup xs))
  | .tuple, [.tup xs] => Q (.v (.tup xs))
  | .list, [.lst xs] => Q (.fr xs)
  | .list, [.scr xs] => Q (.fr (xs.map D.int))
  | .list, [.tup xs] => Q (.fr xs)
  | .abs, [.int i] => Q (.v (.int (if i < 0 then -i else i)))
  | .min2, [.int i, .int j] => Q (.v (.int (if j < i then j else i)))
  | .max2, [.int i, .int j] => Q (.v (.int (if j > i then j else i)))
  | .all, [.lst xs] => ∃ bs : List Bool, xs = bs.map D.bl ∧ Q (.v (.bl (bs.all id)))
  | .any, [.lst xs] => ∃ bs : List Bool, xs = bs.map D.bl ∧ Q (.v (.bl (bs.any id)))
  | .sorted, [.lst xs] => ∃ ns : List Int, xs = ns.map D.int ∧ ∀ ns' : List Int, ns'.Perm ns → ns'.Pairwise (· ≤ ·) → Q (.fr (ns'.map D.int))
  | .min1, [.lst xs] => ∃ ns : List Int, xs = ns.map D.int ∧ 0 < ns.length ∧ ∀ m, m ∈ ns → (∀ y, y ∈ ns → m ≤ y) → Q (.v (.int m))
  | .max1, [.lst xs] => ∃ ns : List Int, xs = ns.map D.int ∧ 0 < ns.length ∧ ∀ m, m ∈ ns → (∀ y, y ∈ ns → y ≤ m) → Q (.v (.int m))
  | .sum, [.scr ns] => Q (.v (.int ns.sum))
  | .str, [.int i] => i.natAbs.log2 < 1920 ∧ Q (.v (.str (Str.ofString (toString i))))
  | .int, [.str x] => ∃ n : Int, PySem.intText? x = some n ∧ x.length ≤ 640 ∧ Q (.v (.int n))
  | .sum, [.lst xs] => ∃ ns : List Int, xs = ns.map D.int ∧ Q (.v (.int ns.sum))
  | .repr, [d] => rpD d ∧ Q (.v (.str (toP d).shown))
  | _, _ => False

/-- the items that are gone through -/
def itemsD (k : Ik) (ds : List D) : Option (List D) := match k, ds with
  | .seq, [.tup xs] => some xs
  | .seq, [.lst xs] => some xs
  | .seq, [.scr xs] => some (xs.map D.int)
  | .seq, [.str x] => some (x.cps.toList.map fun c => D.str ⟨#[c]⟩)
  | .rng1, [.int n] => some ((List.range n.toNat).map fun (i : Nat) => D.int (i : Int))
  | .rng2, [.int a, .int b] => some ((List.range (b - a).toNat).map fun (i : Nat) => D.int (a + (i : Int)))
  | .rng3, [.int a, .int b, .int c] => if c = -1 ∧ -(2 ^ 62) ≤ a ∧ a < 2 ^ 62 ∧ -(2 ^ 62) ≤ b ∧ b < 2 ^ 62 then some ((List.range (a - b).toNat).map fun (i : Nat) => D.int (a - (i : Int))) else none
  | .zip, [.lst xs, .lst ys] => some (List.zipWith (fun x y => D.tup [x, y]) xs ys)
  | .zip, [.tup xs, .tup ys] => some (List.zipWith (fun x y => D.tup [x, y]) xs ys)
  | .enum, [.tup xs] => some (List.zipWith (fun (i : Nat) x => D.tup [.int (i : Int), x]) (List.range xs.length) xs)
  | .enum, [.lst xs] => some (List.zipWith (fun (i : Nat) x => D.tup [.int (i : Int), x]) (List.range xs.length) xs)
  | _, _ => none
/-- a shared list's items -/
def drf (h : VH) : D → D
  | .ref n => match h[n]? with
    | some (.lst xs) => .lst xs
    | _ => .ref n
  | d => d
def itemsV (k : Ik) (h : VH) (ds : List D) : Option (List D) := match k with
  | .seqS => itemsD .seq (ds.map (drf h))
  | .zipS => itemsD .zip (ds.map (drf h))
  | .zip => match ds with
    | [.tup xs, .lst ys] => some (List.zipWith (fun x y => D.tup [x, y]) xs ys)
    | [.lst xs, .tup ys] => some (List.zipWith (fun x y => D.tup [x, y]) xs ys)
    | ds => itemsD .zip ds
  | k => itemsD k ds
/-- what is gone through stays as it is -/
def stl (k : Ik) (ds : List D) (h0 : VH) : VH → Prop := match k with
  | .seqS => fun h => ∀ n, D.ref n ∈ ds → h[n]? = h0[n]?
  | .zipS => fun h => ∀ n, D.ref n ∈ ds → h[n]? = h0[n]?
  | _ => fun _ => True
def setAllE (env : VE) : List Nat → List D → Option VE
  | [], [] => some env
  | i :: is, d :: ds => setAllE (env.set i (.val d)) is ds
  | _, _ => none
def bindT (tg : Tg) (d : D) (env : VE) : Option VE := match tg, d with
  | .one i, d => some (env.set i (.val d))
  | .many is, .tup ds => setAllE env is ds
  | _, _ => none
def wipeE (env : VE) : List Nat → VE
  | [] => env
  | i :: is => (wipeE env is).set i .no

def noOwn (env : VE) : List Nat → Prop
  | [] => True
  | j :: js => (match env[j]? with
    | some (.own _) => False
    | _ => True) ∧ noOwn env js

/-- a value as it is wanted: itself, or its truth -/
def fin (t : Bool) (x : DV) (env : VE) (vh : VH) (Q : QE) : Prop := match t with
  | false => Q x env vh
  | true => ∃ k, (deref vh x.d).bind truD = some k ∧ Q (.v (.bl k)) env vh
def finB (t : Bool) (b : Bool) (env : VE) (vh : VH) (Q : QE) : Prop := Q (.v (.bl b)) env vh
def ifP (b : Bool) (p q : Prop) : Prop := match b with
  | true => p
  | false => q

/-- a comprehension's turns -/
def lcGo (turn : D → VH → (Option D → VH → Prop) → Prop) : List D → VH → List D → (List D → VH → Prop) → Prop
  | [], h, acc, Q => Q acc h
  | d :: ds, h, acc, Q => turn d h fun o h' => match o with
    | some y => acc.length < 16777216 ∧ lcGo turn ds h' (acc ++ [y]) Q
    | none => lcGo turn ds h' acc Q

/-- an operand: a slot that is read for its items, or a value -/
def asO (e : E) (w : XP → Bool → VE → VH → QE → Prop) (K : XP) (env : VE) (vh : VH) (Q : Op → VE → VH → Prop) : Prop := match e with
  | .bor i => (∃ s, env[i]? = some s ∧ s.ok) ∧ Q (.slt i) env vh
  | _ => w K false env vh fun x e1 h1 => Q (.dat x.d) e1 h1
mutual
/-- what an expression comes to; t: as a test -/
def wpE (Φ : Fns) (Γ : Cns) : E → XP → Bool → VE → VH → QE → Prop
  | .non, K, t, env, vh, Q => fin t (.v .non) env vh Q
  | .bl b, K, t, env, vh, Q => fin t (.v (.bl b)) env vh Q
  | .int i, K, t, env, vh, Q => fin t (.v (.int i)) env vh Q
  | .str x, K, t, env, vh, Q => fin t (.v (.str x)) env vh Q
  | .skip, K, t, env, vh, Q => fin t (.v .non) env vh Q
  | .var i, K, t, env, vh, Q => ∃ s, env[i]? = some s ∧ match s with
    | .no => False
    | .val d => fin t (.v d) env vh Q
    | .own ds => fin t (.v (.lst ds)) (env.set i (.val (.lst ds))) vh Q
  | .bor i, K, true, env, vh, Q => ∃ d k, (Op.slt i).ld env vh = some d ∧ truD d = some k ∧ Q (.v (.bl k)) env vh
  | .bor i, K, false, env, vh, Q => False
  | .glo x, K, t, env, vh, Q => ∃ d, Γ x = some d ∧ fin t (.v d) env vh Q
  | .tup es, K, t, env, vh, Q => wpEs Φ Γ es K env vh fun ds e1 h1 => ds.length ≤ 16777216 ∧ fin t (.v (.tup ds)) e1 h1 Q
  | .lst es, K, t, env, vh, Q => wpEs Φ Γ es K env vh fun ds e1 h1 => ds.length ≤ 16777216 ∧ fin t (.fr ds) e1 h1 Q
  | .bin op a b, K, t, env, vh, Q => asO a (wpE Φ Γ a) K env vh fun x e1 h1 => asO b (wpE Φ Γ b) K e1 h1 fun y e2 h2 => ∃ c d, x.ld e2 h2 = some c ∧ y.ld e2 h2 = some d ∧ wpBin op c d fun z => fin t z e2 h2 Q
  | .neg a, K, t, env, vh, Q => wpE Φ Γ a K false env vh fun x e1 h1 => ∃ i, x = .v (.int i) ∧ fin t (.v (.int (-i))) e1 h1 Q
  | .cmp op a b, K, t, env, vh, Q => asO a (wpE Φ Γ a) K env vh fun x e1 h1 => asO b (wpE Φ Γ b) K e1 h1 fun y e2 h2 => ∃ c d, x.ld e2 h2 = some c ∧ y.ld e2 h2 = some d ∧ wpCmp op c d fun k => Q (.v (.bl k)) e2 h2
  | .chain op op' a b c, K, t, env, vh, Q => asO a (wpE Φ Γ a) K env vh fun x e1 h1 => asO b (wpE Φ Γ b) K e1 h1 fun y e2 h2 => ∃ d e, x.ld e2 h2 = some d ∧ y.ld e2 h2 = some e ∧ wpCmp op d e fun k =>
      ifP k (asO c (wpE Φ Γ c) K e2 h2 fun z e3 h3 => ∃ e f, y.ld e3 h3 = some e ∧ z.ld e3 h3 = some f ∧ wpCmp op' e f fun k => Q (.v (.bl k)) e3 h3) (Q (.v (.bl false)) e2 h2)
  | .and a b, K, true, env, vh, Q => wpE Φ Γ a K true env vh fun x e1 h1 => ∃ k, x = .v (.bl k) ∧ ifP k (wpE Φ Γ b K true e1 h1 Q) (Q (.v (.bl false)) e1 h1)
  | .and a b, K, false, env, vh, Q => wpE Φ Γ a K false env vh fun x e1 h1 => ∃ d k, x = .v d ∧ (deref h1 d).bind truD = some k ∧ ifP k (wpE Φ Γ b K false e1 h1 Q) (Q x e1 h1)
  | .or a b, K, true, env, vh, Q => wpE Φ Γ a K true env vh fun x e1 h1 => ∃ k, x = .v (.bl k) ∧ ifP k (Q (.v (.bl true)) e1 h1) (wpE Φ Γ b K true e1 h1 Q)
  | .or a b, K, false, env, vh, Q => wpE Φ Γ a K false env vh fun x e1 h1 => ∃ d k, x = .v d ∧ (deref h1 d).bind truD = some k ∧ ifP k (Q x e1 h1) (wpE Φ Γ b K false e1 h1 Q)
  | .not a, K, true, env, vh, Q => wpE Φ Γ a K true env vh fun x e1 h1 => ∃ k, x = .v (.bl k) ∧ Q (.v (.bl (!k))) e1 h1
  | .not a, K, false, env, vh, Q => asO a (wpE Φ Γ a) K env vh fun x e1 h1 => ∃ d k, x.ld e1 h1 = some d ∧ truD d = some k ∧ Q (.v (.bl (!k))) e1 h1
  | .ite c a b, K, t, env, vh, Q => wpE Φ Γ c K true env vh fun x e1 h1 => ∃ k, x = .v (.bl k) ∧ ifP k (wpE Φ Γ a K t e1 h1 Q) (wpE Φ Γ b K t e1 h1 Q)
  | .idx a i, K, t, env, vh, Q => asO a (wpE Φ Γ a) K env vh fun x e1 h1 => asO i (wpE Φ Γ i) K e1 h1 fun y e2 h2 => ∃ c d, x.ld e2 h2 = some c ∧ y.ld e2 h2 = some d ∧ wpIdx c d fun z => fin t (.v z) e2 h2 Q
  | .sli a lo hi, K, t, env, vh, Q => asO a (wpE Φ Γ a) K env vh fun x e1 h1 => wpE Φ Γ lo K false e1 h1 fun l e2 h2 => ∃ i, partD l = some i ∧ wpE Φ Γ hi K false e2 h2 fun u e3 h3 =>
      ∃ c j, x.ld e3 h3 = some c ∧ partD u = some j ∧ wpSli c i j fun z => fin t z e3 h3 Q
  | .call f es, K, t, env, vh, Q => wpEs Φ Γ es K env vh fun ds e1 h1 => (Φ f).run ds h1 fun o h2 => match o with
    | .ok x => fin t x e1 h2 Q
    | .exc c fs => K c fs e1 h2
  | .blt f es, K, t, env, vh, Q => wpOs Φ Γ es K env vh fun xs e1 h1 => ∃ ds, ldAll e1 h1 xs = some ds ∧ wpBlt f ds fun z => fin t z e1 h1 Q
  | .isi a tys, K, t, env, vh, Q => asO a (wpE Φ Γ a) K env vh fun x e1 h1 => ∃ d n, x.ld e1 h1 = some d ∧ tyD d = some n ∧ tys.all okTy = true ∧ fin t (.v (.bl (tys.any (isTy n)))) e1 h1 Q
  | .lc elt tg own k es cs, K, t, env, vh, Q => wpEs Φ Γ es K env vh fun ds e1 h1 => ∃ items, itemsV k h1 ds = some items ∧
      noOwn e1 own ∧
      lcGo (fun d h R => stl k ds h1 h ∧ ∃ e2, bindT tg d (wipeE e1 own) = some e2 ∧ wpTs Φ Γ cs e2 h fun b h3 => ifP b (wpE Φ Γ elt (fun _ _ _ _ => False) false e2 h3 fun x e4 h4 => e4 = e2 ∧ R (some x.d) h4) (R none h3)) items h1 [] fun acc h2 => stl k ds h1 h2 ∧ fin t (.fr acc) e1 h2 Q
  | .attr a f, K, t, env, vh, Q => asO a (wpE Φ Γ a) K env vh fun x e1 h1 => ∃ d, x.raw e1 = some d ∧ wpAttr Γ h1 d f fun z => fin t (.v z) e1 h1 Q
  | .dct ks es, K, t, env, vh, Q => wpEs Φ Γ es (fun _ _ _ _ => False) env vh fun ds e1 h1 => (ks.length = ds.length ∧ ks.length ≤ 15 ∧ ks.Nodup) ∧ fin t (.v (.dct ks ds)) e1 h1 Q
  | .fld a f, K, t, env, vh, Q => asO a (wpE Φ Γ a) K env vh fun x e1 h1 => ∃ n c ns xs, x.raw e1 = some (.ref n) ∧ h1[n]? = some (.ins c ns xs) ∧ ∃ y, fldD f ns xs = some y ∧ fin t (.v y) e1 h1 Q
  | .meth a m es, K, t, env, vh, Q => asO a (wpE Φ Γ a) K env vh fun x e1 h1 => ∃ n c ns xs, x.raw e1 = some (.ref n) ∧ h1[n]? = some (.ins c ns xs) ∧ (m ∉ ns ∧ (Φ (mN c m)).ex) ∧ wpEs Φ Γ es K e1 h1 fun ds e2 h2 => (Φ (mN c m)).run (.ref n :: ds) h2 fun o h3 => match o with
    | .ok x => fin t x e2 h3 Q
    | .exc c fs => K c fs e2 h3
  | .mk c es, K, t, env, vh, Q => wpEs Φ Γ es K env vh fun ds e1 h1 => (Φ (mN c "__init__")).run (.ref h1.length :: ds) (h1 ++ [.ins c [] []]) fun o h2 => match o with
    | .ok x => x = .v .non ∧ fin t (.v (.ref h1.length)) e1 h2 Q
    | .exc c fs => K c fs e1 h2
  | .shr a, K, t, env, vh, Q => wpE Φ Γ a K false env vh fun x e1 h1 => ∃ ds, x = .fr ds ∧ fin t (.v (.ref h1.length)) e1 (h1 ++ [.lst ds]) Q
  | .join o e, K, t, env, vh, Q => wpE Φ Γ o K false env vh fun x e1 h1 => ∃ a, x = .v (.str a) ∧ asO e (wpE Φ Γ e) K e1 h1 fun y e2 h2 => ∃ ys : List Str, y.ld e2 h2 = some (.lst (ys.map D.str)) ∧ (ys.map (·.length)).sum + ys.length * a.length ≤ 16777216 ∧ fin t (.v (.str (Txt.join a ys))) e2 h2 Q
  | .lrg a b, K, t, env, vh, Q => wpE Φ Γ a K false env vh fun x e1 h1 => ∃ i : Int, x = .v (.int i) ∧ wpE Φ Γ b K false e1 h1 fun y e2 h2 => ∃ j : Int, y = .v (.int j) ∧ (-1000000 < i ∧ i < 1000000 ∧ -1000000 < j ∧ j < 1000000) ∧ fin t (.fr ((List.range (j - i).toNat).map fun (k : Nat) => D.int (i + (k : Int)))) e2 h2 Q
  | .isc a c, K, t, env, vh, Q => asO a (wpE Φ Γ a) K env vh fun x e1 h1 => ∃ n ns xs, x.raw e1 = some (.ref n) ∧ h1[n]? = some (.ins c ns xs) ∧ fin t (.v (.bl true)) e1 h1 Q
  | .isx i c, K, t, env, vh, Q => ∃ d, (Op.slt i).raw env = some d ∧ wpIsx Γ d c fun b => fin t (.v (.bl b)) env vh Q
  | .sset a, K, t, env, vh, Q => asO a (wpE Φ Γ a) K env vh fun x e1 h1 => ∃ ns : List Int, (x.ld e1 h1 = some (.lst (ns.map D.int)) ∨ x.ld e1 h1 = some (.tup (ns.map D.int))) ∧ ns.length < 64 ∧ ∀ ns' : List Int, ns'.Pairwise (· < ·) → (∀ k : Int, k ∈ ns' ↔ k ∈ ns) → fin t (.fr (ns'.map D.int)) e1 h1 Q
  | .bix k a, K, t, env, vh, Q => asO a (wpE Φ Γ a) K env vh fun x e1 h1 => ∃ bs : List Bool, x.ld e1 h1 = some (.lst (bs.map D.bl)) ∧ (k = true → true ∈ bs) ∧ fin t (.v (.int ((if k then bs.idxOf true else bs.count true : Nat) : Int))) e1 h1 Q
  | .eqI a b, K, t, env, vh, Q => asO a (wpE Φ Γ a) K env vh fun x e1 h1 => asO b (wpE Φ Γ b) K e1 h1 fun y e2 h2 => ∃ n m c ns xs ms ys, x.raw e2 = some (.ref n) ∧ h2[n]? = some (.ins c ns xs) ∧ y.raw e2 = some (.ref m) ∧ h2[m]? = some (.ins c ms ys) ∧ (Φ (mN c "__eq__")).ex ∧ (Φ (mN c "__eq__")).run [.ref n, .ref m] h2 fun o h3 => match o with
      | .ok x => ∃ k, x = .v (.bl k) ∧ fin t (.v (.bl k)) e2 h3 Q
      | .exc c xs => K c xs e2 h3
def wpEs (Φ : Fns) (Γ : Cns) : List E → XP → VE → VH → (List D → VE → VH → Prop) → Prop
  | [], K, env, vh, Q => Q [] env vh
  | e :: es, K, env, vh, Q => wpE Φ Γ e K false env vh fun x e1 h1 => wpEs Φ Γ es K e1 h1 fun xs e2 h2 => Q (x.d :: xs) e2 h2
def wpOs (Φ : Fns) (Γ : Cns) : List E → XP → VE → VH → (List Op → VE → VH → Prop) → Prop
  | [], K, env, vh, Q => Q [] env vh
  | e :: es, K, env, vh, Q => asO e (wpE Φ Γ e) K env vh fun x e1 h1 => wpOs Φ Γ es K e1 h1 fun xs e2 h2 => Q (x :: xs) e2 h2
/-- a clause's tests -/
def wpTs (Φ : Fns) (Γ : Cns) : List E → VE → VH → (Bool → VH → Prop) → Prop
  | [], env, vh, Q => Q true vh
  | [c], env, vh, Q => wpE Φ Γ c (fun _ _ _ _ => False) true env vh fun x e1 h1 => e1 = env ∧ ∃ k, x = .v (.bl k) ∧ Q k h1
  | _ :: _ :: _, _, _, _ => False
end

/-! ### monotone -/
section
variable {Φ : Fns} {Γ : Cns}
theorem fin_mono {t : Bool} {x : DV} {env : VE} {vh : VH} {Q Q' : QE} (f : ∀ x e h, Q x e h → Q' x e h) (h : fin t x env vh Q) : fin t x env vh Q' := by
  cases t with
  | false => exact f _ _ _ h
  | true => obtain ⟨k, h1, h2⟩ := h; exact ⟨k, h1, f _ _ _ h2⟩
theorem ifP_mono {b : Bool} {p q p' q' : Prop} (f : p → p') (g : q → q') (h : ifP b p q) : ifP b p' q' := by
  cases b with
  | false => exact g h
  | true => exact f h
theorem wpBin_mono {op : Operator} {a b : D} {Q Q' : DV → Prop} (f : ∀ x, Q x → Q' x) (h : wpBin op a b Q) : wpBin op a b Q' := by
  unfold wpBin at *
  split at h <;> first
    | exact f _ h
    | exact ⟨h.1, f _ h.2⟩
    | exact ⟨h.1, h.2.1, h.2.2.1, f _ h.2.2.2⟩
    | exact h
theorem wpCmp_mono {op : CmpOp} {a b : D} {Q Q' : Bool → Prop} (f : ∀ x, Q x → Q' x) (h : wpCmp op a b Q) : wpCmp op a b Q' := by
  unfold wpCmp at *
  split at h <;> first
    | exact f _ h
    | (obtain ⟨c, h1, h2⟩ := h; exact ⟨c, h1, f _ h2⟩)
    | exact ⟨h.1, h.2.1, f _ h.2.2⟩
    | exact ⟨h.1, f _ h.2⟩
    | exact h
theorem wpIdx_mono {a b : D} {Q Q' : D → Prop} (f : ∀ x, Q x → Q' x) (h : wpIdx a b Q) : wpIdx a b Q' := by
  unfold wpIdx at *
  split at h <;> first
    | (obtain ⟨d, h1, h3⟩ := h; exact ⟨d, h1, f _ h3⟩)
    | (obtain ⟨h0, d, h1, h3⟩ := h; exact ⟨h0, d, h1, f _ h3⟩)
    | exact h
theorem wpAttr_mono {vh : VH} {d : D} {g : Str} {Q Q' : D → Prop} (f : ∀ x, Q x → Q' x) (h : wpAttr Γ vh d g Q) : wpAttr Γ vh d g Q' := by
  unfold wpAttr at *
  split at h <;> first
    | (obtain ⟨h0, d, h1, h3⟩ := h; exact ⟨h0, d, h1, f _ h3⟩)
    | exact h
theorem wpSli_mono {a : D} {i j : Option Int} {Q Q' : DV → Prop} (f : ∀ x, Q x → Q' x) (h : wpSli a i j Q) : wpSli a i j Q' := by
  unfold wpSli at *
  split at h <;> first
    | exact f _ h
    | exact ⟨h.1, f _ h.2⟩
    | exact h
theorem wpBlt_mono {g : Bf} {ds : List D} {Q Q' : DV → Prop} (f : ∀ x, Q x → Q' x) (h : wpBlt g ds Q) : wpBlt g ds Q' := by
  unfold wpBlt at *
  split at h <;> first
    | exact f _ h
    | exact ⟨h.1, f _ h.2⟩
    | (obtain ⟨j, h1, h3⟩ := h; exact ⟨j, h1, f _ h3⟩)
    | (obtain ⟨j, h1, h3⟩ := h; exact ⟨j, h1, fun a b c => f _ (h3 a b c)⟩)
    | (obtain ⟨j, h1, h2, h3⟩ := h; exact ⟨j, h1, h2, fun a b c => f _ (h3 a b c)⟩)
    | (obtain ⟨j, h1, h2, h3⟩ := h; exact ⟨j, h1, h2, f _ h3⟩)
    | exact h
theorem lcGo_mono {turn turn' : D → VH → (Option D → VH → Prop) → Prop} (ht : ∀ d h R R', (∀ o h, R o h → R' o h) → turn d h R → turn' d h R') :
    ∀ (ds : List D) (h : VH) (acc : List D) (Q Q' : List D → VH → Prop), (∀ a h, Q a h → Q' a h) → lcGo turn ds h acc Q → lcGo turn' ds h acc Q'
  | [], h, acc, Q, Q', f, x => f _ _ x
  | d :: ds, h, acc, Q, Q', f, x => ht d h _ _ (fun o h' y => match o with
    | some z => (show _ ∧ _ from y).imp id (lcGo_mono ht ds h' _ Q Q' f)
    | none => lcGo_mono ht ds h' _ Q Q' f y) x
theorem asO_mono {e : E} {w : XP → Bool → VE → VH → QE → Prop} {K : XP} {env : VE} {vh : VH} {Q Q' : Op → VE → VH → Prop} (hw : ∀ Q Q' : QE, (∀ x e h, Q x e h → Q' x e h) → w K false env vh Q → w K false env vh Q') (f : ∀ x e h, Q x e h → Q' x e h)
    (h : asO e w K env vh Q) : asO e w K env vh Q' := by
  unfold asO at *
  split at h
  · exact ⟨h.1, f _ _ _ h.2⟩
  · exact hw _ _ (fun x e h => f _ _ _) h
mutual
theorem wpE_mono : ∀ (e : E) (K : XP) (t : Bool) (env : VE) (vh : VH) (Q Q' : QE), (∀ x e h, Q x e h → Q' x e h) → wpE Φ Γ e K t env vh Q → wpE Φ Γ e K t env vh Q'
  | .non, K, t, env, vh, Q, Q', f, h => fin_mono f h
  | .bl b, K, t, env, vh, Q, Q', f, h => fin_mono f h
  | .int i, K, t, env, vh, Q, Q', f, h => fin_mono f h
  | .str x, K, t, env, vh, Q, Q', f, h => fin_mono f h
  | .skip, K, t, env, vh, Q, Q', f, h => fin_mono f h
  | .var i, K, t, env, vh, Q, Q', f, h => by
    obtain ⟨s, h1, h2⟩ := h
    refine ⟨s, h1, ?_⟩
    cases s with
    | no => exact h2
    | val d => exact fin_mono f h2
    | own ds => exact fin_mono f h2
  | .bor i, K, true, env, vh, Q, Q', f, h => by
    obtain ⟨d, k, h1, h2, h3⟩ := h
    exact ⟨d, k, h1, h2, f _ _ _ h3⟩
  | .bor i, K, false, env, vh, Q, Q', f, h => h
  | .glo x, K, t, env, vh, Q, Q', f, h => by
    obtain ⟨d, h1, h3⟩ := h
    exact ⟨d, h1, fin_mono f h3⟩
  | .tup es, K, t, env, vh, Q, Q', f, h => wpEs_mono es K env vh _ _ (fun xs e1 h1 h => ⟨h.1, fin_mono f h.2⟩) h
  | .lst es, K, t, env, vh, Q, Q', f, h => wpEs_mono es K env vh _ _ (fun xs e1 h1 h => ⟨h.1, fin_mono f h.2⟩) h
  | .bin op a b, K, t, env, vh, Q, Q', f, h => asO_mono (wpE_mono a K false env vh) (fun x e1 h1 h => asO_mono (wpE_mono b K false e1 h1) (fun y e2 h2 h => by
      obtain ⟨c, d, p, q, r⟩ := h
      exact ⟨c, d, p, q, wpBin_mono (fun _ => fin_mono f) r⟩) h) h
  | .neg a, K, t, env, vh, Q, Q', f, h => wpE_mono a K false env vh _ _ (fun x e1 h1 h => by
      obtain ⟨i, p, r⟩ := h
      exact ⟨i, p, fin_mono f r⟩) h
  | .cmp op a b, K, t, env, vh, Q, Q', f, h => asO_mono (wpE_mono a K false env vh) (fun x e1 h1 h => asO_mono (wpE_mono b K false e1 h1) (fun y e2 h2 h => by
      obtain ⟨c, d, p, q, r⟩ := h
      exact ⟨c, d, p, q, wpCmp_mono (fun _ => f _ _ _) r⟩) h) h
  | .chain op op' a b c, K, t, env, vh, Q, Q', f, h => asO_mono (wpE_mono a K false env vh) (fun x e1 h1 h => asO_mono (wpE_mono b K false e1 h1) (fun y e2 h2 h => by
      obtain ⟨d, e, p, q, r⟩ := h
      exact ⟨d, e, p, q, wpCmp_mono (fun k => ifP_mono (asO_mono (wpE_mono c K false e2 h2) fun z e3 h3 h => by
        obtain ⟨g, i, p, q, r⟩ := h
        exact ⟨g, i, p, q, wpCmp_mono (fun _ => f _ _ _) r⟩) (f _ _ _)) r⟩) h) h
  | .and a b, K, true, env, vh, Q, Q', f, h => wpE_mono a K true env vh _ _ (fun x e1 h1 h => by
      obtain ⟨k, p, r⟩ := h
      exact ⟨k, p, ifP_mono (wpE_mono b K true e1 h1 _ _ f) (f _ _ _) r⟩) h
  | .and a b, K, false, env, vh, Q, Q', f, h => wpE_mono a K false env vh _ _ (fun x e1 h1 h => by
      obtain ⟨d, k, p, q, r⟩ := h
      exact ⟨d, k, p, q, ifP_mono (wpE_mono b K false e1 h1 _ _ f) (f _ _ _) r⟩) h
  | .or a b, K, true, env, vh, Q, Q', f, h => wpE_mono a K true env vh _ _ (fun x e1 h1 h => by
      obtain ⟨k, p, r⟩ := h
      exact ⟨k, p, ifP_mono (f _ _ _) (wpE_mono b K true e1 h1 _ _ f) r⟩) h
  | .or a b, K, false, env, vh, Q, Q', f, h => wpE_mono a K false env vh _ _ (fun x e1 h1 h => by
      obtain ⟨d, k, p, q, r⟩ := h
      exact ⟨d, k, p, q, ifP_mono (f _ _ _) (wpE_mono b K false e1 h1 _ _ f) r⟩) h
  | .not a, K, true, env, vh, Q, Q', f, h => wpE_mono a K true env vh _ _ (fun x e1 h1 h => by
      obtain ⟨k, p, r⟩ := h
      exact ⟨k, p, f _ _ _ r⟩) h
  | .not a, K, false, env, vh, Q, Q', f, h => asO_mono (wpE_mono a K false env vh) (fun x e1 h1 h => by
      obtain ⟨d, k, p, q, r⟩ := h
      exact ⟨d, k, p, q, f _ _ _ r⟩) h
  | .ite c a b, K, t, env, vh, Q, Q', f, h => wpE_mono c K true env vh _ _ (fun x e1 h1 h => by
      obtain ⟨k, p, r⟩ := h
      exact ⟨k, p, ifP_mono (wpE_mono a K t e1 h1 _ _ f) (wpE_mono b K t e1 h1 _ _ f) r⟩) h
  | .idx a i, K, t, env, vh, Q, Q', f, h => asO_mono (wpE_mono a K false env vh) (fun x e1 h1 h => asO_mono (wpE_mono i K false e1 h1) (fun y e2 h2 h => by
      obtain ⟨c, d, p, q, r⟩ := h
      exact ⟨c, d, p, q, wpIdx_mono (fun _ => fin_mono f) r⟩) h) h
  | .sli a lo hi, K, t, env, vh, Q, Q', f, h => asO_mono (wpE_mono a K false env vh) (fun x e1 h1 h => wpE_mono lo K false e1 h1 _ _ (fun y e2 h2 ⟨i, p, h⟩ => ⟨i, p, wpE_mono hi K false e2 h2 _ _ (fun z e3 h3 h => by
      obtain ⟨c, j, p, q, s⟩ := h
      exact ⟨c, j, p, q, wpSli_mono (fun _ => fin_mono f) s⟩) h⟩) h) h
  | .call g es, K, t, env, vh, Q, Q', f, h => wpEs_mono es K env vh _ _ (fun ds e1 h1 h => (Φ g).mono _ _ _ _ (fun o h2 y => match o with
      | .ok x => fin_mono f y
      | .exc c fs => y) h) h
  | .blt g es, K, t, env, vh, Q, Q', f, h => wpOs_mono es K env vh _ _ (fun ds e1 h1 h => by
      obtain ⟨c, p, r⟩ := h
      exact ⟨c, p, wpBlt_mono (fun _ => fin_mono f) r⟩) h
  | .isi a tys, K, t, env, vh, Q, Q', f, h => asO_mono (wpE_mono a K false env vh) (fun x e1 h1 h => by
      obtain ⟨c, d, p, q, o, r⟩ := h
      exact ⟨c, d, p, q, o, fin_mono f r⟩) h
  | .lc elt tg own k es cs, K, t, env, vh, Q, Q', f, h => wpEs_mono es K env vh _ _ (fun ds e1 h1 h => by
      obtain ⟨items, p, z, r⟩ := h
      refine ⟨items, p, z, lcGo_mono (fun d h R R' g y => ?_) _ _ _ _ _ (fun acc h2 h => ⟨h.1, fin_mono f h.2⟩) r⟩
      obtain ⟨st, e2, q, y⟩ := y
      exact ⟨st, e2, q, wpTs_mono cs e2 h _ _ (fun b h3 => ifP_mono (wpE_mono elt _ false e2 h3 _ _ fun x e4 h4 z => ⟨z.1, g _ _ z.2⟩) (g _ _)) y⟩) h
  | .attr a g, K, t, env, vh, Q, Q', f, h => asO_mono (wpE_mono a K false env vh) (fun x e1 h1 h => by
      obtain ⟨d, p, r⟩ := h
      exact ⟨d, p, wpAttr_mono (fun _ => fin_mono f) r⟩) h
  | .dct ks es, K, t, env, vh, Q, Q', f, h => wpEs_mono es _ env vh _ _ (fun xs e1 h1 h => ⟨h.1, fin_mono f h.2⟩) h
  | .fld a g, K, t, env, vh, Q, Q', f, h => asO_mono (wpE_mono a K false env vh) (fun x e1 h1 h => by
      obtain ⟨n, c, ns, xs, p, q, y, r, z⟩ := h
      exact ⟨n, c, ns, xs, p, q, y, r, fin_mono f z⟩) h
  | .meth a m es, K, t, env, vh, Q, Q', f, h => asO_mono (wpE_mono a K false env vh) (fun x e1 h1 h => by
      obtain ⟨n, c, ns, xs, p, q, r, z⟩ := h
      exact ⟨n, c, ns, xs, p, q, r, wpEs_mono es K e1 h1 _ _ (fun ds e2 h2 h => (Φ (mN c m)).mono _ _ _ _ (fun o h3 z => match o, z with
        | .ok x, z => fin_mono f z
        | .exc c fs, z => z) h) z⟩) h
  | .mk c es, K, t, env, vh, Q, Q', f, h => wpEs_mono es K env vh _ _ (fun ds e1 h1 h => (Φ (mN c "__init__")).mono _ _ _ _ (fun o h3 z => match o, z with
        | .ok x, z => ⟨z.1, fin_mono f z.2⟩
        | .exc c fs, z => z) h) h
  | .shr a, K, t, env, vh, Q, Q', f, h => wpE_mono a K false env vh _ _ (fun x e1 h1 h => by
      obtain ⟨ds, p, r⟩ := h
      exact ⟨ds, p, fin_mono f r⟩) h
  | .join o e, K, t, env, vh, Q, Q', f, h => wpE_mono o K false env vh _ _ (fun x e1 h1 ⟨a, p, h⟩ => ⟨a, p, asO_mono (wpE_mono e K false e1 h1) (fun y e2 h2 ⟨ys, q, r, z⟩ => ⟨ys, q, r, fin_mono f z⟩) h⟩) h
  | .lrg a b, K, t, env, vh, Q, Q', f, h => wpE_mono a K false env vh _ _ (fun x e1 h1 ⟨i, p, h⟩ => ⟨i, p, wpE_mono b K false e1 h1 _ _ (fun y e2 h2 ⟨j, q, r, z⟩ => ⟨j, q, r, fin_mono f z⟩) h⟩) h
  | .isc a c, K, t, env, vh, Q, Q', f, h => asO_mono (wpE_mono a K false env vh) (fun x e1 h1 ⟨n, ns, xs, p, q, z⟩ => ⟨n, ns, xs, p, q, fin_mono f z⟩) h
  | .isx i c, K, t, env, vh, Q, Q', f, h => let ⟨d, p, q⟩ := h; ⟨d, p, wpIsx_mono (fun b => fin_mono f) q⟩
  | .sset a, K, t, env, vh, Q, Q', f, h => asO_mono (wpE_mono a K false env vh) (fun x e1 h1 ⟨ns, p, l, z⟩ => ⟨ns, p, l, fun ns' q r => fin_mono f (z ns' q r)⟩) h
  | .bix k a, K, t, env, vh, Q, Q', f, h => asO_mono (wpE_mono a K false env vh) (fun x e1 h1 ⟨bs, p, l, z⟩ => ⟨bs, p, l, fin_mono f z⟩) h
  | .eqI a b, K, t, env, vh, Q, Q', f, h => by
    unfold wpE at *
    exact asO_mono (wpE_mono a K false env vh) (fun x e1 h1 z => asO_mono (wpE_mono b K false e1 h1) (fun y e2 h2 ⟨n, m, c, ns, xs, ms, ys, p1, p2, p3, p4, p5, z⟩ => ⟨n, m, c, ns, xs, ms, ys, p1, p2, p3, p4, p5, (Φ (mN c "__eq__")).mono _ _ _ _ (fun o h3 z => by
      cases o with
      | ok x =>
        obtain ⟨k, e, z⟩ := z
        exact ⟨k, e, fin_mono f z⟩
      | exc c xs => exact z) z⟩) z) h
theorem wpEs_mono : ∀ (es : List E) (K : XP) (env : VE) (vh : VH) (Q Q' : List D → VE → VH → Prop), (∀ x e h, Q x e h → Q' x e h) → wpEs Φ Γ es K env vh Q → wpEs Φ Γ es K env vh Q'
  | [], K, env, vh, Q, Q', f, h => f _ _ _ h
  | e :: es, K, env, vh, Q, Q', f, h => wpE_mono e K false env vh _ _ (fun x e1 h1 h => wpEs_mono es K e1 h1 _ _ (fun xs e2 h2 => f _ _ _) h) h
theorem wpOs_mono : ∀ (es : List E) (K : XP) (env : VE) (vh : VH) (Q Q' : List Op → VE → VH → Prop), (∀ x e h, Q x e h → Q' x e h) → wpOs Φ Γ es K env vh Q → wpOs Φ Γ es K env vh Q'
  | [], K, env, vh, Q, Q', f, h => f _ _ _ h
  | e :: es, K, env, vh, Q, Q', f, h => asO_mono (wpE_mono e K false env vh) (fun x e1 h1 h => wpOs_mono es K e1 h1 _ _ (fun xs e2 h2 => f _ _ _) h) h
theorem wpTs_mono : ∀ (es : List E) (env : VE) (vh : VH) (Q Q' : Bool → VH → Prop), (∀ b h, Q b h → Q' b h) → wpTs Φ Γ es env vh Q → wpTs Φ Γ es env vh Q'
  | [], env, vh, Q, Q', f, h => f _ _ h
  | [c], env, vh, Q, Q', f, h => wpE_mono c _ true env vh _ _ (fun x e1 h1 h => by
      obtain ⟨q, k, p, r⟩ := h
      exact ⟨q, k, p, f _ _ r⟩) h
  | _ :: _ :: _, env, vh, Q, Q', f, h => h
end
def KLe (K K' : XP) : Prop := ∀ c xs e h, K c xs e h → K' c xs e h
theorem asO_monoK {e : E} {w : XP → Bool → VE → VH → QE → Prop} {K K' : XP} {env : VE} {vh : VH} {Q Q' : Op → VE → VH → Prop} (hw : ∀ Q Q' : QE, (∀ x e h, Q x e h → Q' x e h) → w K false env vh Q → w K' false env vh Q') (f : ∀ x e h, Q x e h → Q' x e h)
    (h : asO e w K env vh Q) : asO e w K' env vh Q' := by
  unfold asO at *
  split at h
  · exact ⟨h.1, f _ _ _ h.2⟩
  · exact hw _ _ (fun x e h => f _ _ _) h
mutual
theorem wpE_monoK : ∀ (e : E) (K K' : XP) (t : Bool) (env : VE) (vh : VH) (Q Q' : QE), KLe K K' → (∀ x e h, Q x e h → Q' x e h) → wpE Φ Γ e K t env vh Q → wpE Φ Γ e K' t env vh Q'
  | .non, K, K', t, env, vh, Q, Q', l, f, h => fin_mono f h
  | .bl b, K, K', t, env, vh, Q, Q', l, f, h => fin_mono f h
  | .int i, K, K', t, env, vh, Q, Q', l, f, h => fin_mono f h
  | .str x, K, K', t, env, vh, Q, Q', l, f, h => fin_mono f h
  | .skip, K, K', t, env, vh, Q, Q', l, f, h => fin_mono f h
  | .var i, K, K', t, env, vh, Q, Q', l, f, h => by
    obtain ⟨s, h1, h2⟩ := h
    refine ⟨s, h1, ?_⟩
    cases s with
    | no => exact h2
    | val d => exact fin_mono f h2
    | own ds => exact fin_mono f h2
  | .bor i, K, K', true, env, vh, Q, Q', l, f, h => by
    obtain ⟨d, k, h1, h2, h3⟩ := h
    exact ⟨d, k, h1, h2, f _ _ _ h3⟩
  | .bor i, K, K', false, env, vh, Q, Q', l, f, h => h
  | .glo x, K, K', t, env, vh, Q, Q', l, f, h => by
    obtain ⟨d, h1, h3⟩ := h
    exact ⟨d, h1, fin_mono f h3⟩
  | .tup es, K, K', t, env, vh, Q, Q', l, f, h => wpEs_monoK es K K' env vh _ _ l (fun xs e1 h1 h => ⟨h.1, fin_mono f h.2⟩) h
  | .lst es, K, K', t, env, vh, Q, Q', l, f, h => wpEs_monoK es K K' env vh _ _ l (fun xs e1 h1 h => ⟨h.1, fin_mono f h.2⟩) h
  | .bin op a b, K, K', t, env, vh, Q, Q', l, f, h => asO_monoK (fun Q Q' f => wpE_monoK a K K' false env vh Q Q' l f) (fun x e1 h1 h => asO_monoK (fun Q Q' f => wpE_monoK b K K' false e1 h1 Q Q' l f) (fun y e2 h2 h => by
      obtain ⟨c, d, p, q, r⟩ := h
      exact ⟨c, d, p, q, wpBin_mono (fun _ => fin_mono f) r⟩) h) h
  | .neg a, K, K', t, env, vh, Q, Q', l, f, h => wpE_monoK a K K' false env vh _ _ l (fun x e1 h1 h => by
      obtain ⟨i, p, r⟩ := h
      exact ⟨i, p, fin_mono f r⟩) h
  | .cmp op a b, K, K', t, env, vh, Q, Q', l, f, h => asO_monoK (fun Q Q' f => wpE_monoK a K K' false env vh Q Q' l f) (fun x e1 h1 h => asO_monoK (fun Q Q' f => wpE_monoK b K K' false e1 h1 Q Q' l f) (fun y e2 h2 h => by
      obtain ⟨c, d, p, q, r⟩ := h
      exact ⟨c, d, p, q, wpCmp_mono (fun _ => f _ _ _) r⟩) h) h
  | .chain op op' a b c, K, K', t, env, vh, Q, Q', l, f, h => asO_monoK (fun Q Q' f => wpE_monoK a K K' false env vh Q Q' l f) (fun x e1 h1 h => asO_monoK (fun Q Q' f => wpE_monoK b K K' false e1 h1 Q Q' l f) (fun y e2 h2 h => by
      obtain ⟨d, e, p, q, r⟩ := h
      exact ⟨d, e, p, q, wpCmp_mono (fun k => ifP_mono (asO_monoK (fun Q Q' f => wpE_monoK c K K' false e2 h2 Q Q' l f) fun z e3 h3 h => by
        obtain ⟨g, i, p, q, r⟩ := h
        exact ⟨g, i, p, q, wpCmp_mono (fun _ => f _ _ _) r⟩) (f _ _ _)) r⟩) h) h
  | .and a b, K, K', true, env, vh, Q, Q', l, f, h => wpE_monoK a K K' true env vh _ _ l (fun x e1 h1 h => by
      obtain ⟨k, p, r⟩ := h
      exact ⟨k, p, ifP_mono (wpE_monoK b K K' true e1 h1 _ _ l f) (f _ _ _) r⟩) h
  | .and a b, K, K', false, env, vh, Q, Q', l, f, h => wpE_monoK a K K' false env vh _ _ l (fun x e1 h1 h => by
      obtain ⟨d, k, p, q, r⟩ := h
      exact ⟨d, k, p, q, ifP_mono (wpE_monoK b K K' false e1 h1 _ _ l f) (f _ _ _) r⟩) h
  | .or a b, K, K', true, env, vh, Q, Q', l, f, h => wpE_monoK a K K' true env vh _ _ l (fun x e1 h1 h => by
      obtain ⟨k, p, r⟩ := h
      exact ⟨k, p, ifP_mono (f _ _ _) (wpE_monoK b K K' true e1 h1 _ _ l f) r⟩) h
  | .or a b, K, K', false, env, vh, Q, Q', l, f, h => wpE_monoK a K K' false env vh _ _ l (fun x e1 h1 h => by
      obtain ⟨d, k, p, q, r⟩ := h
      exact ⟨d, k, p, q, ifP_mono (f _ _ _) (wpE_monoK b K K' false e1 h1 _ _ l f) r⟩) h
  | .not a, K, K', true, env, vh, Q, Q', l, f, h => wpE_monoK a K K' true env vh _ _ l (fun x e1 h1 h => by
      obtain ⟨k, p, r⟩ := h
      exact ⟨k, p, f _ _ _ r⟩) h
  | .not a, K, K', false, env, vh, Q, Q', l, f, h => asO_monoK (fun Q Q' f => wpE_monoK a K K' false env vh Q Q' l f) (fun x e1 h1 h => by
      obtain ⟨d, k, p, q, r⟩ := h
      exact ⟨d, k, p, q, f _ _ _ r⟩) h
  | .ite c a b, K, K', t, env, vh, Q, Q', l, f, h => wpE_monoK c K K' true env vh _ _ l (fun x e1 h1 h => by
      obtain ⟨k, p, r⟩ := h
      exact ⟨k, p, ifP_mono (wpE_monoK a K K' t e1 h1 _ _ l f) (wpE_monoK b K K' t e1 h1 _ _ l f) r⟩) h
  | .idx a i, K, K', t, env, vh, Q, Q', l, f, h => asO_monoK (fun Q Q' f => wpE_monoK a K K' false env vh Q Q' l f) (fun x e1 h1 h => asO_monoK (fun Q Q' f => wpE_monoK i K K' false e1 h1 Q Q' l f) (fun y e2 h2 h => by
      obtain ⟨c, d, p, q, r⟩ := h
      exact ⟨c, d, p, q, wpIdx_mono (fun _ => fin_mono f) r⟩) h) h
  | .sli a lo hi, K, K', t, env, vh, Q, Q', l, f, h => asO_monoK (fun Q Q' f => wpE_monoK a K K' false env vh Q Q' l f) (fun x e1 h1 h => wpE_monoK lo K K' false e1 h1 _ _ l (fun y e2 h2 ⟨i, p, h⟩ => ⟨i, p, wpE_monoK hi K K' false e2 h2 _ _ l (fun z e3 h3 h => by
      obtain ⟨c, j, p, q, s⟩ := h
      exact ⟨c, j, p, q, wpSli_mono (fun _ => fin_mono f) s⟩) h⟩) h) h
  | .call g es, K, K', t, env, vh, Q, Q', l, f, h => wpEs_monoK es K K' env vh _ _ l (fun ds e1 h1 h => (Φ g).mono _ _ _ _ (fun o h2 y => match o with
      | .ok x => fin_mono f y
      | .exc c fs => l _ _ _ _ y) h) h
  | .blt g es, K, K', t, env, vh, Q, Q', l, f, h => wpOs_monoK es K K' env vh _ _ l (fun ds e1 h1 h => by
      obtain ⟨c, p, r⟩ := h
      exact ⟨c, p, wpBlt_mono (fun _ => fin_mono f) r⟩) h
  | .isi a tys, K, K', t, env, vh, Q, Q', l, f, h => asO_monoK (fun Q Q' f => wpE_monoK a K K' false env vh Q Q' l f) (fun x e1 h1 h => by
      obtain ⟨c, d, p, q, o, r⟩ := h
      exact ⟨c, d, p, q, o, fin_mono f r⟩) h
  | .lc elt tg own k es cs, K, K', t, env, vh, Q, Q', l, f, h => wpEs_monoK es K K' env vh _ _ l (fun ds e1 h1 h => by
      obtain ⟨items, p, z, r⟩ := h
      refine ⟨items, p, z, lcGo_mono (fun d h R R' g y => ?_) _ _ _ _ _ (fun acc h2 h => ⟨h.1, fin_mono f h.2⟩) r⟩
      obtain ⟨st, e2, q, y⟩ := y
      exact ⟨st, e2, q, wpTs_mono cs e2 h _ _ (fun b h3 => ifP_mono (wpE_mono elt _ false e2 h3 _ _ fun x e4 h4 z => ⟨z.1, g _ _ z.2⟩) (g _ _)) y⟩) h
  | .attr a g, K, K', t, env, vh, Q, Q', l, f, h => asO_monoK (fun Q Q' f => wpE_monoK a K K' false env vh Q Q' l f) (fun x e1 h1 h => by
      obtain ⟨d, p, r⟩ := h
      exact ⟨d, p, wpAttr_mono (fun _ => fin_mono f) r⟩) h
  | .dct ks es, K, K', t, env, vh, Q, Q', l, f, h => wpEs_mono es _ env vh _ _ (fun xs e1 h1 h => ⟨h.1, fin_mono f h.2⟩) h
  | .fld a g, K, K', t, env, vh, Q, Q', l, f, h => asO_monoK (fun Q Q' f => wpE_monoK a K K' false env vh Q Q' l f) (fun x e1 h1 h => by
      obtain ⟨n, c, ns, xs, p, q, y, r, z⟩ := h
      exact ⟨n, c, ns, xs, p, q, y, r, fin_mono f z⟩) h
  | .meth a m es, K, K', t, env, vh, Q, Q', l, f, h => asO_monoK (fun Q Q' f => wpE_monoK a K K' false env vh Q Q' l f) (fun x e1 h1 h => by
      obtain ⟨n, c, ns, xs, p, q, r, z⟩ := h
      exact ⟨n, c, ns, xs, p, q, r, wpEs_monoK es K K' e1 h1 _ _ l (fun ds e2 h2 h => (Φ (mN c m)).mono _ _ _ _ (fun o h3 z => match o, z with
        | .ok x, z => fin_mono f z
        | .exc c fs, z => l _ _ _ _ z) h) z⟩) h
  | .mk c es, K, K', t, env, vh, Q, Q', l, f, h => wpEs_monoK es K K' env vh _ _ l (fun ds e1 h1 h => (Φ (mN c "__init__")).mono _ _ _ _ (fun o h3 z => match o, z with
        | .ok x, z => ⟨z.1, fin_mono f z.2⟩
        | .exc c fs, z => l _ _ _ _ z) h) h
  | .shr a, K, K', t, env, vh, Q, Q', l, f, h => wpE_monoK a K K' false env vh _ _ l (fun x e1 h1 h => by
      obtain ⟨ds, p, r⟩ := h
      exact ⟨ds, p, fin_mono f r⟩) h
  | .join o e, K, K', t, env, vh, Q, Q', l, f, h => wpE_monoK o K K' false env vh _ _ l (fun x e1 h1 ⟨a, p, h⟩ => ⟨a, p, asO_monoK (fun Q Q' f => wpE_monoK e K K' false e1 h1 Q Q' l f) (fun y e2 h2 ⟨ys, q, r, z⟩ => ⟨ys, q, r, fin_mono f z⟩) h⟩) h
  | .lrg a b, K, K', t, env, vh, Q, Q', l, f, h => wpE_monoK a K K' false env vh _ _ l (fun x e1 h1 ⟨i, p, h⟩ => ⟨i, p, wpE_monoK b K K' false e1 h1 _ _ l (fun y e2 h2 ⟨j, q, r, z⟩ => ⟨j, q, r, fin_mono f z⟩) h⟩) h
  | .isc a c, K, K', t, env, vh, Q, Q', l, f, h => asO_monoK (fun Q Q' f => wpE_monoK a K K' false env vh Q Q' l f) (fun x e1 h1 ⟨n, ns, xs, p, q, z⟩ => ⟨n, ns, xs, p, q, fin_mono f z⟩) h
  | .isx i c, K, K', t, env, vh, Q, Q', l, f, h => let ⟨d, p, q⟩ := h; ⟨d, p, wpIsx_mono (fun b => fin_mono f) q⟩
  | .sset a, K, K', t, env, vh, Q, Q', l, f, h => asO_monoK (fun Q Q' f => wpE_monoK a K K' false env vh Q Q' l f) (fun x e1 h1 ⟨ns, p, l, z⟩ => ⟨ns, p, l, fun ns' q r => fin_mono f (z ns' q r)⟩) h
  | .bix k a, K, K', t, env, vh, Q, Q', l, f, h => asO_monoK (fun Q Q' f => wpE_monoK a K K' false env vh Q Q' l f) (fun x e1 h1 ⟨bs, p, q, z⟩ => ⟨bs, p, q, fin_mono f z⟩) h
  | .eqI a b, K, K', t, env, vh, Q, Q', l, f, h => by
    unfold wpE at *
    exact asO_monoK (fun Q Q' f => wpE_monoK a K K' false env vh Q Q' l f) (fun x e1 h1 z => asO_monoK (fun Q Q' f => wpE_monoK b K K' false e1 h1 Q Q' l f) (fun y e2 h2 ⟨n, m, c, ns, xs, ms, ys, p1, p2, p3, p4, p5, z⟩ => ⟨n, m, c, ns, xs, ms, ys, p1, p2, p3, p4, p5, (Φ (mN c "__eq__")).mono _ _ _ _ (fun o h3 z => by
      cases o with
      | ok x =>
        obtain ⟨k, e, z⟩ := z
        exact ⟨k, e, fin_mono f z⟩
      | exc c xs => exact l _ _ _ _ z) z⟩) z) h
theorem wpEs_monoK : ∀ (es : List E) (K K' : XP) (env : VE) (vh : VH) (Q Q' : List D → VE → VH → Prop), KLe K K' → (∀ x e h, Q x e h → Q' x e h) → wpEs Φ Γ es K env vh Q → wpEs Φ Γ es K' env vh Q'
  | [], K, K', env, vh, Q, Q', l, f, h => f _ _ _ h
  | e :: es, K, K', env, vh, Q, Q', l, f, h => wpE_monoK e K K' false env vh _ _ l (fun x e1 h1 h => wpEs_monoK es K K' e1 h1 _ _ l (fun xs e2 h2 => f _ _ _) h) h
theorem wpOs_monoK : ∀ (es : List E) (K K' : XP) (env : VE) (vh : VH) (Q Q' : List Op → VE → VH → Prop), KLe K K' → (∀ x e h, Q x e h → Q' x e h) → wpOs Φ Γ es K env vh Q → wpOs Φ Γ es K' env vh Q'
  | [], K, K', env, vh, Q, Q', l, f, h => f _ _ _ h
  | e :: es, K, K', env, vh, Q, Q', l, f, h => asO_monoK (fun Q Q' f => wpE_monoK e K K' false env vh Q Q' l f) (fun x e1 h1 h => wpOs_monoK es K K' e1 h1 _ _ l (fun xs e2 h2 => f _ _ _) h) h
end
end
end R

set_option autoImplicit false
namespace R
open PySem PySem.Spec PyProof.Rows L2
open PySem.SeqAt
open PySem.AutoSeq1 (wpAny_loadPart')
open PySem.MeetsSeq PySem.MeetsSeq2 PySem.MeetsSeq3
theorem tuple_mul1 (l : Addr) (items : Array Value) (n : Nat) (dd : Option Addr) (sl : Array (Option Value)) (x : Int) (u : Tok) (c0 : (decide (x < -(2 ^ 63)) || decide (x ≥ 2 ^ 63)) = false) (c1 : (items.isEmpty || x == 1) = true) :
    Meets (Builtin.«tuple.__mul__» ⟨[.ref l, .int x u], []⟩) (fun _ R s => s.heap.get? l = some { cls := .type "tuple", dict := dd, data := .seq items n, slots := sl } ∧
      R (.ok (.ret (Value.ref l))) s) :=
  .of_wp fun prog w A R s h => by
    obtain ⟨hp, g, d, tk, os⟩ := s
    obtain ⟨hl, h⟩ := h
    have f1 := AutoSeq1.idx_int
    wp_walk using wpAny_loadPart' hl
    repeat (first
      | (refine wpAny_ite_false (decide_eq_false (by rw [c0]; exact Bool.false_ne_true)) ?_; wp_walk using wpAny_loadPart' hl)
      | (refine wpAny_ite_true (decide_eq_true c1) ?_; wp_walk using wpAny_loadPart' hl))
    exact ⟨_, rfl, h⟩

theorem list_extend_tup (l : Addr) (items : Array Value) (n : Nat) (b : Addr) (items2 : Array Value) (n2 : Nat) (dd : Option Addr) (sl : Array (Option Value)) (h0 : ¬(!items.isEmpty && Builtin.List.listTooLong (items.size + items2.size)) = true) (h1 : items.size ≤ sizeLine) (h2 : items.size + items2.size ≤ sizeLine + 1) :
    Meets (Builtin.«list.extend» ⟨[.ref l, .ref b], []⟩) (fun _ R s => s.heap.get? l = some { cls := .type "list", data := .seq items n } ∧ s.heap.get? b = some { cls := .type "tuple", dict := dd, data := .seq items2 n2, slots := sl } ∧
      R (.ok (.ret Value.none)) { s with heap := s.heap.update l (Obj.mapSeq fun x => x ++ items2), toks := s.toks }) :=
  .of_wp fun prog w A R s h => by
    obtain ⟨hp, g, d, tk, os⟩ := s
    obtain ⟨hl, hb, h⟩ := h
    have f1 := AutoSeq1.idx_int
    have f2 := AutoSeq1.sub_tuple_tuple
    have f5 := AutoSeq1.sub_list_tuple
    have f3 := AutoSeq1.sub_list_list
    have f4 := AutoSeq1.sub_tuple_list
    have hz : (items ++ items2).size ≤ sizeLine + 1 := by rw [Array.size_append]; exact h2
    wp_walk using (wpAny_updateSeq hl rfl (hz := h1) (_hz' := hz)), wpAny_loadPart' hl, wpAny_loadPart' hb
    exact ⟨_, rfl, h⟩

theorem tuple_mul0 (l : Addr) (items : Array Value) (n : Nat) (dd : Option Addr) (sl : Array (Option Value)) (x : Int) (u : Tok) (c0 : (decide (x < -(2 ^ 63)) || decide (x ≥ 2 ^ 63)) = false) (c1 : (items.isEmpty || x == 1) = false) (c2 : (decide (x ≤ 0) || items.isEmpty) = true) :
    Meets (Builtin.«tuple.__mul__» ⟨[.ref l, .int x u], []⟩) (fun _ R s => s.heap.get? l = some { cls := .type "tuple", dict := dd, data := .seq items n, slots := sl } ∧
      R (.ok (.ret (Value.ref s.heap.objs.size))) { s with heap := s.heap.push { cls := Value.type "tuple", data := Data.seq #[] }, toks := s.toks }) :=
  .of_wp fun prog w A R s h => by
    obtain ⟨hp, g, d, tk, os⟩ := s
    obtain ⟨hl, h⟩ := h
    have f1 := AutoSeq1.idx_int
    wp_walk using wpAny_loadPart' hl
    repeat (first
      | (refine wpAny_ite_false (decide_eq_false (by rw [c0]; exact Bool.false_ne_true)) ?_; wp_walk using wpAny_loadPart' hl)
      | (refine wpAny_ite_false (decide_eq_false (by rw [c1]; exact Bool.false_ne_true)) ?_; wp_walk using wpAny_loadPart' hl)
      | (refine wpAny_ite_true (decide_eq_true c2) ?_; wp_walk using wpAny_loadPart' hl))
    exact ⟨_, rfl, h⟩
def rRepA (K : PySem.W.Frag) : R2 := fun x y H Q => ∃ l k xs, x = .ref l ∧ y = .int k ∧ SqT K H l xs ∧ -1000 ≤ k ∧ k ≤ 1000 ∧ xs.length ≤ 1000 ∧ (xs = [] ∨ k = 1 → Q (.ref l) H) ∧ (xs ≠ [] → k ≠ 1 → ∀ p, H p = none → Q (.ref p) (upd H p (.tup (List.replicate k.toNat xs).flatten)))
theorem op_repA {X : Cx} : OpR X (binaryOp .Mult) (rRepA X.K) := by
  intro pins s σ H x y v u Q I rx ry h
  obtain ⟨l, k, xs, rfl, rfl, hT, h1, h2, hz, q1, q2⟩ := h
  by_cases hs : xs = [] ∨ k = 1
  · cases rx
    obtain ⟨t, rfl⟩ := ry
    obtain ⟨its, r, ⟨⟨cls, dd, data, sl⟩, ho, hc, n, hd⟩, hzz⟩ := I.tuple hT
    simp only at hc hd
    subst hc hd
    have c0 : (decide (k < -(2 ^ 63)) || decide (k ≥ 2 ^ 63)) = false := by
      rw [decide_eq_false (by omega), decide_eq_false (by omega)] <;> rfl
    have c1 : (its.toArray.isEmpty || k == 1) = true := by
      rcases hs with e | e
      · subst e
        cases r
        rfl
      · rw [e]; simp
    refine wpAny_binaryOp_repeat_ref (T := "tuple") (U := "int") (by decide) ⟨_, ho, rfl⟩ (fun s' => typeIs_int s' k t) noFill_tuple_mul F.fills_int_mul F.slot_int_rmul repeat_tuple F.slot_int_index.lookup
      (call_meets F.slot_int_rmul (typeIs_int s k t) F.entry_int_rmul (F.args_int_rmul_2 _ _) (int_rmul_tuple k t l its.toArray n dd sl)
        ⟨ho, rfl, ⟨_, ho, rfl⟩, call_meets F.slot_tuple_mul ⟨_, ho, rfl⟩ F.entry_tuple_mul (F.args_tuple_mul_2 _ _) (tuple_mul1 l its.toArray n dd sl k t c0 c1) ⟨ho, ?_⟩⟩)
    exact ⟨.ref l, H, I, rfl, q1 hs⟩
  · have n1 : xs ≠ [] := fun e => hs (.inl e)
    have n3 : k ≠ 1 := fun e => hs (.inr e)
    by_cases n2 : 2 ≤ k
    · exact op_repT pins s σ H _ _ v u Q I rx ry ⟨l, k, xs, rfl, rfl, hT, n1, n2, h2, hz, q2 n1 n3⟩
    · have k0 : k ≤ 0 := by omega
      have q := q2 n1 n3
      rw [show k.toNat = 0 by omega] at q
      cases rx
      obtain ⟨t, rfl⟩ := ry
      obtain ⟨its, r, ⟨⟨cls, dd, data, sl⟩, ho, hc, n, hd⟩, hzz⟩ := I.tuple hT
      simp only at hc hd
      subst hc hd
      have hle : its.length = xs.length := r.length.symm
      have hn : its ≠ [] := fun e => n1 (by
        rw [e] at hle
        exact List.eq_nil_of_length_eq_zero hle.symm)
      have hi : its.toArray.isEmpty = false := by
        cases its with
        | nil => exact absurd rfl hn
        | cons a b => rfl
      have c0 : (decide (k < -(2 ^ 63)) || decide (k ≥ 2 ^ 63)) = false := by
        rw [decide_eq_false (by omega), decide_eq_false (by omega)] <;> rfl
      have c1 : (its.toArray.isEmpty || k == 1) = false := by
        rw [hi, Bool.false_or]
        exact beq_eq_false_iff_ne.mpr (by omega)
      have c2 : (decide (k ≤ 0) || its.toArray.isEmpty) = true := by
        rw [decide_eq_true k0]
        rfl
      refine wpAny_binaryOp_repeat_ref (T := "tuple") (U := "int") (by decide) ⟨_, ho, rfl⟩ (fun s' => typeIs_int s' k t) noFill_tuple_mul F.fills_int_mul F.slot_int_rmul repeat_tuple F.slot_int_index.lookup
        (call_meets F.slot_int_rmul (typeIs_int s k t) F.entry_int_rmul (F.args_int_rmul_2 _ _) (int_rmul_tuple k t l its.toArray n dd sl)
          ⟨ho, rfl, ⟨_, ho, rfl⟩, call_meets F.slot_tuple_mul ⟨_, ho, rfl⟩ F.entry_tuple_mul (F.args_tuple_mul_2 _ _) (tuple_mul0 l its.toArray n dd sl k t c0 c1 c2) ⟨ho, ?_⟩⟩)
      refine ⟨.ref s.heap.objs.size, _, I.laid (t' := s.toks) (o := .tup []) (fun b ob q => Heap.get?_push_of_some _ q) (Nat.le_refl _) ?_, rfl, q _ (I.hok.fresh (Nat.le_refl _))⟩
      exact ⟨Nat.zero_le _, _, .nil, IsTup.new _ _⟩

/-! ### what operations on data give -/
/-- read for its items alone -/
def RW (G : Wd) (Z : Addr → Prop) (ρ : List Addr) (H : Hp) : D → V → Prop
  | .lst xs, v => ∃ a vs, v = .ref a ∧ H a = some (.lst vs) ∧ RDs G Z ρ H xs vs
  | .dct ks xs, v => ∃ a ws vs, v = .ref a ∧ H a = some (.dK ws) ∧ ws.map (·.1) = ks ∧ ws.map (·.2) = vs ∧ RDs G Z ρ H xs vs
  | d, v => RD G Z ρ H d v
theorem RD.w {G : Wd} {Z : Addr → Prop} {ρ : List Addr} {H : Hp} : ∀ {d : D} {v : V}, RD G Z ρ H d v → RW G Z ρ H d v
  | .lst xs, v, h => by obtain ⟨a, vs, e, _, h1, h2⟩ := h; exact ⟨a, vs, e, h1, h2⟩
  | .dct ks xs, v, h => by obtain ⟨a, ws, vs, e, _, h1, e1, e2, h2⟩ := h; exact ⟨a, ws, vs, e, h1, e1, e2, h2⟩
  | .non, _, h => h
  | .bl _, _, h => h
  | .int _, _, h => h
  | .str _, _, h => h
  | .ty _, _, h => h
  | .adr _, _, h => h
  | .tup _, _, h => h
  | .obj _ _ _, _, h => h
  | .ref _, _, h => h
  | .scr _, _, h => h
/-- a new value -/
def OutV (G : Wd) (Z : Addr → Prop) (ρ : List Addr) (H : Hp) (z : DV) (v : V) (H' : Hp) : Prop := match z with
  | .v d => Same H H' ∧ RD G Z ρ H' d v
  | .fr ds => ∃ p vs, v = .ref p ∧ H p = none ∧ H' = upd H p (.lst vs) ∧ RDs G Z ρ H ds vs
section
variable {X : Cx} {G : Wd} {Z : Addr → Prop} {ρ : List Addr}
theorem out_flat {H : Hp} {d : D} {v : V} {Q : VK} (q : ∀ v H', OutV G Z ρ H (.v d) v H' → Q v H') (h : RD G Z ρ H d v) : Q v H := q v H ⟨Same.refl H, h⟩
theorem out_tup {H : Hp} {p : Addr} {ds : List D} {vs : List V} (hp : H p = none) (h : RDs G Z ρ H ds vs) : OutV G Z ρ H (.v (.tup ds)) (.ref p) (upd H p (.tup vs)) := by
  have s := same_new (o := .tup vs) hp
  exact ⟨s, p, vs, rfl, .of upd_same, RDs.move (Mv.same s) _ _ h⟩
theorem out_lst {H : Hp} {p : Addr} {ds : List D} {vs : List V} (hp : H p = none) (h : RDs G Z ρ H ds vs) : OutV G Z ρ H (.fr ds) (.ref p) (upd H p (.lst vs)) := ⟨p, vs, rfl, hp, rfl, h⟩
theorem flat_nil {H : Hp} {ds : List D} {vs : List V} (h : RDs G Z ρ H ds vs) : vs = [] ↔ ds = [] := by
  have := h.length
  constructor
  · intro e; subst e; exact List.eq_nil_of_length_eq_zero this
  · intro e; subst e; exact List.eq_nil_of_length_eq_zero this.symm
theorem RDs.rep {H : Hp} {ds : List D} {vs : List V} (h : RDs G Z ρ H ds vs) : ∀ n : Nat, RDs G Z ρ H (List.replicate n ds).flatten (List.replicate n vs).flatten
  | 0 => rfl
  | n + 1 => by
    rw [List.replicate_succ, List.replicate_succ, List.flatten_cons, List.flatten_cons]
    exact h.append (RDs.rep h n)
theorem op_bin (hK : X.K = G.K) {op : Operator} : OpR X (binaryOp op) (fun x y H Q => ∃ Z ρ c d, RW G Z ρ H c x ∧ RW G Z ρ H d y ∧ wpBin op c d fun z => ∀ v H', OutV G Z ρ H z v H' → Q v H') := by
  rintro pins s σ H x y v u Q I rx ry ⟨Z, ρ, c, d, hc, hd, q⟩
  unfold wpBin at q
  split at q
  · cases (show x = _ from hc); cases (show y = _ from hd)
    exact op_add pins s σ H _ _ v u Q I rx ry ⟨_, _, rfl, rfl, out_flat q rfl⟩
  · cases (show x = _ from hc); cases (show y = _ from hd)
    exact op_add_str pins s σ H _ _ v u Q I rx ry ⟨_, _, rfl, rfl, by rw [sizeLine_eq]; exact q.1, out_flat q.2 rfl⟩
  · obtain ⟨a, vs, rfl, h1, h2⟩ := hc
    obtain ⟨b, ws, rfl, h3, h4⟩ := hd
    obtain ⟨hz, q⟩ := q
    refine op_catA pins s σ H _ _ v u Q I rx ry ⟨a, b, vs, ws, rfl, rfl, by rw [hK]; exact h1, by rw [hK]; exact h3, by rw [sizeLine_eq, ← h2.length, ← h4.length]; exact hz, fun e => ?_, fun _ e => ?_, fun _ _ p hp => ?_⟩
    · rw [(flat_nil h2).mp e] at q
      exact out_flat q ⟨b, ws, rfl, h3, h4⟩
    · rw [(flat_nil h4).mp e] at q
      exact out_flat q ⟨a, vs, rfl, h1, by rw [List.append_nil]; exact h2⟩
    · exact q _ _ (out_tup hp (h2.append h4))
  · obtain ⟨a, vs, rfl, h1, h2⟩ := hc
    obtain ⟨b, ws, rfl, h3, h4⟩ := hd
    exact op_cat pins s σ H _ _ v u Q I rx ry ⟨a, b, vs, ws, rfl, rfl, h1, h3, by rw [sizeLine_eq, ← h2.length, ← h4.length]; exact q.1, fun p hp => q.2 _ _ (out_lst hp (h2.append h4))⟩
  · cases (show x = _ from hc); cases (show y = _ from hd)
    exact op_sub pins s σ H _ _ v u Q I rx ry ⟨_, _, rfl, rfl, out_flat q rfl⟩
  · cases (show x = _ from hc); cases (show y = _ from hd)
    rcases q.1 with w | w | w
    · exact op_mul pins s σ H _ _ v u Q I rx ry ⟨_, _, rfl, rfl, .inl w, out_flat q.2 rfl⟩
    · exact op_mul pins s σ H _ _ v u Q I rx ry ⟨_, _, rfl, rfl, .inr w, out_flat q.2 rfl⟩
    · exact op_mulW pins s σ H _ _ v u Q I rx ry ⟨_, _, rfl, rfl, w, out_flat q.2 rfl⟩
  · cases (show x = _ from hc); cases (show y = _ from hd)
    obtain ⟨t, rfl⟩ := rx
    obtain ⟨t2, rfl⟩ := ry
    exact SB.mul q.1 fun t' k => ⟨.str _, H, I.tok _, ⟨_, rfl⟩, out_flat q.2 rfl⟩
  · obtain ⟨a, vs, rfl, h1, h2⟩ := hc
    cases (show y = _ from hd)
    obtain ⟨k0, k1, kz, q⟩ := q
    refine op_repA pins s σ H _ _ v u Q I rx ry ⟨a, _, vs, rfl, rfl, by rw [hK]; exact h1, k0, k1, by rw [← h2.length]; exact kz, fun e => ?_, fun _ _ p hp => ?_⟩
    · refine out_flat q ⟨a, vs, rfl, h1, ?_⟩
      rcases e with e | e
      · subst e
        have e0 := (flat_nil h2).mp rfl
        subst e0
        rw [show (List.replicate (Int.toNat _) ([] : List D)).flatten = [] from by simp]
        exact rfl
      · subst e
        simpa using h2
    · exact q _ _ (out_tup hp (h2.rep _))
  · obtain ⟨a, vs, rfl, h1, h2⟩ := hc
    cases (show y = _ from hd)
    obtain ⟨⟨k0, k1, kz⟩, q⟩ := q
    exact op_rep pins s σ H _ _ v u Q I rx ry ⟨a, _, vs, rfl, rfl, h1, by omega, by omega, by rw [sizeLine_eq, ← h2.length]; exact kz, fun p hp => q _ _ (out_lst hp (h2.rep _))⟩
  · cases (show x = _ from hc); cases (show y = _ from hd)
    exact op_fdivW pins s σ H _ _ v u Q I rx ry ⟨_, _, rfl, rfl, q.1, out_flat q.2 rfl⟩
  · cases (show x = _ from hc); cases (show y = _ from hd)
    exact op_mod pins s σ H _ _ v u Q I rx ry ⟨_, _, rfl, rfl, q.1, out_flat q.2 rfl⟩
  · cases (show x = _ from hc); cases (show y = _ from hd)
    exact op_pow pins s σ H _ _ v u Q I rx ry ⟨_, _, rfl, rfl, q.1, out_flat q.2 rfl⟩
  · exact q.elim

/-! ### equality -/
mutual
theorem okD_lay : ∀ (n : Nat) (d : D), okD n d = true → (toP d).canLay0 = true ∧ (toP d).depth ≤ n
  | n, .non, h => ⟨by simp only [toP, PyData.canLay0], by simp only [toP, PyData.depth]; exact Nat.zero_le _⟩
  | n, .bl b, h => ⟨by simp only [toP, PyData.canLay0], by simp only [toP, PyData.depth]; exact Nat.zero_le _⟩
  | n, .int b, h => ⟨by simp only [toP, PyData.canLay0], by simp only [toP, PyData.depth]; exact Nat.zero_le _⟩
  | n, .str x, h => ⟨by simpa only [toP, okD] using h, by simp only [toP, PyData.depth]; exact Nat.zero_le _⟩
  | n + 1, .lst xs, h => by
    have := okDs_lay n xs (by simpa only [okD] using h)
    simp only [toP, PyData.canLay0, PyData.depth]
    exact ⟨this.1, by omega⟩
  | n + 1, .tup xs, h => by
    have := okDs_lay n xs (by simpa only [okD] using h)
    simp only [toP, PyData.canLay0, PyData.depth]
    exact ⟨this.1, by omega⟩
  | 0, .lst xs, h => by simp [okD] at h
  | 0, .tup xs, h => by simp [okD] at h
  | n, .ty _, h => by simp [okD] at h
  | n, .adr _, h => by simp [okD] at h
  | n, .dct _ _, h => by simp [okD] at h
  | n, .obj _ _ _, h => by simp [okD] at h
  | n, .ref _, h => by simp [okD] at h
  | n, .scr _, h => by simp [okD] at h
theorem okDs_lay : ∀ (n : Nat) (ds : List D), okDs n ds = true → PyData.canLayAll0 (toPs ds) = true ∧ PyData.depthAll (toPs ds) ≤ n
  | n, [], h => ⟨by simp only [toPs, PyData.canLayAll0], by simp only [toPs, PyData.depthAll]; exact Nat.zero_le _⟩
  | n, x :: xs, h => by
    have h' : okD n x = true ∧ okDs n xs = true := by simpa only [okDs, Bool.and_eq_true] using h
    have a := okD_lay n x h'.1
    have b := okDs_lay n xs h'.2
    simp only [toPs, PyData.canLayAll0, PyData.depthAll, Bool.and_eq_true]
    exact ⟨⟨a.1, b.1⟩, by omega⟩
end
mutual
theorem eqD_P : ∀ (n : Nat) (c d : D), okD n c = true → okD n d = true → PyData.eqv (toP c) (toP d) = eqD c d
  | n, .non, d, hc, hd => by cases d <;> first | rfl | (simp [okD] at hd; done) | (simp [okD, toP, eqD, PyData.eqv]; done)
  | n, .bl b, d, hc, hd => by cases d <;> first | rfl | (simp [okD] at hd; done) | (simp [okD, toP, eqD, PyData.eqv]; done)
  | n, .int b, d, hc, hd => by cases d <;> first | rfl | (simp [okD] at hd; done) | (simp [okD, toP, eqD, PyData.eqv]; done)
  | n, .str b, d, hc, hd => by cases d <;> first | rfl | (simp [okD] at hd; done) | (simp [okD, toP, eqD, PyData.eqv]; done)
  | n + 1, .lst xs, d, hc, hd => by
    cases d with
    | lst ys =>
      simp only [toP, eqD, PyData.eqv]
      exact eqDs_P n xs ys (by simpa only [okD] using hc) (by simpa only [okD] using hd)
    | _ => first | rfl | (simp [okD] at hd; done) | (simp [toP, eqD, PyData.eqv]; done)
  | n + 1, .tup xs, d, hc, hd => by
    cases d with
    | tup ys =>
      simp only [toP, eqD, PyData.eqv]
      exact eqDs_P n xs ys (by simpa only [okD] using hc) (by simpa only [okD] using hd)
    | _ => first | rfl | (simp [okD] at hd; done) | (simp [toP, eqD, PyData.eqv]; done)
  | 0, .lst xs, d, hc, hd => by simp [okD] at hc
  | 0, .tup xs, d, hc, hd => by simp [okD] at hc
  | n, .ty _, d, hc, hd => by simp [okD] at hc
  | n, .adr _, d, hc, hd => by simp [okD] at hc
  | n, .dct _ _, d, hc, hd => by simp [okD] at hc
  | n, .obj _ _ _, d, hc, hd => by simp [okD] at hc
  | n, .ref _, d, hc, hd => by simp [okD] at hc
  | n, .scr _, d, hc, hd => by simp [okD] at hc
theorem eqDs_P : ∀ (n : Nat) (xs ys : List D), okDs n xs = true → okDs n ys = true → PyData.eqvAll (toPs xs) (toPs ys) = eqDs xs ys
  | n, [], [], _, _ => by simp [toPs, PyData.eqvAll, eqDs]
  | n, [], _ :: _, _, _ => by simp [toPs, PyData.eqvAll, eqDs]
  | n, _ :: _, [], _, _ => by simp [toPs, PyData.eqvAll, eqDs]
  | n, x :: xs, y :: ys, hc, hd => by
    have h1 : okD n x = true ∧ okDs n xs = true := by simpa only [okDs, Bool.and_eq_true] using hc
    have h2 : okD n y = true ∧ okDs n ys = true := by simpa only [okDs, Bool.and_eq_true] using hd
    simp only [toPs, PyData.eqvAll, eqDs]
    rw [eqD_P n x y h1.1 h2.1, eqDs_P n xs ys h1.2 h2.2]
end
mutual
theorem RD.dp (hK : X.K = G.K) {H : Hp} : ∀ (n : Nat) (d : D) (v : V), okD n d = true → RW G Z ρ H d v → Dp X.K H v (toP d)
  | n, .non, v, h, r => by cases (show v = _ from r); exact .non
  | n, .bl b, v, h, r => by cases (show v = _ from r); exact .bl b
  | n, .int b, v, h, r => by cases (show v = _ from r); exact .int b
  | n, .str b, v, h, r => by cases (show v = _ from r); exact .str b
  | n + 1, .lst xs, v, h, r => by
    obtain ⟨a, vs, rfl, h1, h2⟩ := r
    exact .lst (.of h1) (RDs.dps hK n xs vs (by simpa only [okD] using h) h2)
  | n + 1, .tup xs, v, h, r => by
    obtain ⟨a, vs, rfl, h1, h2⟩ := r
    exact .tup (by rw [hK]; exact h1) (RDs.dps hK n xs vs (by simpa only [okD] using h) h2)
  | 0, .lst xs, v, h, r => by simp [okD] at h
  | 0, .tup xs, v, h, r => by simp [okD] at h
  | n, .ty _, v, h, r => by simp [okD] at h
  | n, .adr _, v, h, r => by simp [okD] at h
  | n, .dct _ _, v, h, r => by simp [okD] at h
  | n, .obj _ _ _, v, h, r => by simp [okD] at h
  | n, .ref _, v, h, r => by simp [okD] at h
  | n, .scr _, v, h, r => by simp [okD] at h
theorem RDs.dps (hK : X.K = G.K) {H : Hp} : ∀ (n : Nat) (ds : List D) (vs : List V), okDs n ds = true → RDs G Z ρ H ds vs → DpAll X.K H vs (toPs ds)
  | n, [], vs, h, r => by cases (show vs = [] from r); exact .nil
  | n, x :: xs, vs, h, r => by
    obtain ⟨v, w, rfl, h1, h2⟩ := r
    have h' : okD n x = true ∧ okDs n xs = true := by simpa only [okDs, Bool.and_eq_true] using h
    exact .cons (RD.dp hK n x v h'.1 h1.w) (RDs.dps hK n xs w h'.2 h2)
end
theorem shaped_ok {d : D} (h : okD 64 d = true) : SeqAt.shaped (toP d) = true := by
  have := okD_lay 64 d h
  unfold SeqAt.shaped
  rw [this.1, decide_eq_true this.2] <;> rfl
theorem is_off {v : V} {u : Value} {b : Bool} (r : RelV v u) (h : v ≠ .bl b) : plainIs u (.bool b) = true ∧ u ≠ .bool b := by
  cases v with
  | bl x =>
    cases r
    exact ⟨rfl, fun e => h (by cases e; rfl)⟩
  | _ =>
    first
      | (cases r; exact ⟨rfl, fun e => by cases e⟩)
      | (obtain ⟨t, rfl⟩ := r; exact ⟨rfl, fun e => by cases e⟩)
theorem op_isB : OpR X (compareOp .Is) (fun x y H Q => ∃ b, y = .bl b ∧ Q (.bl (decide (x = .bl b))) H) := by
  intro pins s σ H x y v u Q I rx ry h
  obtain ⟨b, rfl, q⟩ := h
  cases (show u = Value.bool b from ry)
  by_cases e : x = .bl b
  · subst e
    cases (show v = Value.bool b from rx)
    exact wpAny_is_self rfl ⟨.bl true, H, I, rfl, by simpa using q⟩
  · obtain ⟨h1, h2⟩ := is_off rx e
    exact wpAny_is_other h1 h2 ⟨.bl false, H, I, rfl, by simpa [e] using q⟩
theorem op_notB : OpR X (compareOp .IsNot) (fun x y H Q => ∃ b, y = .bl b ∧ Q (.bl (!decide (x = .bl b))) H) := by
  intro pins s σ H x y v u Q I rx ry h
  obtain ⟨b, rfl, q⟩ := h
  cases (show u = Value.bool b from ry)
  by_cases e : x = .bl b
  · subst e
    cases (show v = Value.bool b from rx)
    exact wpAny_isNot_self rfl ⟨.bl false, H, I, rfl, by simpa using q⟩
  · obtain ⟨h1, h2⟩ := is_off rx e
    exact wpAny_isNot_other h1 h2 ⟨.bl true, H, I, rfl, by simpa [e] using q⟩
theorem isB_eq {Z : Addr → Prop} {ρ : List Addr} {H : Hp} {c : D} {x : V} {b : Bool} (hc : RW G Z ρ H c x) : decide (x = V.bl b) = isB c b := by
  cases c <;> first
    | (cases (show x = _ from hc); rfl)
    | (cases (show x = _ from hc); simp [isB]; done)
    | (obtain ⟨a, vs, rfl, _⟩ := hc; rfl)
    | (obtain ⟨a, vs, vs', rfl, _⟩ := hc; rfl)
    | (obtain ⟨a, C, dx, ws, vs, rfl, _⟩ := hc; rfl)
    | (obtain ⟨a, _, rfl⟩ := hc; rfl)
    | (obtain ⟨a, rfl, _⟩ := hc; rfl)
theorem RD.flat {Z : Addr → Prop} {ρ : List Addr} {H : Hp} {d : D} {v : V} (h : RW G Z ρ H d v) (f : flatD d = true) : flatV v = true := by
  cases d <;> first
    | (cases (show v = _ from h); rfl)
    | cases f
theorem RDs.flat {Z : Addr → Prop} {ρ : List Addr} {H : Hp} : ∀ {ds : List D} {vs : List V}, RDs G Z ρ H ds vs → ds.all flatD = true → vs.all flatV = true
  | [], vs, h, f => by cases (show vs = [] from h); rfl
  | d :: ds, vs, h, f => by
    obtain ⟨v, r, rfl, h1, h2⟩ := h
    rw [List.all_cons, Bool.and_eq_true] at f ⊢
    exact ⟨RD.flat h1.w f.1, RDs.flat h2 f.2⟩
theorem eqV_D {Z : Addr → Prop} {ρ : List Addr} {H : Hp} {d e : D} {v u : V} (h : RW G Z ρ H d v) (h2 : RW G Z ρ H e u) (f : flatD d = true) (g : flatD e = true) : eqV v u = eqD d e := by
  cases d <;> first
    | (cases (show v = _ from h)
       cases e <;> first
        | (cases (show u = _ from h2); (try unfold eqD); rfl)
        | cases g)
    | cases f
theorem inV_D {Z : Addr → Prop} {ρ : List Addr} {H : Hp} {d : D} {v : V} (h : RW G Z ρ H d v) (f : flatD d = true) : ∀ {ds : List D} {vs : List V}, RDs G Z ρ H ds vs → ds.all flatD = true → inV v vs = inD d ds
  | [], vs, h2, g => by cases (show vs = [] from h2); rfl
  | e :: ds, vs, h2, g => by
    obtain ⟨u, r, rfl, h3, h4⟩ := h2
    rw [List.all_cons, Bool.and_eq_true] at g
    show (eqV u v || inV v r) = (eqD e d || inD d ds)
    rw [eqV_D h3.w h g.1 f, inV_D h f h4 g.2]
theorem okDs_inP {d : D} (h : okD 63 d = true) : ∀ {xs : List D}, okDs 63 xs = true → ((toPs xs).any fun z => PyData.eqv z (toP d)) = inD d xs
  | [], _ => rfl
  | x :: xs, g => by
    have g' : okD 63 x = true ∧ okDs 63 xs = true := by simpa only [okDs, Bool.and_eq_true] using g
    show (PyData.eqv (toP x) (toP d) || (toPs xs).any fun z => PyData.eqv z (toP d)) = (eqD x d || inD d xs)
    rw [eqD_P 63 x d g'.1 h, okDs_inP h g'.2]
theorem op_cmp (hK : X.K = G.K) (hu5 : X.A.units + 65 < cLine) {op : CmpOp} : OpR X (compareOp op) (fun x y H Q => ∃ Z ρ c d, RW G Z ρ H c x ∧ RW G Z ρ H d y ∧ wpCmp op c d fun k => Q (.bl k) H) := by
  have hu : X.A.units + 64 < cLine := by omega
  rintro pins s σ H x y v u Q I rx ry ⟨Z, ρ, c, d, hc, hd, q⟩
  unfold wpCmp at q
  split at q
  · obtain ⟨⟨o1, o2⟩ | ⟨a, b, rfl, rfl⟩, q⟩ := q
    rotate_left
    · cases (show x = _ from hc); cases (show y = _ from hd)
      exact op_eq pins s σ H _ _ v u Q I rx ry ⟨rfl, by rw [dec_str]; exact q⟩
    exact op_eqD hu pins s σ H _ _ v u Q I rx ry ⟨toP c, toP d, RD.dp hK 64 c x o1 hc, RD.dp hK 64 d y o2 hd, shaped_ok o1, shaped_ok o2, by rw [eqD_P 64 c d o1 o2]; exact q⟩
  · obtain ⟨⟨o1, o2⟩ | ⟨a, b, rfl, rfl⟩, q⟩ := q
    rotate_left
    · cases (show x = _ from hc); cases (show y = _ from hd)
      exact op_ne pins s σ H _ _ v u Q I rx ry ⟨rfl, by rw [dec_str]; exact q⟩
    exact op_neD hu pins s σ H _ _ v u Q I rx ry ⟨toP c, toP d, RD.dp hK 64 c x o1 hc, RD.dp hK 64 d y o2 hd, shaped_ok o1, shaped_ok o2, by rw [eqD_P 64 c d o1 o2]; exact q⟩
  · cases (show x = _ from hc); cases (show y = _ from hd)
    exact op_lt pins s σ H _ _ v u Q I rx ry ⟨_, _, rfl, rfl, q⟩
  · cases (show x = _ from hc); cases (show y = _ from hd)
    exact op_le pins s σ H _ _ v u Q I rx ry ⟨_, _, rfl, rfl, q⟩
  · cases (show x = _ from hc); cases (show y = _ from hd)
    exact op_gt pins s σ H _ _ v u Q I rx ry ⟨_, _, rfl, rfl, q⟩
  · cases (show x = _ from hc); cases (show y = _ from hd)
    exact op_ge pins s σ H _ _ v u Q I rx ry ⟨_, _, rfl, rfl, q⟩
  · cases (show y = _ from hd)
    refine op_isN pins s σ H _ _ v u Q I rx ry ⟨rfl, ?_⟩
    have e : decide (x = V.non) = isNon c := by
      cases c <;> first
        | (cases (show x = _ from hc); rfl)
        | (obtain ⟨a, vs, rfl, _⟩ := hc; rfl)
        | (obtain ⟨a, vs, vs', rfl, _⟩ := hc; rfl)
        | (obtain ⟨a, C, dx, ws, vs, rfl, _⟩ := hc; rfl)
        | (obtain ⟨a, _, rfl⟩ := hc; rfl)
        | (obtain ⟨a, rfl, _⟩ := hc; rfl)
    rw [e]; exact q
  · cases (show y = _ from hd)
    refine op_notN pins s σ H _ _ v u Q I rx ry ⟨rfl, ?_⟩
    have e : (!decide (x = V.non)) = (!isNon c) := by
      cases c <;> first
        | (cases (show x = _ from hc); rfl)
        | (obtain ⟨a, vs, rfl, _⟩ := hc; rfl)
        | (obtain ⟨a, vs, vs', rfl, _⟩ := hc; rfl)
        | (obtain ⟨a, C, dx, ws, vs, rfl, _⟩ := hc; rfl)
        | (obtain ⟨a, _, rfl⟩ := hc; rfl)
        | (obtain ⟨a, rfl, _⟩ := hc; rfl)
    rw [e]; exact q
  · cases (show y = _ from hd)
    exact op_isB pins s σ H _ _ v u Q I rx ry ⟨_, rfl, by rw [isB_eq hc]; exact q⟩
  · cases (show y = _ from hd)
    exact op_notB pins s σ H _ _ v u Q I rx ry ⟨_, rfl, by rw [isB_eq hc]; exact q⟩
  · obtain ⟨f1, f2, q⟩ := q
    obtain ⟨a, vs, rfl, h1, h2⟩ := hd
    exact op_in_seq pins s σ H _ _ v u Q I rx ry ⟨a, vs, rfl, .inr (by rw [hK]; exact h1), RD.flat hc f1, RDs.flat h2 f2, by rw [inV_D hc f1 h2 f2]; exact q⟩
  · obtain ⟨⟨f1, f2⟩ | ⟨o1, o2, o3⟩, q⟩ := q
    · obtain ⟨a, vs, rfl, h1, h2⟩ := hd
      exact op_in_seq pins s σ H _ _ v u Q I rx ry ⟨a, vs, rfl, .inl (.of h1), RD.flat hc f1, RDs.flat h2 f2, by rw [inV_D hc f1 h2 f2]; exact q⟩
    · rename_i xs
      have o4 : okDs 63 xs = true := by simpa only [okD] using o3
      exact op_inD hu5 pins s σ H _ _ v u Q I rx ry ⟨toP c, toPs xs, RD.dp hK 64 c x o2 hc, RD.dp hK 64 (.lst xs) y o3 hd, shaped_ok o2, shaped_ok o3, by rw [okDs_inP o1 o4]; exact q⟩
  · obtain ⟨f1, f2, q⟩ := q
    obtain ⟨a, vs, rfl, h1, h2⟩ := hd
    exact op_notIn_seq pins s σ H _ _ v u Q I rx ry ⟨a, vs, rfl, .inr (by rw [hK]; exact h1), RD.flat hc f1, RDs.flat h2 f2, by rw [inV_D hc f1 h2 f2]; exact q⟩
  · obtain ⟨f1, f2, q⟩ := q
    obtain ⟨a, vs, rfl, h1, h2⟩ := hd
    exact op_notIn_seq pins s σ H _ _ v u Q I rx ry ⟨a, vs, rfl, .inl (.of h1), RD.flat hc f1, RDs.flat h2 f2, by rw [inV_D hc f1 h2 f2]; exact q⟩
  · cases (show x = _ from hc); cases (show y = _ from hd)
    obtain ⟨c, rfl, q⟩ := q
    exact op_in_sign pins s σ H _ _ v u Q I rx ry ⟨c, _, rfl, rfl, q⟩
  · cases (show x = _ from hc); cases (show y = _ from hd)
    obtain ⟨c, rfl, q⟩ := q
    exact op_notIn_sign pins s σ H _ _ v u Q I rx ry ⟨c, _, rfl, rfl, q⟩
  · exact q.elim

/-! ### items, slices -/
theorem RDs.at {H : Hp} {ds : List D} {vs : List V} {i : Int} {d : D} (h : RDs G Z ρ H ds vs) (e : atI ds i = some d) : ∃ v, atI vs i = some v ∧ RD G Z ρ H d v := by
  unfold atI at *
  rw [← h.length]
  cases q : ixN ds.length i with
  | none => rw [q] at e; cases e
  | some j =>
    rw [q] at e
    exact h.get e
theorem RDs.cut {H : Hp} {ds : List D} {vs : List V} (h : RDs G Z ρ H ds vs) (lo hi : Option Int) : RDs G Z ρ H (cutL ds lo hi) (cutV vs lo hi) := by
  unfold cutL cutV
  rw [← h.length]
  exact (h.drop _).take _
theorem atI_map {α β : Type} {f : α → β} {xs : List α} {i : Int} {x : α} (h : atI xs i = some x) : atI (xs.map f) i = some (f x) := by
  unfold atI at *
  rw [List.length_map]
  cases q : ixN xs.length i with
  | none => rw [q] at h; cases h
  | some j =>
    rw [q] at h
    have h' : xs[j]? = some x := h
    show (xs.map f)[j]? = _
    rw [List.getElem?_map, h']
    rfl
theorem ix_d (hK : X.K = G.K) : IxR X (fun x y H Q => ∃ Z ρ c d, RW G Z ρ H c x ∧ RW G Z ρ H d y ∧ wpIdx c d fun z => ∀ v, RD G Z ρ H z v → Q v H) := by
  rintro val slice pins s σ H x y v u Q I rx ry ⟨Z, ρ, c, d, hc, hd, q⟩ hs
  unfold wpIdx at q
  split at q
  · obtain ⟨a, vs, rfl, h1, h2⟩ := hc
    cases (show y = _ from hd)
    obtain ⟨z, e, q⟩ := q
    obtain ⟨w, e2, h3⟩ := h2.at e
    exact ix_tup val slice pins s σ H _ _ v u Q I rx ry ⟨a, vs, _, w, rfl, rfl, by rw [hK]; exact h1, e2, q w h3⟩ hs
  · obtain ⟨a, vs, rfl, h1, h2⟩ := hc
    cases (show y = _ from hd)
    obtain ⟨z, e, q⟩ := q
    obtain ⟨w, e2, h3⟩ := h2.at e
    exact ix_list val slice pins s σ H _ _ v u Q I rx ry ⟨a, vs, _, w, rfl, rfl, .of h1, e2, q w h3⟩ hs
  · obtain ⟨a, rfl, h1⟩ := hc
    cases (show y = _ from hd)
    obtain ⟨z, e, q⟩ := q
    exact ix_list val slice pins s σ H _ _ v u Q I rx ry ⟨a, _, _, _, rfl, rfl, by rw [hK]; exact h1.sq, atI_map e, q _ rfl⟩ hs
  · cases (show x = _ from hc); cases (show y = _ from hd)
    obtain ⟨hz, z, e, q⟩ := q
    exact ix_str val slice pins s σ H _ _ v u Q I rx ry ⟨_, _, z, rfl, rfl, by rw [sizeLine_eq]; exact hz, e, q _ rfl⟩ hs
  · exact q.elim
theorem cutL_whole {α : Type} {xs : List α} {lo hi : Option Int} (h : HT.sIx xs.length 0 lo = 0 ∧ HT.sIx xs.length xs.length hi = xs.length) : cutL xs lo hi = xs := by
  unfold cutL
  rw [h.1, h.2, List.drop_zero, Nat.sub_zero, List.take_length]
theorem cut_ints {ns : List Int} (lo hi : Option Int) : cutV (ns.map V.int) lo hi = (cutL ns lo hi).map V.int := by
  unfold cutV cutL
  rw [List.length_map, List.map_take, List.map_drop]
theorem sl_d (hK : X.K = G.K) : SlR X (fun x lo hi H Q => ∃ Z ρ c, RW G Z ρ H c x ∧ wpSli c lo hi fun z => ∀ v H', OutV G Z ρ H z v H' → Q v H') := by
  rintro pins s σ H x v vl vu lo hi sl Q I rx hs pl pu ⟨Z, ρ, c, hc, q⟩
  unfold wpSli at q
  split at q
  · obtain ⟨a, vs, rfl, h1, h2⟩ := hc
    refine sl_tupA pins s σ H _ v vl vu lo hi sl Q I rx hs pl pu ⟨a, vs, rfl, by rw [hK]; exact h1, fun e => ?_, fun _ p hp => q _ _ (out_tup hp (h2.cut lo hi))⟩
    rw [← h2.length] at e
    rw [cutL_whole e] at q
    exact out_flat q ⟨a, vs, rfl, h1, h2⟩
  · obtain ⟨a, vs, rfl, h1, h2⟩ := hc
    exact sl_list pins s σ H _ v vl vu lo hi sl Q I rx hs pl pu ⟨a, vs, rfl, .of h1, fun p hp => q _ _ (out_lst hp (h2.cut lo hi))⟩
  · obtain ⟨a, rfl, h1⟩ := hc
    refine sl_list pins s σ H _ v vl vu lo hi sl Q I rx hs pl pu ⟨a, _, rfl, by rw [hK]; exact h1.sq, fun p hp => q _ _ (out_lst hp ?_)⟩
    rw [cut_ints]
    exact RDs.ints _
  · cases (show x = _ from hc)
    exact sl_str pins s σ H _ v vl vu lo hi sl Q I rx hs pl pu ⟨_, rfl, by rw [sizeLine_eq]; exact q.1, out_flat q.2 rfl⟩
  · exact q.elim
end
end R

set_option autoImplicit false
namespace R
open PySem PySem.Spec PyProof.Rows L2
/-! ## R3: the parts of the small language are what the program's parts do -/
section
variable {X : Cx} {G : Wd} {Z : Addr → Prop} {ρ : List Addr}
/-! ### built-ins -/
def RWs (G : Wd) (Z : Addr → Prop) (ρ : List Addr) (H : Hp) : List D → List V → Prop
  | [], vs => vs = []
  | d :: ds, vs => ∃ v r, vs = v :: r ∧ RW G Z ρ H d v ∧ RWs G Z ρ H ds r
theorem RW.ty {H : Hp} (hK : X.K = G.K) : ∀ {d : D} {v : V} {n : String}, RW G Z ρ H d v → tyD d = some n → TyX X.K H v (.type n)
  | .non, v, n, h, e => by cases (show v = _ from h); cases e; exact .base .non
  | .bl b, v, n, h, e => by cases (show v = _ from h); cases e; exact .base (.bl b)
  | .int b, v, n, h, e => by cases (show v = _ from h); cases e; exact .base (.int b)
  | .str b, v, n, h, e => by cases (show v = _ from h); cases e; exact .base (.str b)
  | .tup xs, v, n, h, e => by
    cases e
    obtain ⟨a, vs, rfl, (h1 | ⟨o, h1⟩) | ⟨o, its, n, h1, h2, _⟩, _⟩ := h
    · exact .base (.tup h1)
    · exact .fTuple h1
    · exact .kTuple (by rw [hK]; exact h1) h2
  | .lst xs, v, n, h, e => by
    cases e
    obtain ⟨a, vs, rfl, h1, _⟩ := h
    exact .base (.lst h1)
  | .scr xs, v, n, h, e => by
    cases e
    obtain ⟨a, rfl, ⟨_, h1 | ⟨o, h1⟩⟩ | ⟨o, its, n, h1, h2, _⟩⟩ := h
    · exact .base (.lst h1)
    · exact .base (.frz h1)
    · exact .kList (by rw [hK]; exact h1) h2
  | .dct ks xs, v, n, h, e => by
    cases e
    obtain ⟨a, ws, vs, rfl, h1, _⟩ := h
    exact .base (.dK h1)
  | .ty _, v, n, h, e => by cases e
  | .adr _, v, n, h, e => by cases e
  | .obj _ _ _, v, n, h, e => by cases e
  | .ref _, v, n, h, e => by cases e
theorem kit_table : ((["NoneType", "bool", "int", "str", "tuple", "list", "dict"] : List String).all fun a => (["int", "bool", "str", "tuple", "list", "dict"] : List String).all fun b => kitB a b == some (isTy a b)) = true := by decide +kernel
theorem tyD_mem {d : D} {n : String} (e : tyD d = some n) : n ∈ (["NoneType", "bool", "int", "str", "tuple", "list", "dict"] : List String) := by
  cases d <;> cases e <;> simp
theorem okTy_mem {b : String} (h : okTy b = true) : b ∈ (["int", "bool", "str", "tuple", "list", "dict"] : List String) := by
  unfold okTy at h
  simp only [Bool.or_eq_true, beq_iff_eq] at h
  simp only [List.mem_cons]
  rcases h with ((((h | h) | h) | h) | h) | h <;> simp [h]
theorem kit_is {K : PySem.W.Frag} {d : D} {n b : String} (e : tyD d = some n) (h : okTy b = true) : PySem.W.kitOne K (.type n) (.type b) = some (isTy n b) := by
  have t := kit_table
  rw [List.all_eq_true] at t
  have t2 := t n (tyD_mem e)
  rw [List.all_eq_true] at t2
  exact kit_ty (eq_of_beq (t2 b (okTy_mem h)))
theorem kit_any {K : PySem.W.Frag} {d : D} {n : String} (e : tyD d = some n) : ∀ {bs : List String}, bs.all okTy = true → PySem.W.kitAny K (.type n) (bs.map Value.type) = some (bs.any (isTy n))
  | [], _ => rfl
  | b :: bs, h => by
    rw [List.all_cons, Bool.and_eq_true] at h
    rw [List.map_cons, List.any_cons]
    refine kitAny_cons (kit_is e h.1) (fun f => ?_) (fun f => ?_)
    · rw [f, Bool.false_or]; exact kit_any e h.2
    · rw [f, Bool.true_or]

def bltV : Bf → Value
  | .len => .builtin "len"
  | .int => .type "int"
  | .bool => .type "bool"
  | .str => .type "str"
  | .tuple => .type "tuple"
  | .list => .type "list"
  | .abs => .builtin "abs"
  | .min2 => .builtin "min"
  | .max2 => .builtin "max"
  | .sum => .builtin "sum"
  | .all => .builtin "all"
  | .any => .builtin "any"
  | .sorted => .builtin "sorted"
  | .min1 => .builtin "min"
  | .max1 => .builtin "max"
  | .repr => .builtin "repr"
def bltN : Bf → Str
  | .len => "len"
  | .int => "int"
  | .bool => "bool"
  | .str => "str"
  | .tuple => "tuple"
  | .list => "list"
  | .abs => "abs"
  | .min2 => "min"
  | .max2 => "max"
  | .sum => "sum"
  | .all => "all"
  | .any => "any"
  | .sorted => "sorted"
  | .min1 => "min"
  | .max1 => "max"
  | .repr => "repr"
theorem RWs.one {H : Hp} {d : D} {vs : List V} (h : RWs G Z ρ H [d] vs) : ∃ v, vs = [v] ∧ RW G Z ρ H d v := by
  obtain ⟨v, r, rfl, h1, h2⟩ := h
  cases (show r = [] from h2)
  exact ⟨v, rfl, h1⟩
theorem RWs.two {H : Hp} {d e : D} {vs : List V} (h : RWs G Z ρ H [d, e] vs) : ∃ v w, vs = [v, w] ∧ RW G Z ρ H d v ∧ RW G Z ρ H e w := by
  obtain ⟨v, r, rfl, h1, h2⟩ := h
  obtain ⟨w, rfl, h3⟩ := RWs.one h2
  exact ⟨v, w, rfl, h1, h3⟩
theorem call_rp (hg : X.A.guards = some []) (hu : X.A.units + 65 < cLine) : CallR X (.builtin "repr") (fun xs H Q => ∃ v d, xs = [v] ∧ Dp X.K H v d ∧ d.hasDict = false ∧ d.depth ≤ 64 ∧ d.showable = true ∧ d.shown.length ≤ sizeLine ∧ Q (.str d.shown) H) := by
  rintro pins s σ H xs us Q I r ⟨v, d, rfl, hd, nd, dp, sh, sz, q⟩
  cases r with
  | cons ru rn =>
    rename_i u us'
    cases rn
    obtain ⟨as, rr⟩ := Dp.reads I d v u hd ru
    cases rr with
    | none => rw [PyData.shown_none] at q; exact PySem.P.repr_of_none ⟨.str _, H, I.tok _, ⟨_, rfl⟩, q⟩
    | bool b => rw [PyData.shown_bool] at q; exact PySem.P.repr_of_bool ⟨.str _, H, I.tok _, ⟨_, rfl⟩, q⟩
    | int i t =>
      rw [PyData.shown_int] at q
      exact PySem.P.repr_of_int (by simpa [PyData.showable] using sh) ⟨.str _, H, I.tok _, ⟨_, rfl⟩, q⟩
    | str x t =>
      rw [PyData.shown_str] at q sz
      exact PySem.P.repr_of_str ⟨.str _, H, I.tok _, ⟨_, rfl⟩, q⟩ sz
    | list h1 h2 h3 h4 => exact repr_of_reads' (.list h1 h2 h3 h4) sh (PyData.noDict_hsm nd) hg (by omega) (fun _ _ e => e) (fun h' u tk hk => ⟨.str _, H, I.kept hk, ⟨_, rfl⟩, q⟩) sz
    | tuple h1 h2 h3 h4 => exact repr_of_reads' (.tuple h1 h2 h3 h4) sh (PyData.noDict_hsm nd) hg (by omega) (fun _ _ e => e) (fun h' u tk hk => ⟨.str _, H, I.kept hk, ⟨_, rfl⟩, q⟩) sz
    | dict _ _ _ _ _ => simp [PyData.hasDict] at nd
mutual
theorem okD_nd : ∀ (n : Nat) (d : D), (toP d).canLay0 = true → (toP d).hasDict = false
  | n, .lst xs, h => by simp only [toP, PyData.hasDict]; exact okDs_nd n xs (by simpa only [toP, PyData.canLay0] using h)
  | n, .tup xs, h => by simp only [toP, PyData.hasDict]; exact okDs_nd n xs (by simpa only [toP, PyData.canLay0] using h)
  | n, .non, h => by simp only [toP, PyData.hasDict]
  | n, .bl _, h => by simp only [toP, PyData.hasDict]
  | n, .int _, h => by simp only [toP, PyData.hasDict]
  | n, .str _, h => by simp only [toP, PyData.hasDict]
  | n, .ty _, h => by simp only [toP, PyData.hasDict]
  | n, .adr _, h => by simp only [toP, PyData.hasDict]
  | n, .dct _ _, h => by simp only [toP, PyData.hasDict]
  | n, .obj _ _ _, h => by simp only [toP, PyData.hasDict]
  | n, .ref _, h => by simp only [toP, PyData.hasDict]
  | n, .scr _, h => by simp only [toP, PyData.hasDict]
theorem okDs_nd : ∀ (n : Nat) (ds : List D), PyData.canLayAll0 (toPs ds) = true → PyData.hasDictAll (toPs ds) = false
  | n, [], h => by simp only [toPs, PyData.hasDictAll]
  | n, x :: xs, h => by
    have h' : (toP x).canLay0 = true ∧ PyData.canLayAll0 (toPs xs) = true := by simpa only [toPs, PyData.canLayAll0, Bool.and_eq_true] using h
    simp only [toPs, PyData.hasDictAll, okD_nd n x h'.1, okDs_nd n xs h'.2, Bool.or_false]
end
theorem call_d (hK : X.K = G.K) (hc : X.calm = true) (gu : X.A.guards = some []) (hu : X.A.units + 65 < cLine) (f : Bf) : CallR X (bltV f) (fun xs H Q => ∃ Z ρ ds, RWs G Z ρ H ds xs ∧ wpBlt f ds fun z => ∀ v H', OutV G Z ρ H z v H' → Q v H') := by
  rintro pins s σ H xs us Q I r ⟨Z, ρ, ds, hd, q⟩
  unfold wpBlt at q
  split at q
  · obtain ⟨v, rfl, a, vs, rfl, h1, h2⟩ := hd.one
    exact call_len pins s σ H _ us Q I r ⟨_, _, rfl, .inr ⟨vs, by rw [hK]; exact h1, h2.length⟩, out_flat q rfl⟩
  · obtain ⟨v, rfl, a, vs, rfl, h1, h2⟩ := hd.one
    exact call_len pins s σ H _ us Q I r ⟨_, _, rfl, .inl ⟨vs, .of h1, h2.length⟩, out_flat q rfl⟩
  · obtain ⟨v, rfl, a, rfl, h1⟩ := hd.one
    exact call_len pins s σ H _ us Q I r ⟨_, _, rfl, .inl ⟨_, by rw [hK]; exact h1.sq, (List.length_map _).symm⟩, out_flat q rfl⟩
  · obtain ⟨v, rfl, h⟩ := hd.one
    cases (show v = _ from h)
    exact call_len pins s σ H _ us Q I r ⟨_, _, rfl, ⟨by rw [sizeLine_eq]; exact q.1, rfl⟩, out_flat q.2 rfl⟩
  · obtain ⟨v, rfl, h⟩ := hd.one
    cases (show v = _ from h)
    exact call_int1 pins s σ H _ us Q I r (.inl ⟨_, rfl, out_flat q rfl⟩)
  · obtain ⟨v, rfl, h⟩ := hd.one
    cases (show v = _ from h)
    exact call_int1 pins s σ H _ us Q I r (.inr ⟨_, rfl, out_flat q rfl⟩)
  · obtain ⟨v, rfl, a, vs, rfl, h1, h2⟩ := hd.one
    exact call_tuple_of pins s σ H _ us Q I r ⟨a, vs, rfl, .inl ⟨.of h1, fun p hp => q _ _ (out_tup hp h2)⟩⟩
  · obtain ⟨v, rfl, a, vs, rfl, h1, h2⟩ := hd.one
    exact call_tuple_of pins s σ H _ us Q I r ⟨a, vs, rfl, .inr ⟨by rw [hK]; exact h1, out_flat q ⟨a, vs, rfl, h1, h2⟩⟩⟩
  · obtain ⟨v, rfl, a, vs, rfl, h1, h2⟩ := hd.one
    exact call_list_of pins s σ H _ us Q I r ⟨a, vs, rfl, .inl (.of h1), fun p hp => q _ _ (out_lst hp h2)⟩
  · obtain ⟨v, rfl, a, rfl, h1⟩ := hd.one
    exact call_list_of pins s σ H _ us Q I r ⟨a, _, rfl, .inl (by rw [hK]; exact h1.sq), fun p hp => q _ _ (out_lst hp (RDs.ints _))⟩
  · obtain ⟨v, rfl, a, vs, rfl, h1, h2⟩ := hd.one
    exact call_list_of pins s σ H _ us Q I r ⟨a, vs, rfl, .inr (by rw [hK]; exact h1), fun p hp => q _ _ (out_lst hp h2)⟩
  · obtain ⟨v, rfl, h⟩ := hd.one
    cases (show v = _ from h)
    exact call_abs pins s σ H _ us Q I r ⟨_, rfl, out_flat q rfl⟩
  · obtain ⟨v, w, rfl, h, h'⟩ := hd.two
    cases (show v = _ from h); cases (show w = _ from h')
    exact call_min2 hc pins s σ H _ us Q I r ⟨_, _, rfl, out_flat q rfl⟩
  · obtain ⟨v, w, rfl, h, h'⟩ := hd.two
    cases (show v = _ from h); cases (show w = _ from h')
    exact call_max2 hc pins s σ H _ us Q I r ⟨_, _, rfl, out_flat q rfl⟩
  · obtain ⟨v, rfl, a, vs, rfl, h1, h2⟩ := hd.one
    obtain ⟨bs, rfl, q⟩ := q
    cases RDs.bls_of h2
    exact cr_all hc pins s σ H _ us Q I r ⟨a, bs, rfl, .of h1, out_flat q rfl⟩
  · obtain ⟨v, rfl, a, vs, rfl, h1, h2⟩ := hd.one
    obtain ⟨bs, rfl, q⟩ := q
    cases RDs.bls_of h2
    exact cr_any hc pins s σ H _ us Q I r ⟨a, bs, rfl, .of h1, out_flat q rfl⟩
  · obtain ⟨v, rfl, a, vs, rfl, h1, h2⟩ := hd.one
    obtain ⟨ns, rfl, q⟩ := q
    cases RDs.ints_of h2
    exact cr_sortedI pins s σ H _ us Q I r ⟨a, ns, rfl, .of h1, fun ns' b p w hb => q ns' p w _ _ (out_lst hb (RDs.ints _))⟩
  · obtain ⟨v, rfl, a, vs, rfl, h1, h2⟩ := hd.one
    obtain ⟨ns, rfl, l, q⟩ := q
    cases RDs.ints_of h2
    exact cr_min hc pins s σ H _ us Q I r ⟨a, ns, rfl, .of h1, l, fun m h1 h2 => out_flat (q m h1 h2) rfl⟩
  · obtain ⟨v, rfl, a, vs, rfl, h1, h2⟩ := hd.one
    obtain ⟨ns, rfl, l, q⟩ := q
    cases RDs.ints_of h2
    exact cr_max hc pins s σ H _ us Q I r ⟨a, ns, rfl, .of h1, l, fun m h1 h2 => out_flat (q m h1 h2) rfl⟩
  · obtain ⟨v, rfl, a, rfl, h1⟩ := hd.one
    exact cr_sum hc pins s σ H _ us Q I r ⟨a, _, rfl, by rw [hK]; exact h1.sq, out_flat q rfl⟩
  · obtain ⟨v, rfl, h⟩ := hd.one
    cases (show v = _ from h)
    exact call_str_int pins s σ H _ us Q I r ⟨_, rfl, q.1, out_flat q.2 rfl⟩
  · obtain ⟨v, rfl, h⟩ := hd.one
    cases (show v = _ from h)
    obtain ⟨n, h1, h2, q⟩ := q
    exact call_int_str pins s σ H _ us Q I r ⟨_, n, rfl, h1, h2, out_flat q rfl⟩
  · obtain ⟨v, rfl, a, vs, rfl, h1, h2⟩ := hd.one
    obtain ⟨ns, rfl, q⟩ := q
    cases RDs.ints_of h2
    exact cr_sum hc pins s σ H _ us Q I r ⟨a, ns, rfl, .of h1, out_flat q rfl⟩
  · obtain ⟨v, rfl, h⟩ := hd.one
    obtain ⟨⟨o1, o2, o3⟩, q⟩ := q
    have lay := okD_lay 64 _ o1
    exact call_rp gu hu pins s σ H _ us Q I r ⟨v, _, rfl, RD.dp hK 64 _ v o1 h, okD_nd 0 _ lay.1, lay.2, o2, by rw [sizeLine_eq]; exact o3, out_flat q rfl⟩
  · exact q.elim
end

/-! ### how a part's reading is said -/
section
variable {G : Wd} {B : Base} {T ρ : List Addr} {env : VE} {vh : VH} {σ : L2.St} {H : Hp}
theorem Mv.trans {Z1 Z2 Z3 : Addr → Prop} {r1 r2 r3 : List Addr} {H1 H2 H3 : Hp} (a : Mv Z1 r1 H1 Z2 r2 H2) (b : Mv Z2 r2 H2 Z3 r3 H3) : Mv Z1 r1 H1 Z3 r3 H3 :=
  ⟨fun n x h => b.pre n x (a.pre n x h), fun x u nz h => (let ⟨n2, h2⟩ := a.keep x u nz h; b.keep x u n2 h2), fun x xs h => b.tup x xs (a.tup x xs h)⟩
theorem Mv.refl {Z1 : Addr → Prop} {r1 : List Addr} {H1 : Hp} : Mv Z1 r1 H1 Z1 r1 H1 := Mv.less fun _ h => h

/-- what comes of an expression, from (ρ, env, H) on -/
def Res (G : Wd) (B : Base) (T ρ : List Addr) (env : VE) (σ : L2.St) (H : Hp) (x : DV) (v : V) (ρ' : List Addr) (env' : VE) (vh' : VH) (H' : Hp) : Prop := match x with
  | .v d => Mv (ZZ B.F T ρ env σ) ρ H (ZZ B.F T ρ' env' σ) ρ' H' ∧ Rel G B T ρ' env' vh' σ H' ∧ RD G (ZZ B.F T ρ' env' σ) ρ' H' d v
  | .fr ds => ∃ a vs, v = .ref a ∧ H' a = some (.lst vs) ∧ Mv (ZZ B.F T ρ env σ) ρ H (ZZ B.F (a :: T) ρ' env' σ) ρ' H' ∧ Rel G B (a :: T) ρ' env' vh' σ H' ∧ RDs G (ZZ B.F (a :: T) ρ' env' σ) ρ' H' ds vs
theorem dropMv {a : Addr} {Z : Addr → Prop} {r : List Addr} {H0 : Hp} (m : Mv Z r H0 (ZZ B.F (a :: T) ρ env σ) ρ H) : Mv Z r H0 (ZZ B.F T ρ env σ) ρ H := m.trans (Mv.less fun b z => by
    rcases z with z | z | z
    · exact .inl z
    · exact .inr (.inl (List.mem_cons_of_mem _ z))
    · exact .inr (.inr z))
theorem Res.d {x : DV} {v : V} {ρ' : List Addr} {env' : VE} {vh' : VH} {H' : Hp} (r : Res G B T ρ env σ H x v ρ' env' vh' H') : Mv (ZZ B.F T ρ env σ) ρ H (ZZ B.F T ρ' env' σ) ρ' H' ∧ Rel G B T ρ' env' vh' σ H' ∧ RD G (ZZ B.F T ρ' env' σ) ρ' H' x.d v := by
  cases x with
  | v d => exact r
  | fr ds =>
    obtain ⟨a, vs, rfl, e, m, R, h⟩ := r
    exact ⟨dropMv m, R.dropT, R.let_go e h⟩
theorem Res.of_out {z : DV} {v : V} {ρ' : List Addr} {env' : VE} {vh' : VH} {H1 H' : Hp} (m : Mv (ZZ B.F T ρ env σ) ρ H (ZZ B.F T ρ' env' σ) ρ' H1) (R : Rel G B T ρ' env' vh' σ H1) (o : OutV G (ZZ B.F T ρ' env' σ) ρ' H1 z v H') :
    Res G B T ρ env σ H z v ρ' env' vh' H' := by
  cases z with
  | v d => exact ⟨m.trans (Mv.same o.1), R.grow o.1, o.2⟩
  | fr ds =>
    obtain ⟨p, vs, rfl, hp, rfl, h⟩ := o
    have m2 : Mv (ZZ B.F T ρ' env' σ) ρ' H1 (ZZ B.F (p :: T) ρ' env' σ) ρ' (upd H1 p (.lst vs)) := Mv.fresh (same_new hp) fun b z => by
      rcases z with z | z | z
      · exact .inl (.inl z)
      · rcases List.mem_cons.mp z with e | z
        · exact .inr (by rw [e]; exact hp)
        · exact .inl (.inr (.inl z))
      · exact .inl (.inr (.inr z))
    exact ⟨p, vs, rfl, upd_same, m.trans m2, R.tmp hp trivial, RDs.move m2 _ _ h⟩
/-- an operand at hand -/
def OpV (G : Wd) (Z : Addr → Prop) (ρ : List Addr) (H : Hp) (σ : L2.St) (o : Op) (v : V) : Prop := match o with
  | .dat d => RD G Z ρ H d v
  | .slt i => σ[i]? = some (some v)
theorem OpV.move {Z Z' : Addr → Prop} {ρ' : List Addr} {H' : Hp} {o : Op} {v : V} (h : OpV G Z ρ H σ o v) (m : Mv Z ρ H Z' ρ' H') : OpV G Z' ρ' H' σ o v := by
  cases o with
  | dat d => exact RD.move m _ _ h
  | slt i => exact h
theorem deref_rw (R : Rel G B T ρ env vh σ H) {d d' : D} {v : V} (h : RW G (ZZ B.F T ρ env σ) ρ H d v) (e : deref vh d = some d') : RW G (ZZ B.F T ρ env σ) ρ H d' v := by
  cases d with
  | ref n =>
    obtain ⟨a, ha, rfl⟩ := h
    unfold deref at e
    dsimp only at e
    split at e
    · rename_i xs q
      cases e
      obtain ⟨vs, h1, h2⟩ := R.ob n _ a q ha
      exact ⟨a, vs, rfl, h1, h2⟩
    · rename_i ks xs q
      cases e
      obtain ⟨ws, vs, h1, e1, e2, h2⟩ := R.ob n _ a q ha
      exact ⟨a, ws, vs, rfl, h1, e1, e2, h2⟩
    · cases e
  | _ => cases e; exact h
theorem OpV.rw (R : Rel G B T ρ env vh σ H) {o : Op} {d : D} {v : V} (h : OpV G (ZZ B.F T ρ env σ) ρ H σ o v) (e : o.ld env vh = some d) : RW G (ZZ B.F T ρ env σ) ρ H d v := by
  cases o with
  | dat c => exact deref_rw R (RD.w h) e
  | slt i =>
    unfold Op.ld at e
    dsimp only at e
    split at e
    · rename_i s hs
      split at e
      · rename_i c hc
        have q := R.st i s hs
        have h : σ[i]? = some (some v) := h
        cases s with
        | no => cases hc
        | val c' =>
          cases hc
          obtain ⟨w, e1, h1⟩ := q
          rw [h] at e1
          cases e1
          exact deref_rw R h1.w e
        | own ds =>
          cases hc
          obtain ⟨a, vs, e1, h1, h2⟩ := q
          rw [h] at e1
          cases e1
          cases e
          exact ⟨a, vs, rfl, h1, h2⟩
      · cases e
    · cases e

def tD (G : Wd) (B : Base) (w : VE → VH → QE → Prop) : TE := fun σ H Q => ∃ T ρ env vh, Rel G B T ρ env vh σ H ∧ w env vh fun x env' vh' => ∀ ρ' v H', Res G B T ρ env σ H x v ρ' env' vh' H' → Q v H'
def tO (G : Wd) (B : Base) (w : VE → VH → (Op → VE → VH → Prop) → Prop) : TE := fun σ H Q => ∃ T ρ env vh, Rel G B T ρ env vh σ H ∧ w env vh fun o env' vh' => ∀ ρ' v H', Mv (ZZ B.F T ρ env σ) ρ H (ZZ B.F T ρ' env' σ) ρ' H' → Rel G B T ρ' env' vh' σ H' → OpV G (ZZ B.F T ρ' env' σ) ρ' H' σ o v → Q v H'
def tB (G : Wd) (B : Base) (w : VE → VH → QE → Prop) : TT := fun σ H Q => ∃ T ρ env vh, Rel G B T ρ env vh σ H ∧ w env vh fun x env' vh' => ∃ k, x = .v (.bl k) ∧ ∀ ρ' H', Mv (ZZ B.F T ρ env σ) ρ H (ZZ B.F T ρ' env' σ) ρ' H' → Rel G B T ρ' env' vh' σ H' → Q k H'
def tL (G : Wd) (B : Base) (w : VE → VH → (List D → VE → VH → Prop) → Prop) : TA := fun σ H Q => ∃ T ρ env vh, Rel G B T ρ env vh σ H ∧ w env vh fun ds env' vh' => ∀ ρ' vs H', Mv (ZZ B.F T ρ env σ) ρ H (ZZ B.F T ρ' env' σ) ρ' H' → Rel G B T ρ' env' vh' σ H' → RDs G (ZZ B.F T ρ' env' σ) ρ' H' ds vs → Q vs H'
def OpVs (G : Wd) (Z : Addr → Prop) (ρ : List Addr) (H : Hp) (σ : L2.St) : List Op → List V → Prop
  | [], vs => vs = []
  | o :: os, vs => ∃ v r, vs = v :: r ∧ OpV G Z ρ H σ o v ∧ OpVs G Z ρ H σ os r
theorem OpVs.rw (R : Rel G B T ρ env vh σ H) : ∀ {os : List Op} {ds : List D} {vs : List V}, OpVs G (ZZ B.F T ρ env σ) ρ H σ os vs → ldAll env vh os = some ds → RWs G (ZZ B.F T ρ env σ) ρ H ds vs
  | [], ds, vs, h, e => by cases e; exact h
  | o :: os, ds, vs, h, e => by
    obtain ⟨v, r, rfl, h1, h2⟩ := h
    unfold ldAll at e
    split at e
    · rename_i d es e1 e2
      cases e
      exact ⟨v, r, rfl, h1.rw R e1, OpVs.rw R h2 e2⟩
    · cases e
def tOs (G : Wd) (B : Base) (w : VE → VH → (List Op → VE → VH → Prop) → Prop) : TA := fun σ H Q => ∃ T ρ env vh, Rel G B T ρ env vh σ H ∧ w env vh fun os env' vh' => ∀ ρ' vs H', Mv (ZZ B.F T ρ env σ) ρ H (ZZ B.F T ρ' env' σ) ρ' H' → Rel G B T ρ' env' vh' σ H' → OpVs G (ZZ B.F T ρ' env' σ) ρ' H' σ os vs → Q vs H'
end
theorem _root_.L2.PE.imp {X : Cx} {e : Expr} {t t' : TE} (h : PE X e t) (f : ∀ σ H Q, t' σ H Q → t σ H Q) : PE X e t' := ⟨fun pins s σ H Q I hw => h.run pins s σ H Q I (f σ H Q hw)⟩
theorem _root_.L2.PT.imp {X : Cx} {e : Expr} {t t' : TT} (h : PT X e t) (f : ∀ σ H Q, t' σ H Q → t σ H Q) : PT X e t' := ⟨fun pins s σ H Q I hw => h.run pins s σ H Q I (f σ H Q hw)⟩
theorem _root_.L2.PA.imp {X : Cx} {e : List Expr} {t t' : TA} (h : PA X e t) (f : ∀ σ H Q, t' σ H Q → t σ H Q) : PA X e t' := ⟨fun pos pins s σ H Q I hw => h.run pos pins s σ H Q I (f σ H Q hw)⟩
end R

set_option autoImplicit false
namespace R
open PySem PySem.Spec PyProof.Rows L2
/-! ## RX3: sorted(set(xs)) of ints -/
/-- a set at its birth -/
abbrev setN (w : World) : Obj := { cls := .type "set", dict := none, data := .set #[] 0 (.fresh 0 0 (!w.params.followText "set-order")) }
section
variable {P : Program} {w : World} {A : Around} {E : Value → Shared → Prop} {s : Shared}
set_option maxHeartbeats 8000000 in
/-- set(l), l a list of ints (the road of the layer's own rule for tuples) -/
theorem call_setL {l : Addr} {items : Array Value} (ns : List Int) {Q : Value → Shared → Prop} (free : A.handled = none) (isl : s.heap.IsList l items) (inI : IntsAre items.toList ns) (few : ns.length + 1 < scanBound)
    (k : ∀ (h' : Heap) (tk c : Nat), SetR w h' s.heap.objs.size (fun j => decide (j ∈ ns)) c → c ≤ ns.length → (∀ b o, s.heap.get? b = some o → h'.get? b = some o) → Q (.ref s.heap.objs.size) { s with heap := h', toks := tk }) : wpAny (model P w) A (call (.type "set") [.ref l]) Q E s := by
  have szi : items.size = ns.length := by rw [← Array.length_toList]; exact IntsAre.length inI
  obtain ⟨c, tl, mro⟩ := F.called_set.mro
  have made := F.called_set.made
  have sub := F.called_set.sub
  refine wpAny_call (codeAny_of_tree (show wpAny _ _ (callAny (.type "set") _) _ _ _ from wpAny_pure ⟨Code.quiet_builtin _ (by decide +kernel), codeAny_builtin F.entry_type_call ?_⟩))
  rw [Around.under_plain (weight_type_call_type "set" [.ref l] []) rfl]
  have n1 := F.called_set.notType
  have n2 := F.called_set.canCreate
  have n3 := F.typeCall_set_1 (.ref l)
  repeat (any_goals (first | assumption | wp_step))
  refine codeAny_mono (code_set_led1 (.ref l) (E := E) (Q₁ := fun obj t => obj = .ref s.heap.objs.size ∧ t = { s with heap := s.heap.push (setN w) }) ⟨rfl, rfl⟩) fun r t hr => ?_
  match r, hr with
  | .error e, hr => exact hr
  | .ok .next, hr => exact hr.elim
  | .ok .brk, hr => exact hr.elim
  | .ok .cont, hr => exact hr.elim
  | .ok (.ret obj), ⟨eo, et⟩ =>
    subst eo et
    have got : (s.heap.push (setN w)).get? s.heap.objs.size = some (setN w) := Heap.get?_push_size _ rfl
    have isS : Shared.TypeIs { s with heap := s.heap.push (setN w) } (.ref s.heap.objs.size) "set" := ⟨_, got, rfl⟩
    have m1 := F.called_set.init.lookup
    have m2 := F.called_set.init.bind (.ref s.heap.objs.size)
    repeat (any_goals (first | assumption | wp_step))
    refine codeAny_mono (codeAny_call_builtin (R := wants (fun v t => v = .none ∧ ∃ h' tk c, t = { s with heap := h', toks := tk } ∧ SetR w h' s.heap.objs.size (fun j => decide (j ∈ ns)) c ∧ c ≤ ns.length ∧ (∀ b o, s.heap.get? b = some o → h'.get? b = some o)) E) F.called_set.init.plain F.entry_set_init (check_set_init_1 isS ?_)) fun v t ht => ?_
    · obtain ⟨⟨oc, od, dat, sl⟩, hol, e1, nl, e2⟩ := isl
      simp only at e1 e2
      subst e1 e2
      have hol2 : (s.heap.push (setN w)).get? l = some { cls := .type "list", dict := od, data := .seq items nl, slots := sl } := Heap.get?_push_of_some _ hol
      have ps := F.sub_list_set
      have pf := F.sub_list_frozenset
      have nd : (Value.type "list" == Value.type "dict") = false := by decide
      have isl2 : (s.heap.push (setN w)).IsList l items := ⟨_, hol2, rfl, nl, rfl⟩
      unfold Builtin.«set.__init__» noKeywords Builtin.Frozenset.updateFrom
      generalize eqI : pyIter = it
      wp_walk
      subst eqI
      refine wpAny_pyIter_list isl2 (wpAny_bind (wpAny_runValue ?_))
      have lt : l < s.heap.objs.size := Heap.lt_size hol
      have free3 : A.in1.in1.in1.handled = none := by simp [free]
      have sz : (s.heap.push (setN w)).objs.size = s.heap.objs.size + 1 := Heap.size_push ..
      have apart : l ≠ (s.heap.push (setN w)).objs.size := by rw [sz]; exact Nat.ne_of_lt (Nat.lt_succ_of_lt lt)
      have apart2 : s.heap.objs.size ∉ [(s.heap.push (setN w)).objs.size, l] := by
        rw [sz]
        intro z
        simp only [List.mem_cons, List.not_mem_nil, or_false] at z
        rcases z with z | z
        · exact Nat.ne_of_lt (Nat.lt_succ_self _) z
        · exact Nat.ne_of_gt lt z
      have vals : ∀ (i : Nat) (v : Value), items[i]? = some v → ∃ k t, ns[i]? = some k ∧ v = .int k t := by
        intro i v hv
        have hi : i < ns.length := by rw [← szi]; exact (Array.getElem?_eq_some_iff.mp hv).1
        obtain ⟨t, e⟩ := PyProof.Rows.IntsAre.int_at inI i v (by rw [Array.getElem?_toList]; exact hv)
        rw [List.getD_eq_getElem?_getD, List.getElem?_eq_getElem hi] at e
        exact ⟨ns[i], t, List.getElem?_eq_getElem hi, e⟩
      refine set_update_ints ((Walks.list free3 _ l apart items).toS) s.heap.objs.size apart2 ns szi few vals (items.size - 0) 0 _ (by omega) (Nat.zero_le _) ⟨⟨_, Heap.get?_push_size _ rfl, rfl, rfl⟩, isl2.push _⟩ ?hS0 ?hR
      case hS0 => exact ⟨0, Nat.le_refl 0, setR_new_at (Heap.get?_push_of_some _ got)⟩
      case hR =>
        rintro ⟨h', g2, d2, tk2, os2⟩ c2 mv le st
        obtain rfl : g2 = s.gens := mv.gens
        obtain rfl : d2 = s.drawn := mv.drawn
        obtain rfl : os2 = s.os := mv.os
        show wpAny _ _ _ _ _ _
        refine wpAny_pure (show wpAny _ _ (ret Value.none) _ _ _ from wpAny_pure ⟨rfl, h', tk2, c2, rfl, st, by rw [← szi]; exact le, fun b o e => ?_⟩)
        have b0 : b < s.heap.objs.size := Heap.lt_size e
        refine mv.heap b o (fun z => ?_) (Heap.get?_push_of_some _ (Heap.get?_push_of_some _ e))
        simp only [List.mem_cons, List.not_mem_nil, or_false, sz] at z
        rcases z with z | z
        · exact Nat.ne_of_lt b0 z
        · exact Nat.ne_of_lt (Nat.lt_succ_of_lt b0) z
    · match v, ht with
      | .error e, ht => exact ht
      | .ok .next, ht => exact ht.elim
      | .ok .brk, ht => exact ht.elim
      | .ok .cont, ht => exact ht.elim
      | .ok (.ret v), ⟨ev, h', tk, c2, et, st, le, kp⟩ =>
        subst ev et
        repeat (any_goals (first | assumption | wp_step))
        exact k _ _ _ st le kp
end
section
variable {X : Cx} {a : Expr} {ta : TE} {p p2 q pos : Pos}
/-- sorted(set(a)) -/
def tSSet (K : PySem.W.Frag) (ta : TE) : TE := fun σ H Q => ta σ H fun x H1 => ∃ (l : Addr) (ns : List Int), x = V.ref l ∧ (SqL K H1 l (ns.map V.int) ∨ SqT K H1 l (ns.map V.int)) ∧ ns.length < 64 ∧
  ∀ (ns' : List Int) (p : Addr), ns'.Pairwise (· < ·) → (∀ k : Int, k ∈ ns' ↔ k ∈ ns) → H1 p = none → Q (.ref p) (upd H1 p (.lst (ns'.map V.int)))
theorem pe_sset (hc : X.calm = true) (hg : Gl X "sorted") (hm : X.mg "sorted" = none) (hg2 : Gl X "set") (hm2 : X.mg "set" = none) (ha : PE X a ta) (na : starEach [a] X.env = (false, eval a X.env) :: starEach [] X.env) :
    PE X (.Call (.Name "sorted" p) [.Call (.Name "set" p2) [a] [] q] [] pos) (tSSet X.K ta) := by
  refine ⟨fun pins s σ H Q I h => ?_⟩
  refine Call_ (ld_blt I hg hm (by decide +kernel : bootBuiltins ("sorted" : Str) = some (.builtin "sorted")) ?_)
  refine PyProof.Rows.callWith_builtin1 (PyProof.Rows.args_cons ?_ rfl) rfl rfl
  refine Call_ (ld_blt I hg2 hm2 PyProof.Rows.boot_set ?_)
  refine PyProof.Rows.callWith_type1 (PyProof.Rows.args_cons (thn (ha.run pins s σ H _ I h) fun v s1 ⟨x, H1, I1, r1, q1⟩ => PyProof.Rows.args_nil ?_) na) na rfl
  obtain ⟨l, ns, rfl, hq, h1, q1⟩ := q1
  cases r1
  have fin : ∀ (h' : Heap) (tk c : Nat), SetR X.w h' s1.heap.objs.size (fun j => decide (j ∈ ns)) c → c ≤ ns.length → (∀ b o, s1.heap.get? b = some o → h'.get? b = some o) → wpAny (model X.prog X.w) X.A (call (.builtin "sorted") [.ref s1.heap.objs.size]) (EP X pins σ Q) X.xe { s1 with heap := h', toks := tk } := by
    intro h' tk c hS hc' hk
    have I2 : Inv X pins σ H1 { s1 with heap := h', toks := tk } := I1.kept hk
    refine sorted_set hS (I2.ok.hd hc) (by omega) fun s' p out c2 ns' kp g o hp hgt hi hs hm' hl => ?_
    have hlen : (ns'.map V.int).length ≤ sizeLine := by rw [List.length_map, hl, sizeLine_eq]; omega
    have hn : H1 p = none := I2.hok.fresh hp
    have J : Inv X pins σ (upd H1 p (.lst (ns'.map V.int))) { ({ s1 with heap := h', toks := tk } : Shared) with heap := s'.heap, gens := s'.gens, drawn := s'.drawn, toks := s'.toks } :=
      I2.call (ch := []) (Un.laid kp hp hn) (I2.hok.laid kp hp ⟨hlen, out.toList, c2, vals_of_ints hi, hgt⟩) (by rw [g]; exact I2.bare) (fun _ z => nomatch z)
    have e : s' = { ({ s1 with heap := h', toks := tk } : Shared) with heap := s'.heap, gens := s'.gens, drawn := s'.drawn, toks := s'.toks } := by
      cases s'
      cases o
      rfl
    rw [e]
    exact ⟨.ref p, _, J, rfl, q1 ns' p hs (fun k => (hm' k).trans decide_eq_true_iff) hn⟩
  rcases hq with hq | hq
  · obtain ⟨its, r, pl, hz⟩ := I1.list hq
    refine call_setL ns (I1.ok.hd hc) pl.isList (by simpa using r.ints) (by unfold scanBound; omega) fun h' tk c hS hc' hk => PyProof.Rows.args_nil (fin h' tk c hS hc' hk)
  · obtain ⟨its, r, pl, hz⟩ := I1.tuple hq
    refine call_set_tupI ns (I1.ok.hd hc) pl (by simpa using r.ints) (by unfold scanBound; omega) fun h' tk c hS hc' hk => PyProof.Rows.args_nil (fin h' tk c hS hc' hk)
end
end R

set_option autoImplicit false
namespace R
open PySem PySem.Spec PyProof.Rows L2
/-! ### xs[a:] = ys -/
section
variable {prog : Program} {w : World} {A : Around} {E : Value → Shared → Prop} {s : Shared}
theorem bounds_up {a n : Nat} (ha : a ≤ n) : sliceBounds (some (a : Int)) none none n = ((a : Int), (n : Int), 1) := by
  simp only [sliceBounds, Option.getD_none]
  have h1 : ¬ ((a : Int) < 0) := by omega
  simp only [h1, if_false, show (1 : Int) > 0 by decide, if_true]
  congr 1
  omega
theorem setItem_up {l b sl : Addr} {items new : Array Value} {n n2 : Nat} {vl : Value} {a : Nat} {Q : Unit → Shared → Prop}
    (e : s.heap.get? l = some { cls := .type "list", data := .seq items n }) (e2 : s.heap.get? b = some { cls := .type "list", data := .seq new n2 }) (hne : l ≠ b)
    (hs : s.heap.IsSliceOf sl vl .none .none) (pl : IsPart vl (some (a : Int))) (ha : a ≤ items.size)
    (hsz : items.size + new.size ≤ sizeLine) (h : Q () { s with heap := s.heap.update l (Obj.mapSeq fun xs => xs.extract 0 a ++ new ++ xs.extract items.size xs.size) }) :
    wpAny (model prog w) A (setItem (.ref l) (.ref sl) (.ref b)) Q E s := by
  have hl : s.heap.IsList l items := PySem.IsL.isList e
  have hb : s.heap.IsList b new := PySem.IsL.isList e2
  obtain ⟨os, hos, hcs, hds⟩ := id hs
  have hTs : s.TypeIs (.ref sl) "slice" := ⟨os, hos, hcs⟩
  have hstep : ¬ ((rawPart none == rawInt 0) = true) := Bool.false_ne_true
  have hsame : Builtin.List.listSameRef (.ref l) (.ref b) = false := by
    unfold Builtin.List.listSameRef
    exact beq_eq_false_iff_ne.mpr hne
  have hmax : (max (a : Int) (items.size : Int)).toNat = items.size := by omega
  have hz' : ((fun xs : Array Value => xs.extract 0 a ++ new ++ xs.extract items.size xs.size) items).size ≤ sizeLine + 1 := by
    simp only [Array.size_append, Array.size_extract]
    omega
  unfold setItem
  try with_reducible refine wpAny_holding ?_
  first | refine wpAny_bind (wpAny_pure ?_) | skip
  refine wpAny_bind (wpAny_sequenceKey hl.typeIs (by decide) ?_)
  refine wpAny_bind (wpAny_callSpecial?_slot (name := Str.ofString "__setitem__") hl.typeIs slot_list_setitem
    (wpAny_call_entry slot_list_setitem hl.typeIs entry_list_setitem ?_ (args_list_setitem _ _ _)))
  show wpAny _ _ (Builtin.List.listSubscript? (.ref sl) >>= _) _ _ s
  refine wpAny_bind ?_
  unfold Builtin.List.listSubscript?
  refine wpAny_bind (wpAny_specialOf hTs slice_no_index ?_)
  simp only [Option.isNone_none, if_true]
  refine wpAny_pure ?_
  show wpAny _ _ (typeOf (.ref sl) >>= _) _ _ s
  refine wpAny_bind (wpAny_typeOf hTs ?_)
  first
    | rw [if_neg (by decide)]
    | refine PySem.W.KFB.if_not (by decide) ?_
  rw [listSliceParts_eq]
  refine wpAny_bind (wpAny_bind (wpAny_field hos hds (x := .none) rfl (wpAny_bind (wpAny_listPart .none ?_))))
  rw [if_neg hstep]
  refine wpAny_bind (wpAny_field hos hds (x := vl) rfl (wpAny_bind (wpAny_listPart pl ?_)))
  refine wpAny_bind (wpAny_field hos hds (x := .none) rfl (wpAny_bind (wpAny_listPart .none (wpAny_pure ?_))))
  first
    | simp only [hsame, Bool.false_eq_true, if_false]
    | refine PySem.W.KFB.if_not hsame ?_
  refine wpAny_bind (m := Builtin.List.listAllItems (.ref b) "must assign iterable to extended slice") ?_
  unfold Builtin.List.listAllItems
  refine wpAny_bind (wpAny_typeOf hb.typeIs ?_)
  first
    | refine PySem.W.KFB.if_so (by decide) ?_
    | rw [if_pos (by decide)]
    | simp only [beq_self_eq_true, Bool.true_or, if_true]
  unfold Builtin.List.listItems
  refine wpAny_bind (wpAny_seqItems e2 rfl (wpAny_pure ?_))
  refine wpAny_bind (wpAny_bind (wpAny_seqItems e rfl (wpAny_pure ?_)))
  refine wpAny_bind (wpAny_of_eq ((sliceIndices_raw (some (a : Int)) none none items.size (by simp)).trans (congrArg (pure : Int × Int × Int → Sem (Int × Int × Int)) (bounds_up ha))) ?_)
  show wpAny _ _ (if ((1 : Int) == 1) = true then _ else _) _ _ s
  rw [if_pos (by decide)]
  refine wpAny_bind (wpAny_rule ?_)
  first
    | simp only [notLongL hsz, Bool.false_eq_true, if_false]
    | refine PySem.W.KFB.if_not (notLongL hsz) ?_
  first | refine wpAny_bind (wpAny_pure ?_) | skip
  show wpAny _ _ (updateSeq l (fun xs => xs.extract 0 ((a : Int)).toNat ++ new ++ xs.extract (max (a : Int) (items.size : Int)).toNat xs.size) >>= _) _ _ s
  rw [hmax, Int.toNat_natCast]
  refine wpAny_bind (wpAny_updateSeq (hz := Nat.le_trans (Nat.le_add_right _ _) hsz) (_hz' := hz') e rfl ?_)
  refine wpAny_bind (wpAny_letGo ?_)
  first
    | exact wpAny_bind (wpAny_pure (wpAny_pure ⟨.none, rfl, wpAny_pure h⟩))
    | exact wpAny_pure ⟨.none, rfl, wpAny_pure h⟩
end
section
variable {X : Cx}
theorem set_up {pins : List (Addr × Obj)} {s : Shared} {σ : L2.St} {H : Hp} {l b sl : Addr} {xs ys : List V} {a : Int} {vl : Value} {Q : Unit → Shared → Prop} (I : Inv X pins σ H s)
    (hH : H l = some (.lst xs)) (hB : H b = some (.lst ys)) (hne : l ≠ b) (hs : s.heap.IsSliceOf sl vl .none .none) (pl : IsPart vl (some a)) (h0 : 0 ≤ a) (ha : a ≤ xs.length)
    (hz : xs.length + ys.length ≤ sizeLine) (h : ∀ s', Inv X pins σ (upd H l (.lst (xs.take a.toNat ++ ys))) s' → Q () s') :
    wpAny (model X.prog X.w) X.A (setItem (.ref l) (.ref sl) (.ref b)) Q X.xe s := by
  obtain ⟨z, its, n, r, hl, e⟩ := I.lstM hH
  obtain ⟨z2, its2, n2, r2, hl2, e2⟩ := I.lstM hB
  obtain ⟨a', rfl⟩ := Int.eq_ofNat_of_zero_le h0
  simp only [Int.toNat_natCast] at h
  refine setItem_up (a := a') e e2 hne hs pl (by rw [List.size_toArray]; omega) (by rw [List.size_toArray, List.size_toArray]; omega) (h _ ?_)
  refine I.lset (its' := its.take a' ++ its2) (t' := s.toks) hH e ?_ (Vals.append (r.take _) r2) ?_
  · have := L2.splice_eq its its2 a' its.toArray.size
    refine this.trans ?_
    rw [List.drop_of_length_le (by simp), List.append_nil]
  · rw [List.length_append, List.length_take]
    omega
/-- o[a:] = v: what it writes -/
def gUp (to : TE) (tl : TO) : TG := fun v σ H Q => to σ H fun o H1 => tl σ H1 fun lo H2 => ∃ l b xs ys a, o = .ref l ∧ v = .ref b ∧ lo = some a ∧ H2 l = some (.lst xs) ∧ H2 b = some (.lst ys) ∧ l ≠ b ∧ 0 ≤ a ∧ a ≤ xs.length ∧ xs.length + ys.length ≤ sizeLine ∧ Q σ (upd H2 l (.lst (xs.take a.toNat ++ ys)))
theorem pg_up {o lo : Expr} {to : TE} {tl : TO} {p2 pos : Pos} (ho : PE X o to) (hl : PO X (some lo) tl) : PG X (.Subscript o (.Slice (some lo) none none p2) pos) (gUp to tl) := by
  refine ⟨fun pins s σ H v u Q I r h => ?_⟩
  show wpAny _ _ (do
      let ov ← holding [u] (eval o X.env)
      let iv ← holding [u, ov] (eval (.Slice (some lo) none none p2) X.env)
      standAt pos
      holding [u, ov, iv] (setItem ov iv u)
      release [iv, u, ov] []) _ _ _
  refine wpAny_bind (wpAny_holding (thn (ho.run pins s σ H _ I h) fun ov s1 ⟨x, H1, I1, r1, q1⟩ => ?_))
  refine wpAny_bind (wpAny_holding (wpAny_Slice (thn (hl.run pins s1 σ H1 _ I1 q1) fun vl s2 ⟨l, H2, I2, pl, q2⟩ => ?_)))
  rw [evalPart_none]
  refine wpAny_pure ?_
  refine wpAny_pure ?_
  obtain ⟨p, b, xs, ys, a, rfl, rfl, rfl, e1, e2, hne, h0, ha, hz, q⟩ := q2
  cases r1
  cases r
  have I4 : Inv X pins σ H2 { s2 with heap := s2.heap.push { cls := .type "slice", data := .fields #[vl, .none, .none] } } := I2.kept (t' := s2.toks) fun b ob q => Heap.get?_push_of_some _ q
  refine wpAny_bind (wpAny_standAt (wpAny_bind (wpAny_holding (set_up I4 e1 e2 hne (Heap.IsSliceOf.new ..) pl h0 ha hz fun s' I' => ?_))))
  exact wpAny_release ⟨σ, _, I', q⟩
/-! ### count(True), index(True) -/
def rCntB (K : PySem.W.Frag) : V → List V → Hp → VK → Prop := fun x xs H Q => ∃ (p : Addr) (bs : List Bool), x = .ref p ∧ xs = [.bl true] ∧ SqL K H p (bs.map V.bl) ∧ Q (.int (bs.count true : Nat)) H
def eqT (v : Value) : Bool := match v with
  | .bool b => b
  | _ => false
theorem eqT_at {bs : List Bool} {A : Around} {s : Shared} {y : Value} (h : y ∈ bs.map Value.bool) : SeqAt.EqAt A s y (.bool true) (eqT y) := by
  obtain ⟨b, _, rfl⟩ := List.mem_map.mp h
  have := SeqAt.EqAt.bool_bool (A := A) (s := s) b true
  cases b <;> exact this
theorem eqT_count : ∀ bs : List Bool, (bs.map Value.bool).countP eqT = bs.count true
  | [] => rfl
  | b :: bs => by
    rw [List.map_cons, List.countP_cons, eqT_count bs, List.count_cons]
    cases b <;> rfl
theorem mt_cntB : MtR X "list.count" (rCntB X.K) := by
  intro pins s σ H x xs v us Q I rx rxs h
  obtain ⟨p, bs, rfl, rfl, hs, q⟩ := h
  cases rx
  obtain ⟨u, rfl, ru⟩ := rxs.one
  cases ru
  obtain ⟨its, rv, ⟨⟨cls, dd, data, sl⟩, n, ho, hc, hdn, hd⟩, hlen⟩ := I.list hs
  simp only at hc hd
  subst hc hd
  have hi := Vals.bls rv
  subst hi
  refine call_meets PySem.F.slot_list_count ⟨_, ho, rfl⟩ PySem.F.entry_list_count (PySem.F.args_list_count_2 _ _)
    (SeqAt.list_countAt p (bs.map Value.bool).toArray n dd sl (.bool true) eqT) ⟨ho, fun y hy => eqT_at (by simpa using hy), ?_⟩
  refine ⟨.int (bs.count true : Nat), H, I.tok _, ⟨s.toks, ?_⟩, q⟩
  show Value.int (((bs.map Value.bool).toArray.toList.countP eqT : Nat) : Int) s.toks = Value.int ((bs.count true : Nat) : Int) s.toks
  rw [List.toList_toArray, eqT_count]
theorem idx_before : ∀ (bs : List Bool) (m : Nat), m < bs.idxOf true → bs[m]? ≠ some true
  | [], m, h => by simp
  | true :: bs, m, h => by
    rw [List.idxOf_cons_self] at h
    omega
  | false :: bs, 0, h => by simp
  | false :: bs, m + 1, h => by
    rw [List.idxOf_cons] at h
    have h : m < bs.idxOf true := by simpa using h
    rw [List.getElem?_cons_succ]
    exact idx_before bs m h
def rIdxB (K : PySem.W.Frag) : V → List V → Hp → VK → Prop := fun x xs H Q => ∃ (p : Addr) (bs : List Bool), x = .ref p ∧ xs = [.bl true] ∧ SqL K H p (bs.map V.bl) ∧ true ∈ bs ∧ Q (.int (bs.idxOf true : Nat)) H
theorem mt_idxB : MtR X "list.index" (rIdxB X.K) := by
  intro pins s σ H x xs v us Q I rx rxs h
  obtain ⟨p, bs, rfl, rfl, hs, hm, q⟩ := h
  cases rx
  obtain ⟨u, rfl, ru⟩ := rxs.one
  cases ru
  obtain ⟨its, rv, ⟨⟨cls, dd, data, sl⟩, n, ho, hc, hdn, hd⟩, hlen⟩ := I.list hs
  simp only at hc hd
  subst hc hd
  have hi := Vals.bls rv
  subst hi
  have hj : bs.idxOf true < bs.length := List.idxOf_lt_length_of_mem hm
  have hl : bs.length ≤ sizeLine := by simpa using hlen
  rw [sizeLine_eq] at hl
  refine call_meets PySem.F.slot_list_index ⟨_, ho, rfl⟩ PySem.F.entry_list_index (PySem.F.args_list_index_2 _ _)
    (SeqAt.list_indexAt p (bs.map Value.bool).toArray n dd sl (.bool true) eqT (bs.idxOf true) (by simpa using hj) (by omega) ?_ ?_) ⟨ho, fun y hy => eqT_at (by simpa using hy), ?_⟩
  · have := List.getElem_idxOf hj
    simp only [List.getElem_toArray, List.getElem_map]
    rw [this]
    rfl
  · intro m hm2 hlt
    simp only [List.getElem_toArray, List.getElem_map]
    simp only [List.size_toArray, List.length_map] at hm2
    have : bs[m] ≠ true := fun e => idx_before bs m hlt (by rw [List.getElem?_eq_getElem hm2, e])
    cases hb : bs[m] with
    | false => rfl
    | true => exact absurd hb this
  · exact ⟨.int (bs.idxOf true : Nat), H, I.tok _, ⟨s.toks, rfl⟩, q⟩
end
end R

set_option autoImplicit false
namespace R
open PySem PySem.Spec PyProof.Rows L2
/-! ## R4: rules for expressions -/
/-- an exception's fields -/
def XF (G : Wd) (Z : Addr → Prop) (ρ : List Addr) (H : Hp) (ns : List Str) (d : Option Addr) (xs : List D) : Prop := match d with
  | none => xs = [] ∧ ns = []
  | some a => ns ≠ [] ∧ ∃ ws vs, H a = some (.xd ws) ∧ ws.map (·.1) = ns ∧ ws.map (·.2) = vs ∧ RDs G Z ρ H xs vs
/-- the wish about exceptions -/
def WK (G : Wd) (B : Base) (K : XP) : WX := fun cls d σ H => ∃ c C xs T ρ env vh, G.cl c = some C ∧ cls = .ref C ∧ Rel G B T ρ env vh σ H ∧ XF G (ZZ B.F T ρ env σ) ρ H (G.fl c) d xs ∧ K c xs env vh
/-- what comes of a call -/
def ResF (G : Wd) (B : Base) (x : DV) (v : V) (ρ' : List Addr) (vh' : VH) (H' : Hp) : Prop := match x with
  | .v d => Rel G B [] ρ' [] vh' [] H' ∧ RD G (ZZ B.F [] ρ' [] []) ρ' H' d v
  | .fr ds => ∃ a vs, v = .ref a ∧ H' a = some (.lst vs) ∧ Rel G B [a] ρ' [] vh' [] H' ∧ RDs G (ZZ B.F [a] ρ' [] []) ρ' H' ds vs
/-- a promise, as the layer has it -/
def spV (G : Wd) (sp : VSp) : Sp := fun vs H Q E => ∃ (F : Addr → Prop) (ρ : List Addr) (vh : VH) (ds : List D), Rel G ⟨F, fun a => a ∈ ρ, H, ρ⟩ [] ρ [] vh [] H ∧ RDs G (ZZ F [] ρ [] []) ρ H ds vs ∧ sp.run ds vh fun o vh' => match o with
  | .ok x => ∀ ρ' v H', ResF G ⟨F, fun a => a ∈ ρ, H, ρ⟩ x v ρ' vh' H' → Q v H'
  | .exc c xs => ∀ ρ' C d H', G.cl c = some C → Rel G ⟨F, fun a => a ∈ ρ, H, ρ⟩ [] ρ' [] vh' [] H' → XF G (ZZ F [] ρ' [] []) ρ' H' (G.fl c) d xs → E (.ref C) d H'

/-- the names of built-ins that may be called -/
def bltNames : List Str := ["len", "int", "bool", "str", "tuple", "list", "abs", "min", "max", "sum", "all", "any", "range", "zip", "enumerate", "reversed", "isinstance", "dict", "sorted", "set", "repr"]
/-- a name of the module (those within an except suite begin otherwise) -/
def okG (x : Str) : Bool := decide (x.cps.toList.head? ≠ some 37)
/-- an own error that may be made -/
def MkX (G : Wd) (K : PySem.W.Frag) (mg : Str → Option Value) (c : Str) : Prop := ∃ C, G.cl c = some C ∧ ((G.fl c = [] ∧ Ex0 K mg c C) ∨ ∃ f fI, G.fl c = [f] ∧ Ex1 K mg c f C fI)
/-- a class that a clause names; anc: the classes above each error -/
def HdX (G : Wd) (K : PySem.W.Frag) (mg : Str → Option Value) (tb : List (Str × List Str × List Str)) (x : Str) : Prop := (x == ("__debug__" : Str)) = false ∧ ∃ cv, mg x = some cv ∧ ∀ c C, G.cl c = some C → ∀ ns anc, tb.lookup c = some (ns, anc) → ns = G.fl c ∧ PySem.W.exmOne K (.ref C) cv = some (anc.contains x)
/-- a class that isinstance asks an error for -/
def IsX (G : Wd) (K : PySem.W.Frag) (mg : Str → Option Value) (tb : List (Str × List Str × List Str)) (x : Str) : Prop := (x == ("__debug__" : Str)) = false ∧ ∃ cv, ((mg x = some cv ∧ ∃ A, cv = .ref A) ∨ (mg x = none ∧ bootBuiltins x = some cv ∧ x ≠ "__name__" ∧ ∃ T, cv = .type T)) ∧
  ∀ c C, G.cl c = some C → ∀ ns anc, tb.lookup c = some (ns, anc) → ExcC K C ∧ PySem.W.kitOne K (.ref C) cv = some (anc.contains x)
/-- what the fields of errors want -/
def FdX (G : Wd) (K : PySem.W.Frag) : Prop := ∀ c C, G.cl c = some C → XfC K C ∧ ∀ f, f ∈ G.fl c → PySem.W.findIn K (.ref C) f = some none
/-- within an except suite calls are not looked at -/
def hotN : Str := "%hot"
/-- a def's own name; methods, classes that are made, attributes stand in the list of names behind . * @ -/
def okF (x : Str) : Bool := match x.cps.toList.head? with
  | some c => !(c == 37 || c == 46 || c == 42 || c == 64)
  | none => true
def pmN (m : Str) : Str := ("." : Str) ++ m
def pcN (m : Str) : Str := ("*" : Str) ++ m
def pfN (m : Str) : Str := ("@" : Str) ++ m
theorem app_head {p : Nat} {x m : Str} (h : x.cps.toList = [p]) : (x ++ m).cps.toList = p :: m.cps.toList := by
  show (x.cps ++ m.cps).toList = _
  rw [Array.toList_append, h]
  rfl
theorem str_inj {x y : Str} (h : x.cps.toList = y.cps.toList) : x = y := by
  cases x; cases y
  exact congrArg Str.mk (Array.toList_inj.mp h)
theorem pmN_list (m : Str) : (pmN m).cps.toList = 46 :: m.cps.toList := app_head rfl
theorem pcN_list (m : Str) : (pcN m).cps.toList = 42 :: m.cps.toList := app_head rfl
theorem pfN_list (m : Str) : (pfN m).cps.toList = 64 :: m.cps.toList := app_head rfl
theorem pmN_inj {m k : Str} (h : pmN m = pmN k) : m = k := str_inj (by
  have := congrArg (fun x : Str => x.cps.toList) h
  simp only [pmN_list] at this
  exact (List.cons.inj this).2)
theorem pcN_inj {m k : Str} (h : pcN m = pcN k) : m = k := str_inj (by
  have := congrArg (fun x : Str => x.cps.toList) h
  simp only [pcN_list] at this
  exact (List.cons.inj this).2)
theorem pfN_inj {m k : Str} (h : pfN m = pfN k) : m = k := str_inj (by
  have := congrArg (fun x : Str => x.cps.toList) h
  simp only [pfN_list] at this
  exact (List.cons.inj this).2)
theorem hd_ne {x y : Str} (h : x.cps.toList.head? ≠ y.cps.toList.head?) : x ≠ y := fun e => h (by rw [e])
theorem pm_hot (m : Str) : pmN m ≠ hotN := hd_ne (by rw [pmN_list]; exact fun h => absurd (Option.some.inj (h.trans (rfl : hotN.cps.toList.head? = some 37))) (by decide))
theorem pc_hot (m : Str) : pcN m ≠ hotN := hd_ne (by rw [pcN_list]; exact fun h => absurd (Option.some.inj (h.trans (rfl : hotN.cps.toList.head? = some 37))) (by decide))
theorem pf_hot (m : Str) : pfN m ≠ hotN := hd_ne (by rw [pfN_list]; exact fun h => absurd (Option.some.inj (h.trans (rfl : hotN.cps.toList.head? = some 37))) (by decide))
theorem pm_pc (m k : Str) : pmN m ≠ pcN k := hd_ne (by rw [pmN_list, pcN_list]; exact fun h => absurd (Option.some.inj h) (by decide))
theorem pm_pf (m k : Str) : pmN m ≠ pfN k := hd_ne (by rw [pmN_list, pfN_list]; exact fun h => absurd (Option.some.inj h) (by decide))
theorem pc_pf (m k : Str) : pcN m ≠ pfN k := hd_ne (by rw [pcN_list, pfN_list]; exact fun h => absurd (Option.some.inj h) (by decide))
theorem ok_pm (m : Str) : okF (pmN m) = false := by unfold okF; rw [pmN_list]; rfl
theorem ok_pc (m : Str) : okF (pcN m) = false := by unfold okF; rw [pcN_list]; rfl
theorem ok_pf (m : Str) : okF (pfN m) = false := by unfold okF; rw [pfN_list]; rfl
structure XOk (X : Cx) (G : Wd) (B : Base) (K : XP) (Φ : Fns) (Γ : Cns) (fs : List Str) : Prop where
  hK : X.K = G.K
  calm : hotN ∉ fs → X.calm = true
  nd : X.N.Nodup
  hu : X.A.units + 65 < cLine
  gu : X.A.guards = some []
  tk : Takes X (WK G B K)
  fn : ∀ f, f ∈ fs → okF f = true → ∃ (a : Addr) (fd : FuncData) (ps : List Str) (k : Nat), X.mg f = some (.ref a) ∧ PySem.W.keepIn X.K (.ref a) = true ∧ Binds X.K fd ps [] ∧ FnG X.prog X.w X.K X.mg X.base (L2.CX X.prog X.w) k a fd ps (spV G (Φ f)) ∧ RmG k X.A ∧ (f == ("__debug__" : Str)) = false
  cn : ∀ x d, Γ x = some d → okG x = true → ∃ u v, X.mg x = some u ∧ RelV v u ∧ (∀ Z ρ H, RD G Z ρ H d v) ∧ (x == ("__debug__" : Str)) = false
  bl : ∀ x, x ∈ bltNames → X.mg x = none
  mt : ∀ m, pmN m ∈ fs → ∀ c C, G.ci c = some C → (Φ (mN c m)).ex → ∃ (a : Addr) (fd : FuncData) (ps : List Str) (k : Nat), Cls X.K C ∧ Meth X.K C m a ∧ Binds X.K fd ps [] ∧ FnG X.prog X.w X.K X.mg X.base (L2.CX X.prog X.w) k a fd ps (spV G (Φ (mN c m))) ∧ RmG k X.A
  mkC : ∀ c, pcN c ∈ fs → ∃ (C a : Addr) (fd : FuncData) (ps : List Str) (k : Nat), G.ci c = some C ∧ X.mg c = some (.ref C) ∧ Mk X.K C a ∧ Binds X.K fd ps [] ∧ FnG X.prog X.w X.K X.mg X.base (L2.CX X.prog X.w) k a fd ps (spV G (Φ (mN c "__init__"))) ∧ RmG (k + 1) X.A ∧ (c == ("__debug__" : Str)) = false ∧ C8.InsC X.K C
  ic : ∀ f, pfN f ∈ fs → ∀ c C, G.ci c = some C → Cls X.K C ∧ NoAttr X.K C f
  rm : hotN ∉ fs → X.A.depth + 1 < recursionLimit
  ok : hotN ∉ fs → ∀ x d, Γ x = some d → okG x = true
  er : hotN ∈ fs → ∀ (i : Nat) (f : Str) (e : Expr) (pos : Pos), PE X e (tVar i) → (∀ n, attributeBase e n X.env (eval e X.env) = eval e X.env) → PE X (.Attribute e f pos) (tD G B fun env vh Q => ∃ d, (Op.slt i).raw env = some d ∧ wpAttr Γ vh d f fun z => fin false (.v z) env vh Q)

section
variable {X : Cx} {G : Wd} {B : Base} {K : XP} {Φ : Fns} {Γ : Cns} {fs : List Str}
theorem XOk.blk (o : XOk X G B K Φ Γ fs) (hc : hotN ∉ fs) (B' : Base) (s : Shared) (H : Hp) (scope : Scope) (ce : Env) (fp : List Addr) : XOk (X.blk s H scope ce fp) G B' (fun _ _ _ _ => False) Φ Γ fs :=
  ⟨o.hK, o.calm, o.nd, o.hu, o.gu, fun u s' x => takes0 u s' (by
    obtain ⟨a, B1, sI, pins, σ, H, cls, d, e, I, nb, up, sky, na, os, ag, w⟩ := x
    obtain ⟨_, _, _, _, _, _, _, _, _, _, _, k⟩ := w
    exact k.elim), o.fn, o.cn, o.bl, o.mt, o.mkC, o.ic, o.rm, o.ok, fun h => absurd h hc⟩

variable {T ρ : List Addr} {env : VE} {vh : VH} {σ : L2.St} {H : Hp}
theorem Rel.res {d : D} {v : V} (R : Rel G B T ρ env vh σ H) (h : RD G (ZZ B.F T ρ env σ) ρ H d v) : Res G B T ρ env σ H (.v d) v ρ env vh H := ⟨Mv.refl, R, h⟩
theorem freezeMv {i : Nat} {d : D} : Mv (ZZ B.F T ρ env σ) ρ H (ZZ B.F T ρ (env.set i (.val d)) σ) ρ H := Mv.less fun b z => by
  rcases z with z | z | z | ⟨j, z⟩
  · exact .inl z
  · exact .inr (.inl z)
  · exact .inr (.inr (.inl z))
  · rcases Own.of_setE z with ⟨_, _, e, _⟩ | q
    · cases e
    · exact .inr (.inr (.inr ⟨j, q.2⟩))

/-! ### constants, names -/
theorem re_flat {e : Expr} {d : D} {v : V} (h : PE X e (tC v)) (hd : ∀ Z ρ H, RD G Z ρ H d v) : PE X e (tD G B fun env vh Q => fin false (.v d) env vh Q) :=
  h.imp fun σ H Q ⟨T, ρ, env, vh, R, w⟩ => w ρ v H (R.res (hd _ _ _))
theorem re_var {i : Nat} {e : Expr} (h : PE X e (tVar i)) : PE X e (tD G B fun env vh Q => wpE Φ Γ (.var i) K false env vh Q) :=
  h.imp fun σ H Q ⟨T, ρ, env, vh, R, w⟩ => by
    obtain ⟨s, hs, w⟩ := w
    have q := R.st i s hs
    cases s with
    | no => exact w.elim
    | val d =>
      obtain ⟨v, e, r⟩ := q
      exact ⟨v, e, w ρ v H (R.res r)⟩
    | own ds =>
      have R2 := R.freeze hs
      have li : i < env.length := (List.getElem?_eq_some_iff.mp hs).1
      obtain ⟨v, e, r⟩ := R2.st i (.val (.lst ds)) (by rw [List.getElem?_set_self li])
      exact ⟨v, e, w ρ v H ⟨freezeMv, R2, r⟩⟩
theorem re_glo (o : XOk X G B K Φ Γ fs) {x : Str} {pos : Pos} (hx : okG x = true) (hg : Gl X x) : PE X (.Name x pos) (tD G B fun env vh Q => wpE Φ Γ (.glo x) K false env vh Q) := by
  refine ⟨fun pins s σ H Q I ⟨T, ρ, env, vh, R, d, hd, w⟩ => ?_⟩
  obtain ⟨u, v, h1, h2, h3, h4⟩ := o.cn x d hd hx
  exact (pe_glob hg h1 h2 h4).run pins s σ H Q I (w ρ v H (R.res (h3 _ _ _)))

/-! ### operands -/
theorem ro_val {e : Expr} {w : VE → VH → QE → Prop} (h : PE X e (tD G B w)) (mono : ∀ env vh (Q Q' : QE), (∀ x e h, Q x e h → Q' x e h) → w env vh Q → w env vh Q') : PE X e (tO G B fun env vh Q => w env vh fun x e1 h1 => Q (.dat x.d) e1 h1) :=
  h.imp fun σ H Q ⟨T, ρ, env, vh, R, q⟩ => ⟨T, ρ, env, vh, R, mono _ _ _ _ (fun x e1 h1 k ρ' v H' r => k ρ' v H' r.d.1 r.d.2.1 r.d.2.2) q⟩
theorem ro_bor {i : Nat} {e : Expr} (h : PE X e (tVar i)) : PE X e (tO G B fun env vh Q => (∃ s, env[i]? = some s ∧ s.ok) ∧ Q (.slt i) env vh) :=
  h.imp fun σ H Q ⟨T, ρ, env, vh, R, ⟨s, hs, ns⟩, w⟩ => by
    have q := R.st i s hs
    cases s with
    | no => exact ns.elim
    | val d =>
      obtain ⟨v, e, r⟩ := q
      exact ⟨v, e, w ρ v H Mv.refl R e⟩
    | own ds =>
      obtain ⟨a, vs, e, _⟩ := q
      exact ⟨.ref a, e, w ρ (.ref a) H Mv.refl R e⟩

/-! ### operators -/
theorem tO2 {wa wb : VE → VH → (Op → VE → VH → Prop) → Prop} (ma : ∀ env vh (Q Q' : Op → VE → VH → Prop), (∀ x e h, Q x e h → Q' x e h) → wa env vh Q → wa env vh Q') (mb : ∀ env vh (Q Q' : Op → VE → VH → Prop), (∀ x e h, Q x e h → Q' x e h) → wb env vh Q → wb env vh Q')
    {R2 : V → V → Hp → Prop} {P : Op → Op → VE → VH → Prop} (R : Rel G B T ρ env vh σ H) (w : wa env vh fun x e1 h1 => wb e1 h1 fun y e2 h2 => P x y e2 h2)
    (f : ∀ x y ρ' env' vh' v u H', Mv (ZZ B.F T ρ env σ) ρ H (ZZ B.F T ρ' env' σ) ρ' H' → Rel G B T ρ' env' vh' σ H' → OpV G (ZZ B.F T ρ' env' σ) ρ' H' σ x v → OpV G (ZZ B.F T ρ' env' σ) ρ' H' σ y u → P x y env' vh' → R2 v u H') :
    tO G B wa σ H fun v H1 => tO G B wb σ H1 fun u H2 => R2 v u H2 :=
  ⟨T, ρ, env, vh, R, ma _ _ _ _ (fun x e1 h1 k ρ1 v H1 m1 R1 o1 => ⟨T, ρ1, e1, h1, R1, mb _ _ _ _ (fun y e2 h2 p ρ2 u H2 m2 Rr o2 => f x y ρ2 e2 h2 v u H2 (m1.trans m2) Rr (o1.move m2) o2 p) k⟩) w⟩
theorem re_bin (o : XOk X G B K Φ Γ fs) {op : Operator} {a b : Expr} {pos : Pos} {wa wb : VE → VH → (Op → VE → VH → Prop) → Prop} (ma : ∀ env vh (Q Q' : Op → VE → VH → Prop), (∀ x e h, Q x e h → Q' x e h) → wa env vh Q → wa env vh Q') (mb : ∀ env vh (Q Q' : Op → VE → VH → Prop), (∀ x e h, Q x e h → Q' x e h) → wb env vh Q → wb env vh Q')
    (ha : PE X a (tO G B wa)) (hb : PE X b (tO G B wb)) :
    PE X (.BinOp a op b pos) (tD G B fun env vh Q => wa env vh fun x e1 h1 => wb e1 h1 fun y e2 h2 => ∃ c d, x.ld e2 h2 = some c ∧ y.ld e2 h2 = some d ∧ wpBin op c d fun z => fin false z e2 h2 Q) :=
  (pe_op (op_bin o.hK) ha hb).imp fun σ H Q ⟨T, ρ, env, vh, R, w⟩ => tO2 ma mb R w fun x y ρ' env' vh' v u H' m R' ox oy ⟨c, d, e1, e2, q⟩ =>
    ⟨_, ρ', c, d, ox.rw R' e1, oy.rw R' e2, wpBin_mono (fun z k v H1 out => k ρ' v H1 (Res.of_out m R' out)) q⟩
theorem re_neg {a : Expr} {pos : Pos} {wa : VE → VH → QE → Prop} (ma : ∀ env vh (Q Q' : QE), (∀ x e h, Q x e h → Q' x e h) → wa env vh Q → wa env vh Q') (ha : PE X a (tD G B wa)) :
    PE X (.UnaryOp .USub a pos) (tD G B fun env vh Q => wa env vh fun x e1 h1 => ∃ i, x = .v (.int i) ∧ fin false (.v (.int (-i))) e1 h1 Q) :=
  (pe_un un_neg ha).imp fun σ H Q ⟨T, ρ, env, vh, R, w⟩ => ⟨T, ρ, env, vh, R, ma _ _ _ _ (fun x e1 h1 ⟨i, ex, k⟩ ρ' v H' r => by
    subst ex
    obtain ⟨m, R', hv⟩ := r
    exact ⟨i, hv, k ρ' _ H' ⟨m, R', rfl⟩⟩) w⟩
/-- a value that is True or False -/
theorem pt_bool {e : Expr} {w : VE → VH → (Bool → VE → VH → Prop) → Prop} (h : PT X e (fun σ H Q => ∃ T ρ env vh, Rel G B T ρ env vh σ H ∧ w env vh fun k env' vh' => ∀ ρ' H', Mv (ZZ B.F T ρ env σ) ρ H (ZZ B.F T ρ' env' σ) ρ' H' → Rel G B T ρ' env' vh' σ H' → Q k H'))
    (mono : ∀ env vh (Q Q' : Bool → VE → VH → Prop), (∀ x e h, Q x e h → Q' x e h) → w env vh Q → w env vh Q') : PT X e (tB G B fun env vh Q => w env vh fun k e h => Q (.v (.bl k)) e h) :=
  h.imp fun σ H Q ⟨T, ρ, env, vh, R, q⟩ => ⟨T, ρ, env, vh, R, mono _ _ _ _ (fun k e h ⟨k', ek, z⟩ ρ' H' m R' => by cases ek; exact z ρ' H' m R') q⟩
theorem re_cmp (o : XOk X G B K Φ Γ fs) {op : CmpOp} {a b : Expr} {pos : Pos} {wa wb : VE → VH → (Op → VE → VH → Prop) → Prop} (ma : ∀ env vh (Q Q' : Op → VE → VH → Prop), (∀ x e h, Q x e h → Q' x e h) → wa env vh Q → wa env vh Q') (mb : ∀ env vh (Q Q' : Op → VE → VH → Prop), (∀ x e h, Q x e h → Q' x e h) → wb env vh Q → wb env vh Q')
    (ha : PE X a (tO G B wa)) (hb : PE X b (tO G B wb)) (hm : behindInMarks op b = false) :
    PE X (.Compare a [op] [b] pos) (tD G B fun env vh Q => wa env vh fun x e1 h1 => wb e1 h1 fun y e2 h2 => ∃ c d, x.ld e2 h2 = some c ∧ y.ld e2 h2 = some d ∧ wpCmp op c d fun k => Q (.v (.bl k)) e2 h2) :=
  (pe_cmpR (op_cmp o.hK o.hu) ha hb hm).imp fun σ H Q ⟨T, ρ, env, vh, R, w⟩ => tO2 ma mb R w fun x y ρ' env' vh' v u H' m R' ox oy ⟨c, d, e1, e2, q⟩ =>
    ⟨_, ρ', c, d, ox.rw R' e1, oy.rw R' e2, wpCmp_mono (fun k z => z ρ' _ H' ⟨m, R', rfl⟩) q⟩
theorem rt_cmp (o : XOk X G B K Φ Γ fs) {op : CmpOp} {a b : Expr} {pos : Pos} {wa wb : VE → VH → (Op → VE → VH → Prop) → Prop} (ma : ∀ env vh (Q Q' : Op → VE → VH → Prop), (∀ x e h, Q x e h → Q' x e h) → wa env vh Q → wa env vh Q') (mb : ∀ env vh (Q Q' : Op → VE → VH → Prop), (∀ x e h, Q x e h → Q' x e h) → wb env vh Q → wb env vh Q')
    (ha : PE X a (tO G B wa)) (hb : PE X b (tO G B wb)) (hm : behindInMarks op b = false) :
    PT X (.Compare a [op] [b] pos) (tB G B fun env vh Q => wa env vh fun x e1 h1 => wb e1 h1 fun y e2 h2 => ∃ c d, x.ld e2 h2 = some c ∧ y.ld e2 h2 = some d ∧ wpCmp op c d fun k => Q (.v (.bl k)) e2 h2) :=
  (pt_cmpR (op_cmp o.hK o.hu) ha hb hm).imp fun σ H Q ⟨T, ρ, env, vh, R, w⟩ => tO2 ma mb R w fun x y ρ' env' vh' v u H' m R' ox oy ⟨c, d, e1, e2, q⟩ =>
    ⟨_, ρ', c, d, ox.rw R' e1, oy.rw R' e2, wpCmp_mono (fun k ⟨k', ek, z⟩ => ⟨k, rfl, by cases ek; exact z ρ' H' m R'⟩) q⟩

theorem ma_chain (o : XOk X G B K Φ Γ fs) {op op' : CmpOp} {a b c : Expr} {wa wb wc : VE → VH → (Op → VE → VH → Prop) → Prop} (ma : ∀ env vh (Q Q' : Op → VE → VH → Prop), (∀ x e h, Q x e h → Q' x e h) → wa env vh Q → wa env vh Q') (mb : ∀ env vh (Q Q' : Op → VE → VH → Prop), (∀ x e h, Q x e h → Q' x e h) → wb env vh Q → wb env vh Q')
    (mc : ∀ env vh (Q Q' : Op → VE → VH → Prop), (∀ x e h, Q x e h → Q' x e h) → wc env vh Q → wc env vh Q') {σ : L2.St} {H : Hp} {Q : VK} {T ρ : List Addr} {env : VE} {vh : VH} (R : Rel G B T ρ env vh σ H)
    (w : wa env vh fun x e1 h1 => wb e1 h1 fun y e2 h2 => ∃ d e, x.ld e2 h2 = some d ∧ y.ld e2 h2 = some e ∧ wpCmp op d e fun k =>
      ifP k (wc e2 h2 fun z e3 h3 => ∃ e f, y.ld e3 h3 = some e ∧ z.ld e3 h3 = some f ∧ wpCmp op' e f fun k => ∀ ρ' H', Mv (ZZ B.F T ρ env σ) ρ H (ZZ B.F T ρ' e3 σ) ρ' H' → Rel G B T ρ' e3 h3 σ H' → Q (.bl k) H')
        (∀ ρ' H', Mv (ZZ B.F T ρ env σ) ρ H (ZZ B.F T ρ' e2 σ) ρ' H' → Rel G B T ρ' e2 h2 σ H' → Q (.bl false) H')) :
    tChain (fun x y H Q => ∃ Z ρ c d, RW G Z ρ H c x ∧ RW G Z ρ H d y ∧ wpCmp op c d fun k => Q (.bl k) H) (fun x y H Q => ∃ Z ρ c d, RW G Z ρ H c x ∧ RW G Z ρ H d y ∧ wpCmp op' c d fun k => Q (.bl k) H) (tO G B wa) (tO G B wb) (tO G B wc) σ H Q :=
  tO2 ma mb R w fun x y ρ' env' vh' v u H' m R' ox oy ⟨d, e, e1, e2, q⟩ => ⟨_, ρ', d, e, ox.rw R' e1, oy.rw R' e2, wpCmp_mono (fun k z => ⟨k, rfl, by
    cases k with
    | false => exact L2.iteF (z ρ' H' m R')
    | true =>
      refine L2.iteT ⟨T, ρ', env', vh', R', mc _ _ _ _ (fun zz e3 h3 ⟨e, f, p1, p2, q3⟩ ρ3 w3 H3 m3 R3 oz => ?_) z⟩
      exact ⟨_, ρ3, e, f, (oy.move m3).rw R3 p1, oz.rw R3 p2, wpCmp_mono (fun k z => z ρ3 H3 (m.trans m3) R3) q3⟩⟩) q⟩
theorem chain_mono {wa wb wc : VE → VH → (Op → VE → VH → Prop) → Prop} (ma : ∀ env vh (Q Q' : Op → VE → VH → Prop), (∀ x e h, Q x e h → Q' x e h) → wa env vh Q → wa env vh Q') (mb : ∀ env vh (Q Q' : Op → VE → VH → Prop), (∀ x e h, Q x e h → Q' x e h) → wb env vh Q → wb env vh Q')
    (mc : ∀ env vh (Q Q' : Op → VE → VH → Prop), (∀ x e h, Q x e h → Q' x e h) → wc env vh Q → wc env vh Q') {op op' : CmpOp} {env : VE} {vh : VH} {P P' : Bool → VE → VH → Prop} (f : ∀ k e h, P k e h → P' k e h)
    (w : wa env vh fun x e1 h1 => wb e1 h1 fun y e2 h2 => ∃ d e, x.ld e2 h2 = some d ∧ y.ld e2 h2 = some e ∧ wpCmp op d e fun k =>
      ifP k (wc e2 h2 fun z e3 h3 => ∃ e f, y.ld e3 h3 = some e ∧ z.ld e3 h3 = some f ∧ wpCmp op' e f fun k => P k e3 h3) (P false e2 h2)) :
    wa env vh fun x e1 h1 => wb e1 h1 fun y e2 h2 => ∃ d e, x.ld e2 h2 = some d ∧ y.ld e2 h2 = some e ∧ wpCmp op d e fun k =>
      ifP k (wc e2 h2 fun z e3 h3 => ∃ e f, y.ld e3 h3 = some e ∧ z.ld e3 h3 = some f ∧ wpCmp op' e f fun k => P' k e3 h3) (P' false e2 h2) :=
  ma _ _ _ _ (fun x e1 h1 => mb _ _ _ _ fun y e2 h2 ⟨d, e, p, q, r⟩ => ⟨d, e, p, q, wpCmp_mono (fun k => ifP_mono (mc _ _ _ _ fun z e3 h3 ⟨e, g, p, q, r⟩ => ⟨e, g, p, q, wpCmp_mono (fun _ => f _ _ _) r⟩) (f _ _ _)) r⟩) w
theorem re_chain (o : XOk X G B K Φ Γ fs) {op op' : CmpOp} {a b c : Expr} {pos : Pos} {wa wb wc : VE → VH → (Op → VE → VH → Prop) → Prop} (ma : ∀ env vh (Q Q' : Op → VE → VH → Prop), (∀ x e h, Q x e h → Q' x e h) → wa env vh Q → wa env vh Q') (mb : ∀ env vh (Q Q' : Op → VE → VH → Prop), (∀ x e h, Q x e h → Q' x e h) → wb env vh Q → wb env vh Q')
    (mc : ∀ env vh (Q Q' : Op → VE → VH → Prop), (∀ x e h, Q x e h → Q' x e h) → wc env vh Q → wc env vh Q') (ha : PE X a (tO G B wa)) (hb : PE X b (tO G B wb)) (hc : PE X c (tO G B wc)) (hm : lastMarks [op, op'] [b, c] = false) :
    PE X (.Compare a [op, op'] [b, c] pos) (tD G B fun env vh Q => wa env vh fun x e1 h1 => wb e1 h1 fun y e2 h2 => ∃ d e, x.ld e2 h2 = some d ∧ y.ld e2 h2 = some e ∧ wpCmp op d e fun k =>
      ifP k (wc e2 h2 fun z e3 h3 => ∃ e f, y.ld e3 h3 = some e ∧ z.ld e3 h3 = some f ∧ wpCmp op' e f fun k => Q (.v (.bl k)) e3 h3) (Q (.v (.bl false)) e2 h2)) :=
  (pe_chain (op_cmp o.hK o.hu) (op_cmp o.hK o.hu) ha hb hc hm).imp fun σ H Q ⟨T, ρ, env, vh, R, w⟩ => ma_chain o (a := a) (b := b) (c := c) ma mb mc R (chain_mono ma mb mc (P := fun k e h => ∀ ρ' v H', Res G B T ρ env σ H (.v (.bl k)) v ρ' e h H' → Q v H') (P' := fun k e h => ∀ ρ' H', Mv (ZZ B.F T ρ env σ) ρ H (ZZ B.F T ρ' e σ) ρ' H' → Rel G B T ρ' e h σ H' → Q (.bl k) H') (fun k e h z ρ' H' m R' => z ρ' _ H' ⟨m, R', rfl⟩) w)
theorem rt_chain (o : XOk X G B K Φ Γ fs) {op op' : CmpOp} {a b c : Expr} {pos : Pos} {wa wb wc : VE → VH → (Op → VE → VH → Prop) → Prop} (ma : ∀ env vh (Q Q' : Op → VE → VH → Prop), (∀ x e h, Q x e h → Q' x e h) → wa env vh Q → wa env vh Q') (mb : ∀ env vh (Q Q' : Op → VE → VH → Prop), (∀ x e h, Q x e h → Q' x e h) → wb env vh Q → wb env vh Q')
    (mc : ∀ env vh (Q Q' : Op → VE → VH → Prop), (∀ x e h, Q x e h → Q' x e h) → wc env vh Q → wc env vh Q') (ha : PE X a (tO G B wa)) (hb : PE X b (tO G B wb)) (hc : PE X c (tO G B wc)) (hm : lastMarks [op, op'] [b, c] = false) :
    PT X (.Compare a [op, op'] [b, c] pos) (tB G B fun env vh Q => wa env vh fun x e1 h1 => wb e1 h1 fun y e2 h2 => ∃ d e, x.ld e2 h2 = some d ∧ y.ld e2 h2 = some e ∧ wpCmp op d e fun k =>
      ifP k (wc e2 h2 fun z e3 h3 => ∃ e f, y.ld e3 h3 = some e ∧ z.ld e3 h3 = some f ∧ wpCmp op' e f fun k => Q (.v (.bl k)) e3 h3) (Q (.v (.bl false)) e2 h2)) :=
  (pt_chain (op_cmp o.hK o.hu) (op_cmp o.hK o.hu) ha hb hc hm).imp fun σ H Q ⟨T, ρ, env, vh, R, w⟩ => ma_chain o (a := a) (b := b) (c := c) (Q := fun x H' => ∃ k, x = .bl k ∧ Q k H') ma mb mc R (chain_mono ma mb mc (P := fun k e h => ∃ k', DV.v (.bl k) = .v (.bl k') ∧ ∀ ρ' H', Mv (ZZ B.F T ρ env σ) ρ H (ZZ B.F T ρ' e σ) ρ' H' → Rel G B T ρ' e h σ H' → Q k' H') (P' := fun k e h => ∀ ρ' H', Mv (ZZ B.F T ρ env σ) ρ H (ZZ B.F T ρ' e σ) ρ' H' → Rel G B T ρ' e h σ H' → ∃ k', V.bl k = .bl k' ∧ Q k' H') (fun k e h ⟨k', ek, z⟩ ρ' H' m R' => ⟨k, rfl, by cases ek; exact z ρ' H' m R'⟩) w)

/-! ### truth -/
theorem RW.tru {K' : PySem.W.Frag} (hK : K' = G.K) {Z : Addr → Prop} {ρ : List Addr} {H : Hp} : ∀ {d : D} {v : V} {k : Bool}, RW G Z ρ H d v → truD d = some k → TruV K' v H k
  | .non, v, k, h, e => by cases (show v = _ from h); cases e; rfl
  | .bl b, v, k, h, e => by cases (show v = _ from h); cases e; rfl
  | .int i, v, k, h, e => by cases (show v = _ from h); cases e; rfl
  | .str x, v, k, h, e => by
    cases (show v = _ from h)
    have e : (if x.length ≤ 16777216 then some ((x.length : Int) != 0) else none) = some k := e
    by_cases q : x.length ≤ 16777216
    · rw [if_pos q] at e
      cases e
      exact ⟨by rw [sizeLine_eq]; exact q, rfl⟩
    · rw [if_neg q] at e
      cases e
  | .tup xs, v, k, h, e => by
    obtain ⟨a, vs, rfl, h1, h2⟩ := h
    cases e
    exact .inr (.inl ⟨vs, by rw [hK]; exact h1, by
      have := h2.length
      cases xs <;> cases vs <;> first | rfl | (simp at this; done)⟩)
  | .lst xs, v, k, h, e => by
    obtain ⟨a, vs, rfl, h1, h2⟩ := h
    cases e
    exact .inl ⟨vs, .of h1, by
      have := h2.length
      cases xs <;> cases vs <;> first | rfl | (simp at this; done)⟩
  | .dct ks xs, v, k, h, e => by
    obtain ⟨a, ws, vs, rfl, h1, e1, e2, h2⟩ := h
    cases e
    refine .inr (.inr ⟨ws, h1, ?_⟩)
    have hl := h2.length
    subst e2
    rw [List.length_map] at hl
    cases ws <;> cases xs <;> first | rfl | (simp at hl; done)
  | .ty _, v, k, h, e => by cases e
  | .adr _, v, k, h, e => by cases e
  | .obj _ _ _, v, k, h, e => by cases e
  | .ref _, v, k, h, e => by cases e
  | .scr _, v, k, h, e => by cases e
/-- any value as a test -/
theorem rt_truth (o : XOk X G B K Φ Γ fs) {e : Expr} {w : VE → VH → QE → Prop} (h : PE X e (tD G B w)) (mono : ∀ env vh (Q Q' : QE), (∀ x e h, Q x e h → Q' x e h) → w env vh Q → w env vh Q') (he : ∀ whole, isTrue e X.env whole = (do let v ← whole; standAt e.pos; holding [v] (truthy v))) :
    PT X e (tB G B fun env vh Q => w env vh fun x e h => fin true x e h Q) :=
  (pt_truth h he).imp fun σ H Q ⟨T, ρ, env, vh, R, q⟩ => ⟨T, ρ, env, vh, R, mono _ _ _ _ (fun x e1 h1 ⟨k, e, k', ek, z⟩ ρ' v H' r => by
    cases ek
    obtain ⟨m, R', hv⟩ := r.d
    cases q : deref h1 x.d with
    | none => rw [q] at e; cases e
    | some d =>
      rw [q] at e
      exact ⟨k, RW.tru o.hK (deref_rw R' hv.w q) e, z ρ' H' m R'⟩) q⟩
theorem rt_bor (o : XOk X G B K Φ Γ fs) {e : Expr} {i : Nat} (h : PE X e (tVar i)) (he : ∀ whole, isTrue e X.env whole = (do let v ← whole; standAt e.pos; holding [v] (truthy v))) :
    PT X e (tB G B fun env vh Q => wpE Φ Γ (.bor i) K true env vh Q) :=
  (pt_truth h he).imp fun σ H Q ⟨T, ρ, env, vh, R, d, k, e1, e2, k', ek, z⟩ => by
    cases ek
    have hs : ∃ s, env[i]? = some s := by
      cases q : env[i]? with
      | none => simp [Op.ld, q] at e1
      | some s => exact ⟨s, rfl⟩
    obtain ⟨s, hs⟩ := hs
    have q := R.st i s hs
    have hv : ∃ v, σ[i]? = some (some v) := by
      cases s with
      | no => simp [Op.ld, hs, Slot.ld] at e1
      | val d => obtain ⟨v, e, _⟩ := q; exact ⟨v, e⟩
      | own ds => obtain ⟨a, vs, e, _⟩ := q; exact ⟨_, e⟩
    obtain ⟨v, hv⟩ := hv
    exact ⟨v, hv, k, RW.tru o.hK (OpV.rw (o := .slt i) R hv e1) e2, z ρ H Mv.refl R⟩

/-! ### and, or, not, if else -/
theorem tB_of {e : Expr} {w w' : VE → VH → QE → Prop} (h : PT X e (tB G B w)) (f : ∀ env vh Q, w' env vh Q → w env vh Q) : PT X e (tB G B w') := h.imp fun σ H Q ⟨T, ρ, env, vh, R, q⟩ => ⟨T, ρ, env, vh, R, f _ _ _ q⟩
theorem tD_of {e : Expr} {w w' : VE → VH → QE → Prop} (h : PE X e (tD G B w)) (f : ∀ env vh Q, w' env vh Q → w env vh Q) : PE X e (tD G B w') := h.imp fun σ H Q ⟨T, ρ, env, vh, R, q⟩ => ⟨T, ρ, env, vh, R, f _ _ _ q⟩
theorem Res.moved {T ρ1 : List Addr} {env1 : VE} {σ : L2.St} {H0 H1 H' : Hp} {ρ0 : List Addr} {env0 : VE} {x : DV} {v : V} {ρ' : List Addr} {env' : VE} {vh' : VH} (m : Mv (ZZ B.F T ρ0 env0 σ) ρ0 H0 (ZZ B.F T ρ1 env1 σ) ρ1 H1) (r : Res G B T ρ1 env1 σ H1 x v ρ' env' vh' H') : Res G B T ρ0 env0 σ H0 x v ρ' env' vh' H' := by
  cases x with
  | v d => exact ⟨m.trans r.1, r.2.1, r.2.2⟩
  | fr ds =>
    obtain ⟨a, vs, e, h1, m2, R, h⟩ := r
    exact ⟨a, vs, e, h1, m.trans m2, R, h⟩
theorem rt_and {a b : Expr} {rest : List Expr} {pos : Pos} {wa wb : VE → VH → QE → Prop} (ma : ∀ env vh (Q Q' : QE), (∀ x e h, Q x e h → Q' x e h) → wa env vh Q → wa env vh Q') (mb : ∀ env vh (Q Q' : QE), (∀ x e h, Q x e h → Q' x e h) → wb env vh Q → wb env vh Q')
    (ha : PT X a (tB G B wa)) (hb : PW X (.BoolOp .And (b :: rest) pos) (tB G B wb)) : PW X (.BoolOp .And (a :: b :: rest) pos) (tB G B fun env vh Q => wa env vh fun x e1 h1 => ∃ k, x = .v (.bl k) ∧ ifP k (wb e1 h1 Q) (Q (.v (.bl false)) e1 h1)) := by
  refine ⟨fun wh pins s σ H Q I ⟨T, ρ, env, vh, R, w⟩ => (pw_and ha hb).run wh pins s σ H Q I ⟨T, ρ, env, vh, R, ma _ _ _ _ (fun x e1 h1 ⟨k, ex, z⟩ => ⟨k, ex, fun ρ' H' m R' => ?_⟩) w⟩⟩
  cases k with
  | false =>
    obtain ⟨k', ek, z⟩ := z
    cases ek
    exact L2.iteF (z ρ' H' m R')
  | true => exact L2.iteT ⟨T, ρ', e1, h1, R', mb _ _ _ _ (fun y e2 h2 ⟨k, ey, z⟩ => ⟨k, ey, fun ρ2 H2 m2 R2 => z ρ2 H2 (m.trans m2) R2⟩) z⟩
theorem rt_or {a b : Expr} {rest : List Expr} {pos : Pos} {wa wb : VE → VH → QE → Prop} (ma : ∀ env vh (Q Q' : QE), (∀ x e h, Q x e h → Q' x e h) → wa env vh Q → wa env vh Q') (mb : ∀ env vh (Q Q' : QE), (∀ x e h, Q x e h → Q' x e h) → wb env vh Q → wb env vh Q')
    (ha : PT X a (tB G B wa)) (hb : PW X (.BoolOp .Or (b :: rest) pos) (tB G B wb)) : PW X (.BoolOp .Or (a :: b :: rest) pos) (tB G B fun env vh Q => wa env vh fun x e1 h1 => ∃ k, x = .v (.bl k) ∧ ifP k (Q (.v (.bl true)) e1 h1) (wb e1 h1 Q)) := by
  refine ⟨fun wh pins s σ H Q I ⟨T, ρ, env, vh, R, w⟩ => (pw_or ha hb).run wh pins s σ H Q I ⟨T, ρ, env, vh, R, ma _ _ _ _ (fun x e1 h1 ⟨k, ex, z⟩ => ⟨k, ex, fun ρ' H' m R' => ?_⟩) w⟩⟩
  cases k with
  | true =>
    obtain ⟨k', ek, z⟩ := z
    cases ek
    exact L2.iteT (z ρ' H' m R')
  | false => exact L2.iteF ⟨T, ρ', e1, h1, R', mb _ _ _ _ (fun y e2 h2 ⟨k, ey, z⟩ => ⟨k, ey, fun ρ2 H2 m2 R2 => z ρ2 H2 (m.trans m2) R2⟩) z⟩
theorem re_and (o : XOk X G B K Φ Γ fs) {a b : Expr} {rest : List Expr} {pos : Pos} {wa wb : VE → VH → QE → Prop} (ma : ∀ env vh (Q Q' : QE), (∀ x e h, Q x e h → Q' x e h) → wa env vh Q → wa env vh Q') (mb : ∀ env vh (Q Q' : QE), (∀ x e h, Q x e h → Q' x e h) → wb env vh Q → wb env vh Q')
    (ha : PE X a (tD G B wa)) (hb : PE X (.BoolOp .And (b :: rest) pos) (tD G B wb)) : PE X (.BoolOp .And (a :: b :: rest) pos) (tD G B fun env vh Q => wa env vh fun x e1 h1 => ∃ d k, x = .v d ∧ (deref h1 d).bind truD = some k ∧ ifP k (wb e1 h1 Q) (Q x e1 h1)) :=
  (pe_andT ha hb).imp fun σ H Q ⟨T, ρ, env, vh, R, w⟩ => ⟨T, ρ, env, vh, R, ma _ _ _ _ (fun x e1 h1 ⟨d, k, ex, e, z⟩ ρ' v H' r => by
    subst ex
    obtain ⟨m, R', hv⟩ := id r
    cases q : deref h1 d with
    | none => rw [q] at e; cases e
    | some d' =>
      rw [q] at e
      refine ⟨k, RW.tru o.hK (deref_rw R' hv.w q) e, ?_⟩
      cases k with
      | false => exact L2.iteF (z ρ' v H' r)
      | true => exact L2.iteT ⟨T, ρ', e1, h1, R', mb _ _ _ _ (fun y e2 h2 z ρ2 v2 H2 r2 => z ρ2 v2 H2 (Res.moved m r2)) z⟩) w⟩
theorem re_or (o : XOk X G B K Φ Γ fs) {a b : Expr} {rest : List Expr} {pos : Pos} {wa wb : VE → VH → QE → Prop} (ma : ∀ env vh (Q Q' : QE), (∀ x e h, Q x e h → Q' x e h) → wa env vh Q → wa env vh Q') (mb : ∀ env vh (Q Q' : QE), (∀ x e h, Q x e h → Q' x e h) → wb env vh Q → wb env vh Q')
    (ha : PE X a (tD G B wa)) (hb : PE X (.BoolOp .Or (b :: rest) pos) (tD G B wb)) : PE X (.BoolOp .Or (a :: b :: rest) pos) (tD G B fun env vh Q => wa env vh fun x e1 h1 => ∃ d k, x = .v d ∧ (deref h1 d).bind truD = some k ∧ ifP k (Q x e1 h1) (wb e1 h1 Q)) :=
  (pe_orT ha hb).imp fun σ H Q ⟨T, ρ, env, vh, R, w⟩ => ⟨T, ρ, env, vh, R, ma _ _ _ _ (fun x e1 h1 ⟨d, k, ex, e, z⟩ ρ' v H' r => by
    subst ex
    obtain ⟨m, R', hv⟩ := id r
    cases q : deref h1 d with
    | none => rw [q] at e; cases e
    | some d' =>
      rw [q] at e
      refine ⟨k, RW.tru o.hK (deref_rw R' hv.w q) e, ?_⟩
      cases k with
      | true => exact L2.iteT (z ρ' v H' r)
      | false => exact L2.iteF ⟨T, ρ', e1, h1, R', mb _ _ _ _ (fun y e2 h2 z ρ2 v2 H2 r2 => z ρ2 v2 H2 (Res.moved m r2)) z⟩) w⟩
theorem rt_not {a : Expr} {pos : Pos} {wa : VE → VH → QE → Prop} (ma : ∀ env vh (Q Q' : QE), (∀ x e h, Q x e h → Q' x e h) → wa env vh Q → wa env vh Q') (ha : PT X a (tB G B wa)) :
    PT X (.UnaryOp .Not a pos) (tB G B fun env vh Q => wa env vh fun x e1 h1 => ∃ k, x = .v (.bl k) ∧ Q (.v (.bl (!k))) e1 h1) :=
  (pt_not ha).imp fun σ H Q ⟨T, ρ, env, vh, R, w⟩ => ⟨T, ρ, env, vh, R, ma _ _ _ _ (fun x e1 h1 ⟨k, ex, k', ek, z⟩ => ⟨k, ex, fun ρ' H' m R' => by cases ek; exact z ρ' H' m R'⟩) w⟩
theorem re_not (o : XOk X G B K Φ Γ fs) {a : Expr} {pos : Pos} {wa : VE → VH → (Op → VE → VH → Prop) → Prop} (ma : ∀ env vh (Q Q' : Op → VE → VH → Prop), (∀ x e h, Q x e h → Q' x e h) → wa env vh Q → wa env vh Q') (ha : PE X a (tO G B wa)) :
    PE X (.UnaryOp .Not a pos) (tD G B fun env vh Q => wa env vh fun x e1 h1 => ∃ d k, x.ld e1 h1 = some d ∧ truD d = some k ∧ Q (.v (.bl (!k))) e1 h1) :=
  (pe_notT ha).imp fun σ H Q ⟨T, ρ, env, vh, R, w⟩ => ⟨T, ρ, env, vh, R, ma _ _ _ _ (fun x e1 h1 ⟨d, k, e1, e2, z⟩ ρ' v H' m R' ov => ⟨k, RW.tru o.hK (ov.rw R' e1) e2, z ρ' _ H' ⟨m, R', rfl⟩⟩) w⟩
theorem re_ite {c a b : Expr} {pos : Pos} {wc wa wb : VE → VH → QE → Prop} (mc : ∀ env vh (Q Q' : QE), (∀ x e h, Q x e h → Q' x e h) → wc env vh Q → wc env vh Q') (ma : ∀ env vh (Q Q' : QE), (∀ x e h, Q x e h → Q' x e h) → wa env vh Q → wa env vh Q') (mb : ∀ env vh (Q Q' : QE), (∀ x e h, Q x e h → Q' x e h) → wb env vh Q → wb env vh Q')
    (hc : PT X c (tB G B wc)) (ha : PE X a (tD G B wa)) (hb : PE X b (tD G B wb)) : PE X (.IfExp c a b pos) (tD G B fun env vh Q => wc env vh fun x e1 h1 => ∃ k, x = .v (.bl k) ∧ ifP k (wa e1 h1 Q) (wb e1 h1 Q)) :=
  (pe_ifExp hc ha hb).imp fun σ H Q ⟨T, ρ, env, vh, R, w⟩ => ⟨T, ρ, env, vh, R, mc _ _ _ _ (fun x e1 h1 ⟨k, ex, z⟩ => ⟨k, ex, fun ρ' H' m R' => by
    cases k with
    | true => exact L2.iteT ⟨T, ρ', e1, h1, R', ma _ _ _ _ (fun y e2 h2 z ρ2 v2 H2 r2 => z ρ2 v2 H2 (Res.moved m r2)) z⟩
    | false => exact L2.iteF ⟨T, ρ', e1, h1, R', mb _ _ _ _ (fun y e2 h2 z ρ2 v2 H2 r2 => z ρ2 v2 H2 (Res.moved m r2)) z⟩⟩) w⟩
theorem pt_ifExp {c a b : Expr} {pos : Pos} {tc ta tb : TT} (hc : PT X c tc) (ha : PT X a ta) (hb : PT X b tb) : PT X (.IfExp c a b pos) (fun σ H Q => tc σ H fun k H1 => if k = true then ta σ H1 Q else tb σ H1 Q) := by
  refine ⟨fun pins s σ H Q I h => ?_⟩
  refine isTrue_IfExp (thn (hc.run pins s σ H _ I h) fun d s1 ⟨H1, I1, q1⟩ => ?_)
  cases d with
  | true => exact ha.run pins s1 σ H1 Q I1 q1
  | false => exact hb.run pins s1 σ H1 Q I1 q1
theorem rt_ite {c a b : Expr} {pos : Pos} {wc wa wb : VE → VH → QE → Prop} (mc : ∀ env vh (Q Q' : QE), (∀ x e h, Q x e h → Q' x e h) → wc env vh Q → wc env vh Q') (ma : ∀ env vh (Q Q' : QE), (∀ x e h, Q x e h → Q' x e h) → wa env vh Q → wa env vh Q') (mb : ∀ env vh (Q Q' : QE), (∀ x e h, Q x e h → Q' x e h) → wb env vh Q → wb env vh Q')
    (hc : PT X c (tB G B wc)) (ha : PT X a (tB G B wa)) (hb : PT X b (tB G B wb)) : PT X (.IfExp c a b pos) (tB G B fun env vh Q => wc env vh fun x e1 h1 => ∃ k, x = .v (.bl k) ∧ ifP k (wa e1 h1 Q) (wb e1 h1 Q)) :=
  (pt_ifExp hc ha hb).imp fun σ H Q ⟨T, ρ, env, vh, R, w⟩ => ⟨T, ρ, env, vh, R, mc _ _ _ _ (fun x e1 h1 ⟨k, ex, z⟩ => ⟨k, ex, fun ρ' H' m R' => by
    cases k with
    | true => exact L2.iteT ⟨T, ρ', e1, h1, R', ma _ _ _ _ (fun y e2 h2 ⟨k, ek, z⟩ => ⟨k, ek, fun ρ2 H2 m2 R2 => z ρ2 H2 (m.trans m2) R2⟩) z⟩
    | false => exact L2.iteF ⟨T, ρ', e1, h1, R', mb _ _ _ _ (fun y e2 h2 ⟨k, ek, z⟩ => ⟨k, ek, fun ρ2 H2 m2 R2 => z ρ2 H2 (m.trans m2) R2⟩) z⟩⟩) w⟩

/-! ### items, slices -/
theorem re_idx (o : XOk X G B K Φ Γ fs) {a b : Expr} {pos : Pos} {wa wb : VE → VH → (Op → VE → VH → Prop) → Prop} (ma : ∀ env vh (Q Q' : Op → VE → VH → Prop), (∀ x e h, Q x e h → Q' x e h) → wa env vh Q → wa env vh Q') (mb : ∀ env vh (Q Q' : Op → VE → VH → Prop), (∀ x e h, Q x e h → Q' x e h) → wb env vh Q → wb env vh Q')
    (ha : PE X a (tO G B wa)) (hb : PE X b (tO G B wb)) (hs : PlainIx b) :
    PE X (.Subscript a b pos) (tD G B fun env vh Q => wa env vh fun x e1 h1 => wb e1 h1 fun y e2 h2 => ∃ c d, x.ld e2 h2 = some c ∧ y.ld e2 h2 = some d ∧ wpIdx c d fun z => fin false (.v z) e2 h2 Q) :=
  (pe_ix (ix_d o.hK) ha hb hs).imp fun σ H Q ⟨T, ρ, env, vh, R, w⟩ => tO2 ma mb R w fun x y ρ' env' vh' v u H' m R' ox oy ⟨c, d, e1, e2, q⟩ =>
    ⟨_, ρ', c, d, ox.rw R' e1, oy.rw R' e2, wpIdx_mono (fun z k v hv => k ρ' v H' ⟨m, R', hv⟩) q⟩
/-- a slice's part -/
theorem ro_part {e : Expr} {w : VE → VH → QE → Prop} (h : PE X e (tD G B w)) : PO X (some e) (tPart (tD G B w)) := po_some h
theorem re_sli (o : XOk X G B K Φ Γ fs) {a : Expr} {lo hi : Option Expr} {pos p2 : Pos} {wa : VE → VH → (Op → VE → VH → Prop) → Prop} {wl wh : VE → VH → QE → Prop} (ma : ∀ env vh (Q Q' : Op → VE → VH → Prop), (∀ x e h, Q x e h → Q' x e h) → wa env vh Q → wa env vh Q')
    (ml : ∀ env vh (Q Q' : QE), (∀ x e h, Q x e h → Q' x e h) → wl env vh Q → wl env vh Q') (mh : ∀ env vh (Q Q' : QE), (∀ x e h, Q x e h → Q' x e h) → wh env vh Q → wh env vh Q') (ha : PE X a (tO G B wa))
    (hl : (lo = none ∧ ∀ env vh Q, wl env vh Q → Q (.v .non) env vh) ∨ ∃ e, lo = some e ∧ PE X e (tD G B wl)) (hh : (hi = none ∧ ∀ env vh Q, wh env vh Q → Q (.v .non) env vh) ∨ ∃ e, hi = some e ∧ PE X e (tD G B wh)) :
    PE X (.Subscript a (.Slice lo hi none p2) pos) (tD G B fun env vh Q => wa env vh fun x e1 h1 => wl e1 h1 fun l e2 h2 => ∃ i, partD l = some i ∧ wh e2 h2 fun u e3 h3 => ∃ c j, x.ld e3 h3 = some c ∧ partD u = some j ∧ wpSli c i j fun z => fin false z e3 h3 Q) := by
  have part : ∀ {q : Option Expr} {w : VE → VH → QE → Prop}, (∀ env vh (Q Q' : QE), (∀ x e h, Q x e h → Q' x e h) → w env vh Q → w env vh Q') → ((q = none ∧ ∀ env vh Q, w env vh Q → Q (.v .non) env vh) ∨ ∃ e, q = some e ∧ PE X e (tD G B w)) →
      PO X q (fun σ H Q => ∃ T ρ env vh, Rel G B T ρ env vh σ H ∧ w env vh fun x e1 h1 => ∃ i, partD x = some i ∧ ∀ ρ' H', Mv (ZZ B.F T ρ env σ) ρ H (ZZ B.F T ρ' e1 σ) ρ' H' → Rel G B T ρ' e1 h1 σ H' → Q i H') := by
    rintro q w mono (⟨rfl, h⟩ | ⟨e, rfl, h⟩)
    · refine ⟨fun pins s σ H Q I ⟨T, ρ, env, vh, R, z⟩ => po_none.run pins s σ H Q I ?_⟩
      obtain ⟨i, ei, z⟩ := h _ _ _ z
      cases ei
      exact z ρ H Mv.refl R
    · refine ⟨fun pins s σ H Q I hw => ?_⟩
      obtain ⟨T, ρ, env, vh, R, z⟩ := hw
      rw [evalPart_some]
      have hz : tD G B w σ H (fun v H1 => ∃ o, ((o = none ∧ v = .non) ∨ ∃ i, v = .int i ∧ o = some i) ∧ Q o H1) := by
        refine ⟨T, ρ, env, vh, R, mono _ _ _ _ (fun x e1 h1 y ρ' v H' r => ?_) z⟩
        obtain ⟨i, ei, z⟩ := y
        obtain ⟨m, R', hv⟩ := r.d
        cases x with
        | fr ds => cases ei
        | v d =>
          cases d with
          | int k =>
            cases ei
            exact ⟨_, .inr ⟨k, hv, rfl⟩, z ρ' H' m R'⟩
          | non =>
            cases ei
            exact ⟨_, .inl ⟨rfl, hv⟩, z ρ' H' m R'⟩
          | _ => cases ei
      refine thn (h.run pins s σ H _ I hz) fun u s1 y => ?_
      obtain ⟨v, H1, I1, r1, oo, q1, q2⟩ := y
      rcases q1 with ⟨rfl, rfl⟩ | ⟨i, rfl, rfl⟩
      · cases r1
        exact ⟨none, H1, I1, .none, q2⟩
      · obtain ⟨t, rfl⟩ := r1
        exact ⟨some i, H1, I1, .int i t, q2⟩
  refine (pe_slice (sl_d o.hK) ha (part ml hl) (part mh hh)).imp fun σ H Q ⟨T, ρ, env, vh, R, w⟩ => ?_
  refine ⟨T, ρ, env, vh, R, ma _ _ _ _ (fun x e1 h1 k ρ1 v1 H1 m1 R1 o1 => ?_) w⟩
  refine ⟨T, ρ1, e1, h1, R1, ml _ _ _ _ (fun l e2 h2 ⟨i, ql, k⟩ => ⟨i, ql, fun ρ2 H2 m2 R2 => ?_⟩) k⟩
  refine ⟨T, ρ2, e2, h2, R2, mh _ _ _ _ (fun u e3 h3 ⟨c, j, p1, p3, z⟩ => ⟨j, p3, fun ρ3 H3 m3 R3 => ?_⟩) k⟩
  exact ⟨_, ρ3, c, ((o1.move m2).move m3).rw R3 p1, wpSli_mono (fun z k v H4 out => k ρ3 v H4 (Res.of_out ((m1.trans m2).trans m3) R3 out)) z⟩

/-! ### lists of parts -/
theorem ra_nil : PA X [] (tL G B fun env vh Q => Q [] env vh) := pa_nil.imp fun σ H Q ⟨T, ρ, env, vh, R, w⟩ => w ρ [] H Mv.refl R rfl
theorem ra_cons {e : Expr} {es : List Expr} {w : VE → VH → QE → Prop} {ws : VE → VH → (List D → VE → VH → Prop) → Prop} (m1 : ∀ env vh (Q Q' : QE), (∀ x e h, Q x e h → Q' x e h) → w env vh Q → w env vh Q') (m2 : ∀ env vh (Q Q' : List D → VE → VH → Prop), (∀ x e h, Q x e h → Q' x e h) → ws env vh Q → ws env vh Q')
    (h1 : PE X e (tD G B w)) (h2 : PA X es (tL G B ws)) (hs : starEach (e :: es) X.env = (false, eval e X.env) :: starEach es X.env) :
    PA X (e :: es) (tL G B fun env vh Q => w env vh fun x e1 h1 => ws e1 h1 fun xs e2 h2 => Q (x.d :: xs) e2 h2) :=
  (pa_cons h1 h2 hs).imp fun σ H Q ⟨T, ρ, env, vh, R, q⟩ => ⟨T, ρ, env, vh, R, m1 _ _ _ _ (fun x e1 h1 k ρ1 v H1 r => by
    obtain ⟨mv, R1, hv⟩ := r.d
    exact ⟨T, ρ1, e1, h1, R1, m2 _ _ _ _ (fun xs e2 h2 k ρ2 vs H2 mv2 R2 hvs => k ρ2 (v :: vs) H2 (mv.trans mv2) R2 ⟨v, vs, rfl, RD.move mv2 _ _ hv, hvs⟩) k⟩) q⟩
theorem ros_nil : PA X [] (tOs G B fun env vh Q => Q [] env vh) := pa_nil.imp fun σ H Q ⟨T, ρ, env, vh, R, w⟩ => w ρ [] H Mv.refl R rfl
theorem OpVs.move {Z Z' : Addr → Prop} {ρ ρ' : List Addr} {H H' : Hp} {σ : L2.St} (m : Mv Z ρ H Z' ρ' H') : ∀ {os : List Op} {vs : List V}, OpVs G Z ρ H σ os vs → OpVs G Z' ρ' H' σ os vs
  | [], vs, h => h
  | o :: os, vs, h => by
    obtain ⟨v, r, e, h1, h2⟩ := h
    exact ⟨v, r, e, h1.move m, OpVs.move m h2⟩
theorem ros_cons {e : Expr} {es : List Expr} {w : VE → VH → (Op → VE → VH → Prop) → Prop} {ws : VE → VH → (List Op → VE → VH → Prop) → Prop} (m1 : ∀ env vh (Q Q' : Op → VE → VH → Prop), (∀ x e h, Q x e h → Q' x e h) → w env vh Q → w env vh Q') (m2 : ∀ env vh (Q Q' : List Op → VE → VH → Prop), (∀ x e h, Q x e h → Q' x e h) → ws env vh Q → ws env vh Q')
    (h1 : PE X e (tO G B w)) (h2 : PA X es (tOs G B ws)) (hs : starEach (e :: es) X.env = (false, eval e X.env) :: starEach es X.env) :
    PA X (e :: es) (tOs G B fun env vh Q => w env vh fun x e1 h1 => ws e1 h1 fun xs e2 h2 => Q (x :: xs) e2 h2) :=
  (pa_cons h1 h2 hs).imp fun σ H Q ⟨T, ρ, env, vh, R, q⟩ => ⟨T, ρ, env, vh, R, m1 _ _ _ _ (fun x e1 h1 k ρ1 v H1 mv R1 ov =>
    ⟨T, ρ1, e1, h1, R1, m2 _ _ _ _ (fun xs e2 h2 k ρ2 vs H2 mv2 R2 ovs => k ρ2 (v :: vs) H2 (mv.trans mv2) R2 ⟨v, vs, rfl, ov.move mv2, ovs⟩) k⟩) q⟩
theorem re_tup {es : List Expr} {x1 : Nat} {pos : Pos} {ws : VE → VH → (List D → VE → VH → Prop) → Prop} (m : ∀ env vh (Q Q' : List D → VE → VH → Prop), (∀ x e h, Q x e h → Q' x e h) → ws env vh Q → ws env vh Q') (h : PA X es (tL G B ws)) :
    PE X (.Tuple es x1 pos) (tD G B fun env vh Q => ws env vh fun ds e1 h1 => ds.length ≤ 16777216 ∧ fin false (.v (.tup ds)) e1 h1 Q) :=
  (pe_tup h).imp fun σ H Q ⟨T, ρ, env, vh, R, w⟩ => ⟨T, ρ, env, vh, R, m _ _ _ _ (fun ds e1 h1 ⟨hz, k⟩ ρ' vs H' mv R' hv => ⟨by rw [sizeLine_eq, ← hv.length]; exact hz, fun p hp => k ρ' _ _ (Res.of_out mv R' (out_tup hp hv))⟩) w⟩
theorem re_lst {es : List Expr} {pos : Pos} {ws : VE → VH → (List D → VE → VH → Prop) → Prop} (m : ∀ env vh (Q Q' : List D → VE → VH → Prop), (∀ x e h, Q x e h → Q' x e h) → ws env vh Q → ws env vh Q') (h : PA X es (tL G B ws)) :
    PE X (.List es pos) (tD G B fun env vh Q => ws env vh fun ds e1 h1 => ds.length ≤ 16777216 ∧ fin false (.fr ds) e1 h1 Q) :=
  (pe_lst h).imp fun σ H Q ⟨T, ρ, env, vh, R, w⟩ => ⟨T, ρ, env, vh, R, m _ _ _ _ (fun ds e1 h1 ⟨hz, k⟩ ρ' vs H' mv R' hv => ⟨by rw [sizeLine_eq, ← hv.length]; exact hz, fun p hp => k ρ' _ _ (Res.of_out mv R' (out_lst hp hv))⟩) w⟩

/-! ### calls -/
theorem re_blt (o : XOk X G B K Φ Γ fs) (hc : hotN ∉ fs) {f : Bf} {x : Str} {e : Expr} {es : List Expr} {p pos : Pos} {ws : VE → VH → (List Op → VE → VH → Prop) → Prop} (m : ∀ env vh (Q Q' : List Op → VE → VH → Prop), (∀ x e h, Q x e h → Q' x e h) → ws env vh Q → ws env vh Q')
    (h : PA X (e :: es) (tOs G B ws)) (hx : x = bltN f) (hg : Gl X x) (he : starEach (e :: es) X.env = (false, eval e X.env) :: starEach es X.env) (hpl : (backTo pos (starEach es X.env)).any (·.1) = false) :
    PE X (.Call (.Name x p) (e :: es) [] pos) (tD G B fun env vh Q => ws env vh fun xs e1 h1 => ∃ ds, ldAll e1 h1 xs = some ds ∧ wpBlt f ds fun z => fin false z e1 h1 Q) := by
  have fin_ : ∀ {t0 : TE}, t0 = tCB (fun xs H Q => ∃ Z ρ ds, RWs G Z ρ H ds xs ∧ wpBlt f ds fun z => ∀ v H', OutV G Z ρ H z v H' → Q v H') (tOs G B ws) → ∀ σ H Q, tD G B (fun env vh Q => ws env vh fun xs e1 h1 => ∃ ds, ldAll e1 h1 xs = some ds ∧ wpBlt f ds fun z => fin false z e1 h1 Q) σ H Q → t0 σ H Q := by
    rintro t0 rfl σ H Q ⟨T, ρ, env, vh, R, w⟩
    exact ⟨T, ρ, env, vh, R, m _ _ _ _ (fun xs e1 h1 ⟨ds, ed, k⟩ ρ' vs H' mv R' hv => ⟨_, ρ', ds, OpVs.rw R' hv ed, wpBlt_mono (fun z k v H1 out => k ρ' v H1 (Res.of_out mv R' out)) k⟩) w⟩
  have hm : X.mg x = none := o.bl x (by rw [hx]; cases f <;> decide +kernel)
  subst hx
  cases f with
  | len => exact (pe_callB (call_d o.hK (o.calm hc) o.gu o.hu .len) hg hm (by decide +kernel) h (by decide +kernel) (by decide +kernel) he hpl).imp (fin_ rfl)
  | int => exact (pe_callTy (call_d o.hK (o.calm hc) o.gu o.hu .int) hg hm (by decide +kernel) h (by decide +kernel) (by decide +kernel) he hpl).imp (fin_ rfl)
  | bool => exact (pe_callTy (call_d o.hK (o.calm hc) o.gu o.hu .bool) hg hm (by decide +kernel) h (by decide +kernel) (by decide +kernel) he hpl).imp (fin_ rfl)
  | str => exact (pe_callTy (call_d o.hK (o.calm hc) o.gu o.hu .str) hg hm (by decide +kernel) h (by decide +kernel) (by decide +kernel) he hpl).imp (fin_ rfl)
  | tuple => exact (pe_callTy (call_d o.hK (o.calm hc) o.gu o.hu .tuple) hg hm (by decide +kernel) h (by decide +kernel) (by decide +kernel) he hpl).imp (fin_ rfl)
  | list => exact (pe_callTy (call_d o.hK (o.calm hc) o.gu o.hu .list) hg hm (by decide +kernel) h (by decide +kernel) (by decide +kernel) he hpl).imp (fin_ rfl)
  | abs => exact (pe_callB (call_d o.hK (o.calm hc) o.gu o.hu .abs) hg hm (by decide +kernel) h (by decide +kernel) (by decide +kernel) he hpl).imp (fin_ rfl)
  | min2 => exact (pe_callB (call_d o.hK (o.calm hc) o.gu o.hu .min2) hg hm (by decide +kernel) h (by decide +kernel) (by decide +kernel) he hpl).imp (fin_ rfl)
  | max2 => exact (pe_callB (call_d o.hK (o.calm hc) o.gu o.hu .max2) hg hm (by decide +kernel) h (by decide +kernel) (by decide +kernel) he hpl).imp (fin_ rfl)
  | sum => exact (pe_callB (call_d o.hK (o.calm hc) o.gu o.hu .sum) hg hm (by decide +kernel) h (by decide +kernel) (by decide +kernel) he hpl).imp (fin_ rfl)
  | all => exact (pe_callB (call_d o.hK (o.calm hc) o.gu o.hu .all) hg hm (by decide +kernel) h (by decide +kernel) (by decide +kernel) he hpl).imp (fin_ rfl)
  | any => exact (pe_callB (call_d o.hK (o.calm hc) o.gu o.hu .any) hg hm (by decide +kernel) h (by decide +kernel) (by decide +kernel) he hpl).imp (fin_ rfl)
  | sorted => exact (pe_callB (call_d o.hK (o.calm hc) o.gu o.hu .sorted) hg hm (by decide +kernel) h (by decide +kernel) (by decide +kernel) he hpl).imp (fin_ rfl)
  | min1 => exact (pe_callB (call_d o.hK (o.calm hc) o.gu o.hu .min1) hg hm (by decide +kernel) h (by decide +kernel) (by decide +kernel) he hpl).imp (fin_ rfl)
  | max1 => exact (pe_callB (call_d o.hK (o.calm hc) o.gu o.hu .max1) hg hm (by decide +kernel) h (by decide +kernel) (by decide +kernel) he hpl).imp (fin_ rfl)
  | repr => exact (pe_callB (call_d o.hK (o.calm hc) o.gu o.hu .repr) hg hm (by decide +kernel) h (by decide +kernel) (by decide +kernel) he hpl).imp (fin_ rfl)

theorem RDs.strs_of {Z : Addr → Prop} {ρ : List Addr} {H : Hp} : ∀ {ys : List Str} {vs : List V}, RDs G Z ρ H (ys.map D.str) vs → vs = ys.map V.str
  | [], vs, h => h
  | y :: ys, vs, h => by
    obtain ⟨v, r, rfl, h1, h2⟩ := h
    rw [RDs.strs_of h2]
    cases (show v = .str y from h1)
    rfl
theorem re_join {r e : Expr} {apos pos : Pos} {wo : VE → VH → QE → Prop} {we : VE → VH → (Op → VE → VH → Prop) → Prop} (mo : ∀ env vh (Q Q' : QE), (∀ x e h, Q x e h → Q' x e h) → wo env vh Q → wo env vh Q') (me : ∀ env vh (Q Q' : Op → VE → VH → Prop), (∀ x e h, Q x e h → Q' x e h) → we env vh Q → we env vh Q')
    (ho : PE X r (tD G B wo)) (he : PE X e (tO G B we)) (hs : starEach [e] X.env = [(false, eval e X.env)]) (hb : attributeBase r "join" X.env (eval r X.env) = eval r X.env) (hl : (apos.endLine == pos.line) = true) :
    PE X (.Call (.Attribute r "join" apos) [e] [] pos) (tD G B fun env vh Q => wo env vh fun x e1 h1 => ∃ a, x = .v (.str a) ∧ we e1 h1 fun y e2 h2 => ∃ ys : List Str, y.ld e2 h2 = some (.lst (ys.map D.str)) ∧ (ys.map (·.length)).sum + ys.length * a.length ≤ 16777216 ∧ fin false (.v (.str (Txt.join a ys))) e2 h2 Q) := by
  refine (pe_join ho he hs hb hl).imp ?_
  rintro σ H Q ⟨T, ρ, env, vh, R, w⟩
  refine ⟨T, ρ, env, vh, R, mo _ _ _ _ (fun x e1 h1 ⟨a, ex, k⟩ ρ1 v H1 r => ?_) w⟩
  subst ex
  obtain ⟨m1, R1, hv⟩ := r
  cases (show v = .str a from hv)
  refine ⟨⟨a, rfl⟩, T, ρ1, e1, h1, R1, me _ _ _ _ (fun y e2 h2 ⟨ys, hy, hz, z⟩ ρ2 u H2 mv R2 oy => ?_) k⟩
  obtain ⟨p, vs, rfl, q1, q2⟩ := oy.rw R2 hy
  cases RDs.strs_of q2
  exact ⟨a, p, ys, rfl, rfl, .inl (.of q1), hz, z ρ2 _ H2 ⟨m1.trans mv, R2, rfl⟩⟩
theorem re_lrg (o : XOk X G B K Φ Γ fs) (hc : hotN ∉ fs) {a b : Expr} {p p2 pos pos2 : Pos} {wa wb : VE → VH → QE → Prop} (ma : ∀ env vh (Q Q' : QE), (∀ x e h, Q x e h → Q' x e h) → wa env vh Q → wa env vh Q') (mb : ∀ env vh (Q Q' : QE), (∀ x e h, Q x e h → Q' x e h) → wb env vh Q → wb env vh Q')
    (ha : PE X a (tD G B wa)) (hb : PE X b (tD G B wb)) (hg : Gl X "list") (hg2 : Gl X "range") (na : starEach [a, b] X.env = (false, eval a X.env) :: starEach [b] X.env) (nb : starEach [b] X.env = (false, eval b X.env) :: starEach [] X.env) (hp : (backTo pos2 (starEach [b] X.env)).any (·.1) = false) :
    PE X (.Call (.Name "list" p) [.Call (.Name "range" p2) [a, b] [] pos2] [] pos) (tD G B fun env vh Q => wa env vh fun x e1 h1 => ∃ i : Int, x = .v (.int i) ∧ wb e1 h1 fun y e2 h2 => ∃ j : Int, y = .v (.int j) ∧ (-1000000 < i ∧ i < 1000000 ∧ -1000000 < j ∧ j < 1000000) ∧ fin false (.fr ((List.range (j - i).toNat).map fun (k : Nat) => D.int (i + (k : Int)))) e2 h2 Q) := by
  refine (pe_listRg (o.calm hc) hg (o.bl _ (by decide +kernel)) (prg_2 hg2 (o.bl _ (by decide +kernel)) ha hb na nb hp)).imp ?_
  rintro σ H Q ⟨T, ρ, env, vh, R, w⟩
  refine ⟨T, ρ, env, vh, R, ma _ _ _ _ (fun x e1 h1 ⟨i, ex, k⟩ ρ1 v H1 r => ?_) w⟩
  subst ex
  obtain ⟨m1, R1, hv⟩ := r
  refine ⟨T, ρ1, e1, h1, R1, mb _ _ _ _ (fun y e2 h2 ⟨j, ey, hz, z⟩ ρ2 u H2 r2 => ?_) k⟩
  subst ey
  obtain ⟨m2, R2, hu⟩ := r2
  refine ⟨i, j, hv, hu, ⟨by omega, by omega, by omega, by omega, by omega⟩, fun q hq => z ρ2 _ _ (Res.of_out (m1.trans m2) R2 (out_lst hq ?_))⟩
  have e1 : ((List.range (j - i).toNat).map fun (k : Nat) => D.int (i + (k : Int))) = ((List.range (j - i).toNat).map fun (k : Nat) => i + (k : Int)).map D.int := by rw [List.map_map]; rfl
  have e2 : rgV i j = ((List.range (j - i).toNat).map fun (k : Nat) => i + (k : Int)).map V.int := by unfold rgV; rw [List.map_map]; rfl
  rw [e1, e2]
  exact RDs.ints _
theorem res_of_f {x : DV} {v : V} {ρ' : List Addr} {vh' : VH} {H' : Hp} (R : Rel G B T ρ env vh σ H) (r : ResF G (B.callee T ρ env σ H) x v ρ' vh' H') : Res G B T ρ env σ H x v ρ' env vh' H' := by
  cases x with
  | v d =>
    obtain ⟨S, h⟩ := r
    have m := R.backMv S
    have S2 := R.back S
    rw [Rel.backZ (B := B) (H := H) (H' := H')] at h
    exact ⟨m, S2, h⟩
  | fr ds =>
    obtain ⟨a, vs, e, h1, S, h⟩ := r
    have m := R.backMv S
    have S2 := R.back S
    rw [Rel.backZ (B := B) (H := H) (H' := H')] at h
    exact ⟨a, vs, e, h1, m, S2, h⟩
/-- the heart of a call -/
theorem call_hw {sp : VSp} {ds : List D} {vs : List V} {Q : VK} {Kx : XP} {QQ : DV → VH → Prop} (R : Rel G B T ρ env vh σ H) (h : RDs G (ZZ B.F T ρ env σ) ρ H ds vs)
    (w : sp.run ds vh fun o h2 => match o with
      | .ok x => QQ x h2
      | .exc c xs => Kx c xs env h2) (f : ∀ x h2, QQ x h2 → ∀ ρ' v H', Res G B T ρ env σ H x v ρ' env h2 H' → Q v H') : spV G sp vs H Q (WE (WK G B Kx) σ) := by
  have hh : RDs G (ZZ (B.callee T ρ env σ H).F [] ρ [] []) ρ H ds vs := by rw [calleeZ]; exact h
  refine ⟨(B.callee T ρ env σ H).F, ρ, vh, ds, R.enter, hh, sp.mono _ _ _ _ (fun o h2 k => ?_) w⟩
  cases o with
  | ok x => exact fun ρ' v H' r => f x h2 k ρ' v H' (res_of_f R r)
  | exc c xs =>
    intro ρ' C d H' hc S hx
    have S2 := R.back S
    have hx2 : XF G (ZZ B.F ([] ++ T) ρ' env σ) ρ' H' (G.fl c) d xs := by rw [← Rel.backZ (B := B) (T := T) (ρ := ρ) (env := env) (σ := σ) (H := H) (H' := H')]; exact hx
    exact ⟨c, C, xs, [] ++ T, ρ', env, h2, hc, rfl, S2, hx2, k⟩
theorem pe_callS0 {k : Nat} {f : Addr} {fd : FuncData} {ps : List Str} {sp : Sp} {E : L2.St → XK} {x : Str} {p pos : Pos} (F : FnG X.prog X.w X.K X.mg X.base (L2.CX X.prog X.w) k f fd ps sp) (hr : RmG k X.A) (hg : Gl X x) (hm : X.mg x = some (.ref f)) (hk : PySem.W.keepIn X.K (.ref f) = true) (hb : Binds X.K fd ps []) (hx : ∀ σ, PassesAt (L2.CX X.prog X.w) X σ (E σ))
    (hdb : (x == ("__debug__" : Str)) = false) : PE X (.Call (.Name x p) [] [] pos) (tCallS sp E tNil) := by
  refine ⟨fun pins s σ H Q I h => ?_⟩
  refine wpAny_Call_Name_kw (ld_glob I hg hm ?_ hdb)
  exact PySem.W.callWith_K0 I.kIn hk (run_G (us := []) F hr hb (hx σ) I .nil h)
theorem re_call (o : XOk X G B K Φ Γ fs) {f : Str} {e : Expr} {es : List Expr} {p pos : Pos} {ws : VE → VH → (List D → VE → VH → Prop) → Prop} (m : ∀ env vh (Q Q' : List D → VE → VH → Prop), (∀ x e h, Q x e h → Q' x e h) → ws env vh Q → ws env vh Q')
    (h : PA X (e :: es) (tL G B ws)) (hf : f ∈ fs) (hn : okF f = true) (hg : Gl X f) (he : starEach (e :: es) X.env = (false, eval e X.env) :: starEach es X.env) (hpl : (backTo pos (starEach es X.env)).any (·.1) = false) :
    PE X (.Call (.Name f p) (e :: es) [] pos) (tD G B fun env vh Q => ws env vh fun ds e1 h1 => (Φ f).run ds h1 fun o h2 => match o with
      | .ok x => fin false x e1 h2 Q
      | .exc c xs => K c xs e1 h2) := by
  obtain ⟨a, fd, ps, k, hm, hk, hb, F, hr, hdb⟩ := o.fn f hf hn
  refine (pe_callG F hr hg hm hk hb (fun σ => passAt o.tk σ) h hdb he hpl).imp ?_
  rintro σ H Q ⟨T, ρ, env, vh, R, w⟩
  exact ⟨T, ρ, env, vh, R, m _ _ _ _ (fun ds e1 h1 z ρ1 vs H1 mv R1 hv => call_hw R1 hv z fun x h2 y ρ' v H' r => y ρ' v H' (Res.moved mv r)) w⟩
theorem re_call0 (o : XOk X G B K Φ Γ fs) {f : Str} {p pos : Pos} (hf : f ∈ fs) (hn : okF f = true) (hg : Gl X f) :
    PE X (.Call (.Name f p) [] [] pos) (tD G B fun env vh Q => (Φ f).run [] vh fun o h2 => match o with
      | .ok x => fin false x env h2 Q
      | .exc c xs => K c xs env h2) := by
  obtain ⟨a, fd, ps, k, hm, hk, hb, F, hr, hdb⟩ := o.fn f hf hn
  refine (pe_callS0 F hr hg hm hk hb (fun σ => passAt o.tk σ) hdb).imp ?_
  rintro σ H Q ⟨T, ρ, env, vh, R, w⟩
  exact call_hw R (ds := []) rfl w fun x h2 y ρ' v H' r => y ρ' v H' r

/-- a.count(True), a.index(True) -/
theorem re_bix (o : XOk X G B K Φ Γ fs) {a e : Expr} {m : Str} {apos pos : Pos} {wa : VE → VH → (Op → VE → VH → Prop) → Prop} (k : Bool) (em : m = if k then ("index" : Str) else ("count" : Str)) (ma : ∀ env vh (Q Q' : Op → VE → VH → Prop), (∀ x e h, Q x e h → Q' x e h) → wa env vh Q → wa env vh Q') (ha : PE X a (tO G B wa)) (he : PE X e (tD G B (wpE Φ Γ (.bl true) K false)))
    (hbase : attributeBase a m X.env (eval a X.env) = eval a X.env) (hline : (apos.endLine == pos.line) = true) (hs1 : starEach [e] X.env = (false, eval e X.env) :: starEach [] X.env) :
    PE X (.Call (.Attribute a m apos) [e] [] pos) (tD G B fun env vh Q => wa env vh fun x e1 h1 => ∃ bs : List Bool, x.ld e1 h1 = some (.lst (bs.map D.bl)) ∧ (k = true → true ∈ bs) ∧ fin false (.v (.int ((if k then bs.idxOf true else bs.count true : Nat) : Int))) e1 h1 Q) := by
  subst em
  cases k with
  | false =>
    have pe := pe_bm (cpos := pos) PySem.F.plainAttrs_list PySem.F.slot_list_count PySem.F.type_list_count mt_cntB ha (pa_cons he pa_nil hs1) hbase (by rw [hs1]; rfl) hline hs1 rfl
    refine pe.imp fun σ H Q ⟨T, ρ, env, vh, R, w⟩ => ⟨T, ρ, env, vh, R, ma _ _ _ _ (fun x e1 h1 ⟨bs, hd, _, z⟩ ρ1 v H1 m1 R1 ov => ?_) w⟩
    have hw := ov.rw R1 hd
    obtain ⟨l, vs, rfl, h2, h3⟩ := hw
    refine ⟨.inl ⟨rfl, vs, .of h2⟩, T, ρ1, e1, h1, R1, ?_⟩
    show fin false (.v (.bl true)) e1 h1 _
    intro ρ2 u H2 r2
    obtain ⟨m2, R2, hu⟩ := r2.d
    cases (show u = .bl true from hu)
    obtain ⟨l', vs', e2, h4, h5⟩ := (ov.move m2).rw R2 hd
    cases e2
    cases RDs.bls_of h5
    exact ⟨l, bs, rfl, rfl, .of h4, z ρ2 _ H2 ⟨m1.trans m2, R2, rfl⟩⟩
  | true =>
    have pe := pe_bm (cpos := pos) PySem.F.plainAttrs_list PySem.F.slot_list_index PySem.F.type_list_index mt_idxB ha (pa_cons he pa_nil hs1) hbase (by rw [hs1]; rfl) hline hs1 rfl
    refine pe.imp fun σ H Q ⟨T, ρ, env, vh, R, w⟩ => ⟨T, ρ, env, vh, R, ma _ _ _ _ (fun x e1 h1 ⟨bs, hd, hm, z⟩ ρ1 v H1 m1 R1 ov => ?_) w⟩
    have hw := ov.rw R1 hd
    obtain ⟨l, vs, rfl, h2, h3⟩ := hw
    refine ⟨.inl ⟨rfl, vs, .of h2⟩, T, ρ1, e1, h1, R1, ?_⟩
    show fin false (.v (.bl true)) e1 h1 _
    intro ρ2 u H2 r2
    obtain ⟨m2, R2, hu⟩ := r2.d
    cases (show u = .bl true from hu)
    obtain ⟨l', vs', e2, h4, h5⟩ := (ov.move m2).rw R2 hd
    cases e2
    cases RDs.bls_of h5
    exact ⟨l, bs, rfl, rfl, .of h4, hm rfl, z ρ2 _ H2 ⟨m1.trans m2, R2, rfl⟩⟩
/-- sorted(set(a)) -/
theorem re_sset (o : XOk X G B K Φ Γ fs) (hc : hotN ∉ fs) {a : Expr} {p p2 q pos : Pos} {wa : VE → VH → (Op → VE → VH → Prop) → Prop} (ma : ∀ env vh (Q Q' : Op → VE → VH → Prop), (∀ x e h, Q x e h → Q' x e h) → wa env vh Q → wa env vh Q') (ha : PE X a (tO G B wa)) (hg : Gl X "sorted") (hg2 : Gl X "set") (he : starEach [a] X.env = (false, eval a X.env) :: starEach [] X.env) :
    PE X (.Call (.Name "sorted" p) [.Call (.Name "set" p2) [a] [] q] [] pos) (tD G B fun env vh Q => wa env vh fun x e1 h1 => ∃ ns : List Int, (x.ld e1 h1 = some (.lst (ns.map D.int)) ∨ x.ld e1 h1 = some (.tup (ns.map D.int))) ∧ ns.length < 64 ∧ ∀ ns' : List Int, ns'.Pairwise (· < ·) → (∀ k : Int, k ∈ ns' ↔ k ∈ ns) → fin false (.fr (ns'.map D.int)) e1 h1 Q) := by
  refine (pe_sset (o.calm hc) hg (o.bl _ (by decide +kernel)) hg2 (o.bl _ (by decide +kernel)) ha he).imp ?_
  rintro σ H Q ⟨T, ρ, env, vh, R, w⟩
  refine ⟨T, ρ, env, vh, R, ma _ _ _ _ (fun x e1 h1 ⟨ns, hd, hl, z⟩ ρ' v H' mv R' ov => ?_) w⟩
  rcases hd with hd | hd
  · obtain ⟨l, vs, rfl, h2, h3⟩ := ov.rw R' hd
    cases RDs.ints_of h3
    exact ⟨l, ns, rfl, .inl (.of h2), hl, fun ns' p q r hp => z ns' q r ρ' _ _ (Res.of_out mv R' (out_lst hp (RDs.ints _)))⟩
  · obtain ⟨l, vs, rfl, h2, h3⟩ := ov.rw R' hd
    cases RDs.ints_of h3
    exact ⟨l, ns, rfl, .inr (by rw [o.hK]; exact h2), hl, fun ns' p q r hp => z ns' q r ρ' _ _ (Res.of_out mv R' (out_lst hp (RDs.ints _)))⟩
/-! ### attributes -/
theorem re_attr (o : XOk X G B K Φ Γ fs) {i : Nat} {f : Str} {e : Expr} {pos : Pos} (he : PE X e (tVar i)) (hb : ∀ n, attributeBase e n X.env (eval e X.env) = eval e X.env) :
    PE X (.Attribute e f pos) (tD G B fun env vh Q => wpE Φ Γ (.attr (.bor i) f) K false env vh Q) := by
  by_cases hc : hotN ∈ fs
  · exact (o.er hc i f e pos he hb).imp fun σ H Q ⟨T, ρ, env, vh, R, hs, d, e1, w⟩ => ⟨T, ρ, env, vh, R, d, e1, w⟩
  · refine ⟨fun pins s σ H Q I ⟨T, ρ, env, vh, R, hs, d, e1, w⟩ => ?_⟩
    have no : Γ "%a" = none := by
      cases q : Γ "%a" with
      | none => rfl
      | some x => exact absurd (o.ok hc _ _ q) (by decide +kernel)
    unfold wpAttr at w
    split at w
    · rw [no] at w
      exact absurd w.1 (by simp)
    · exact w.elim
/-! ### isinstance -/
/-- isinstance(e, x), e the error that the suite holds -/
def IsxR (X : Cx) (G : Wd) (B : Base) (Γ : Cns) (x : Str) : Prop := ∀ (i : Nat) (e : Expr) (p p2 pos : Pos), PE X e (tVar i) → Gl X "isinstance" → Gl X x → starEach [e, .Name x p2] X.env = (false, eval e X.env) :: starEach [.Name x p2] X.env →
  PE X (.Call (.Name "isinstance" p) [e, .Name x p2] [] pos) (tD G B fun env vh Q => ∃ d, (Op.slt i).raw env = some d ∧ wpIsx Γ d x fun b => fin false (.v (.bl b)) env vh Q)
theorem pa_tys (o : XOk X G B K Φ Γ fs) : ∀ (ns : List String) (es : List Expr), Paired (fun n e => ∃ p, e = Expr.Name (Str.ofString n) p ∧ okTy n = true ∧ Gl X (Str.ofString n)) ns es → PA X es (fun _ H Q => Q (ns.map V.ty) H)
  | [], _, .nil => pa_nil
  | n :: ns, _, .cons (b := e) h t => by
    obtain ⟨p, rfl, h2, h3⟩ := h
    have hm : X.mg (Str.ofString n) = none ∧ bootBuiltins (Str.ofString n) = some (.type n) ∧ (Str.ofString n) ≠ "__name__" ∧ ((Str.ofString n) == ("__debug__" : Str)) = false := by
      have hmem := okTy_mem h2
      have tb : ∀ x ∈ (["int", "bool", "str", "tuple", "list", "dict"] : List String), (Str.ofString x) ∈ bltNames ∧ bootBuiltins (Str.ofString x) = some (.type x) ∧ (Str.ofString x) ≠ "__name__" ∧ ((Str.ofString x) == ("__debug__" : Str)) = false := by decide +kernel
      obtain ⟨q1, q2, q3, q4⟩ := tb n hmem
      exact ⟨o.bl _ q1, q2, q3, q4⟩
    exact (pa_cons (pe_bltn (v := .ty n) (u := .type n) h3 hm.1 hm.2.1 rfl hm.2.2.1 hm.2.2.2) (pa_tys o ns _ t) rfl).imp fun σ H Q w => w
/-- the classes that isinstance is asked for -/
def tysOf : Expr → Option (List String)
  | .Name x _ => (["int", "bool", "str", "tuple", "list", "dict"] : List String).find? (fun n => Str.ofString n == x) |>.map fun n => [n]
  | _ => none
theorem OpV.ty (hK : X.K = G.K) (R : Rel G B T ρ env vh σ H) {x : Op} {v : V} {d : D} {n : String} (h : OpV G (ZZ B.F T ρ env σ) ρ H σ x v) (e : x.ld env vh = some d) (t : tyD d = some n) : TyX X.K H v (.type n) := RW.ty hK (h.rw R e) t
theorem paired_cls : ∀ ns : List String, Paired ClsV (ns.map V.ty) (ns.map Value.type)
  | [] => .nil
  | n :: ns => .cons (.ty n) (paired_cls ns)
theorem re_isi1 (o : XOk X G B K Φ Γ fs) {a : Expr} {n : String} {p p2 pos : Pos} {wa : VE → VH → (Op → VE → VH → Prop) → Prop} (ma : ∀ env vh (Q Q' : Op → VE → VH → Prop), (∀ x e h, Q x e h → Q' x e h) → wa env vh Q → wa env vh Q')
    (ha : PE X a (tO G B wa)) (hg : Gl X "isinstance") (hgn : Gl X (Str.ofString n)) (hn : okTy n = true) (he : starEach [a, .Name (Str.ofString n) p2] X.env = (false, eval a X.env) :: starEach [.Name (Str.ofString n) p2] X.env) :
    PE X (.Call (.Name "isinstance" p) [a, .Name (Str.ofString n) p2] [] pos) (tD G B fun env vh Q => wa env vh fun x e1 h1 => ∃ d m, x.ld e1 h1 = some d ∧ tyD d = some m ∧ [n].all okTy = true ∧ fin false (.v (.bl ([n].any (isTy m)))) e1 h1 Q) := by
  have pa : PA X [a, .Name (Str.ofString n) p2] (tCons (tO G B wa) (fun _ H Q => Q ([n].map V.ty) H)) := pa_cons ha (pa_tys o [n] [_] (.cons ⟨p2, rfl, hn, hgn⟩ .nil)) he
  refine (pe_callB call_isi hg (o.bl _ (by decide +kernel)) (by decide +kernel) pa (by decide +kernel) (by decide +kernel) he rfl).imp ?_
  rintro σ H Q ⟨T, ρ, env, vh, R, w⟩
  refine ⟨T, ρ, env, vh, R, ma _ _ _ _ (fun x e1 h1 ⟨d, m, q1, q2, q3, q4⟩ ρ' v H' mv R' ov => ?_) w⟩
  refine ⟨v, .ty n, .type m, .type n, _, rfl, .ty n, ov.ty o.hK R' q1 q2, kit_is q2 hn, ?_⟩
  have e : [n].any (isTy m) = isTy m n := by simp
  rw [e] at q4
  exact q4 ρ' _ H' ⟨mv, R', rfl⟩
theorem re_isiT (o : XOk X G B K Φ Γ fs) {a : Expr} {ns : List String} {es : List Expr} {k : Nat} {p p2 pos : Pos} {wa : VE → VH → (Op → VE → VH → Prop) → Prop} (ma : ∀ env vh (Q Q' : Op → VE → VH → Prop), (∀ x e h, Q x e h → Q' x e h) → wa env vh Q → wa env vh Q')
    (ha : PE X a (tO G B wa)) (hg : Gl X "isinstance") (hes : Paired (fun n e => ∃ p, e = Expr.Name (Str.ofString n) p ∧ okTy n = true ∧ Gl X (Str.ofString n)) ns es) (hl : ns.length ≤ 1000)
    (he : starEach [a, .Tuple es k p2] X.env = (false, eval a X.env) :: starEach [.Tuple es k p2] X.env) :
    PE X (.Call (.Name "isinstance" p) [a, .Tuple es k p2] [] pos) (tD G B fun env vh Q => wa env vh fun x e1 h1 => ∃ d m, x.ld e1 h1 = some d ∧ tyD d = some m ∧ ns.all okTy = true ∧ fin false (.v (.bl (ns.any (isTy m)))) e1 h1 Q) := by
  have pa : PA X [a, .Tuple es k p2] (tCons (tO G B wa) (tCons (tTup fun _ H Q => Q (ns.map V.ty) H) tNil)) := pa_cons ha (pa_cons (pe_tup (pa_tys o ns es hes)) pa_nil rfl) he
  refine (pe_callB call_isiT hg (o.bl _ (by decide +kernel)) (by decide +kernel) pa (by decide +kernel) (by decide +kernel) he rfl).imp ?_
  rintro σ H Q ⟨T, ρ, env, vh, R, w⟩
  refine ⟨T, ρ, env, vh, R, ma _ _ _ _ (fun x e1 h1 ⟨d, m, q1, q2, q3, q4⟩ ρ' v H' mv R' ov => ?_) w⟩
  refine ⟨by rw [List.length_map, sizeLine_eq]; omega, fun p hp => ?_⟩
  have R2 := R'.grow (same_new (o := .tup (ns.map V.ty)) hp)
  have ov2 := ov.move (Mv.same (same_new (o := .tup (ns.map V.ty)) hp))
  refine ⟨v, p, ns.map V.ty, .type m, ns.map Value.type, _, rfl, upd_same, paired_cls ns, ov2.ty o.hK R2 q1 q2, kit_any q2 q3, ?_⟩
  exact q4 ρ' _ _ ⟨mv.trans (Mv.same (same_new hp)), R2, rfl⟩
end
end R

set_option autoImplicit false
namespace R
open PySem PySem.Spec PyProof.Rows L2
/-! ## R5: targets, what is gone through, comprehensions -/
section
variable {X : Cx} {G : Wd} {B : Base} {T ρ : List Addr} {env : VE} {vh : VH} {σ : L2.St} {H : Hp}
/-! ### targets -/
def gNames : List Nat → TGs
  | [] => gNil
  | i :: is => gCons (gName i) (gNames is)
def gOf (K : PySem.W.Frag) : Tg → TG
  | .one i => gName i
  | .many is => gTup K is.length (gNames is)
/-- the slots that a target writes, one after another -/
def setAllS (σ : L2.St) : List Nat → List V → L2.St
  | i :: is, v :: vs => setAllS (σ.set i (some v)) is vs
  | _, _ => σ
def tgIx : Tg → List Nat
  | .one i => [i]
  | .many is => is
/-- how a bound state came to be -/
inductive Set1 : List Nat → VE → L2.St → VE → L2.St → Prop where
  | nil {env : VE} {σ : L2.St} {is : List Nat} : Set1 is env σ env σ
  | cons {env env2 : VE} {σ σ2 : L2.St} {i : Nat} {is : List Nat} {d : D} {v : V} (hi : i ∈ is) (t : Set1 is (env.set i (.val d)) (σ.set i (some v)) env2 σ2) : Set1 is env σ env2 σ2
theorem Set1.weak {is js : List Nat} {env env2 : VE} {σ σ2 : L2.St} (h : Set1 is env σ env2 σ2) (s : ∀ i, i ∈ is → i ∈ js) : Set1 js env σ env2 σ2 := by
  induction h with
  | nil => exact .nil
  | cons hi _ ih => exact .cons (s _ hi) (ih s)
theorem setValMv {i : Nat} {d : D} {v : V} (R : Rel G B T ρ env vh σ H) : Mv (ZZ B.F T ρ env σ) ρ H (ZZ B.F T ρ (env.set i (.val d)) (σ.set i (some v))) ρ H := Mv.less fun a z => by
  rcases z with z | z | z | ⟨j, z⟩
  · exact .inl z
  · exact .inr (.inl z)
  · exact .inr (.inr (.inl z))
  · rcases Own.of_set z with ⟨_, ds, e, _⟩ | ⟨_, q⟩
    · cases e
    · exact .inr (.inr (.inr ⟨j, q⟩))
theorem names_bind : ∀ {is : List Nat} {ds : List D} {vs : List V} {env env2 : VE} {σ : L2.St} {Q : L2.St → Hp → Prop}, Rel G B T ρ env vh σ H → RDs G (ZZ B.F T ρ env σ) ρ H ds vs → setAllE env is ds = some env2 →
    (∀ σ2, Rel G B T ρ env2 vh σ2 H → Set1 is env σ env2 σ2 → Mv (ZZ B.F T ρ env σ) ρ H (ZZ B.F T ρ env2 σ2) ρ H → Q σ2 H) → gNames is vs σ H Q
  | [], [], vs, env, env2, σ, Q, R, h, e, k => by
    cases e
    cases (show vs = [] from h)
    exact ⟨rfl, k σ R .nil Mv.refl⟩
  | i :: is, d :: ds, vs, env, env2, σ, Q, R, h, e, k => by
    obtain ⟨v, r, rfl, h1, h2⟩ := h
    have m := setValMv (i := i) (d := d) (v := v) R
    exact ⟨v, r, rfl, names_bind (R.setVal h1) (RDs.move m _ _ h2) e fun σ2 R2 s2 m2 => k σ2 R2 (.cons (by simp) (s2.weak fun j hj => List.mem_cons_of_mem _ hj)) (m.trans m2)⟩
  | [], _ :: _, _, _, _, _, _, _, _, e, _ => by cases e
  | _ :: _, [], _, _, _, _, _, _, _, e, _ => by cases e
theorem setAllE_length : ∀ {is : List Nat} {ds : List D} {env env2 : VE}, setAllE env is ds = some env2 → ds.length = is.length
  | [], [], _, _, _ => rfl
  | i :: is, d :: ds, env, env2, e => by rw [List.length_cons, List.length_cons, setAllE_length (is := is) e]
  | [], _ :: _, _, _, e => by cases e
  | _ :: _, [], _, _, e => by cases e
theorem bind_ok {tg : Tg} {d : D} {v : V} {env2 : VE} {Q : L2.St → Hp → Prop} (R : Rel G B T ρ env vh σ H) (h : RD G (ZZ B.F T ρ env σ) ρ H d v) (e : bindT tg d env = some env2)
    (k : ∀ σ2, Rel G B T ρ env2 vh σ2 H → Set1 (tgIx tg) env σ env2 σ2 → Mv (ZZ B.F T ρ env σ) ρ H (ZZ B.F T ρ env2 σ2) ρ H → Q σ2 H) : gOf G.K tg v σ H Q := by
  cases tg with
  | one i =>
    cases e
    exact k _ (R.setVal h) (.cons (by simp [tgIx]) .nil) (setValMv R)
  | many is =>
    cases d with
    | tup ds =>
      obtain ⟨a, vs, rfl, h1, h2⟩ := h
      refine ⟨a, vs, rfl, h1, ?_, names_bind R h2 e k⟩
      rw [← h2.length]
      exact setAllE_length e
    | _ => cases e

/-! ### iterators -/
/-- what an iterator yields, as data -/
structure Wk0 (G : Wd) (J : It) (Z0 : Addr → Prop) (ρ0 : List Addr) (H0 : Hp) (items : List D) : Prop where
  go : ∀ i Z ρ H, Mv Z0 ρ0 H0 Z ρ H → i < items.length → J.go i H
  stop : ∀ Z ρ H, Mv Z0 ρ0 H0 Z ρ H → J.stop items.length H
  yld : ∀ i Z ρ H x H', Mv Z0 ρ0 H0 Z ρ H → i < items.length → J.yld i H x H' → ∃ d, items[i]? = some d ∧ Same H H' ∧ RD G Z ρ H' d x
/-- the shared objects are as they should -/
def ObAt (G : Wd) (Z : Addr → Prop) (ρ : List Addr) (H : Hp) (h : VH) : Prop := ∀ (n : Nat) (o : VO) (a : Addr), h[n]? = some o → ρ[n]? = some a → RO G Z ρ H a o
structure Wk (G : Wd) (J : It) (Z0 : Addr → Prop) (ρ0 : List Addr) (H0 : Hp) (st : VH → Prop) (items : List D) : Prop where
  go : ∀ i Z ρ H h, Mv Z0 ρ0 H0 Z ρ H → ObAt G Z ρ H h → st h → i < items.length → J.go i H
  stop : ∀ Z ρ H h, Mv Z0 ρ0 H0 Z ρ H → ObAt G Z ρ H h → st h → J.stop items.length H
  yld : ∀ i Z ρ H h x H', Mv Z0 ρ0 H0 Z ρ H → ObAt G Z ρ H h → st h → i < items.length → J.yld i H x H' → ∃ d, items[i]? = some d ∧ Same H H' ∧ RD G Z ρ H' d x
theorem Wk0.up {G : Wd} {J : It} {Z0 : Addr → Prop} {ρ0 : List Addr} {H0 : Hp} {st : VH → Prop} {items : List D} (w : Wk0 G J Z0 ρ0 H0 items) : Wk G J Z0 ρ0 H0 st items :=
  ⟨fun i Z ρ H _ m _ _ => w.go i Z ρ H m, fun Z ρ H _ m _ _ => w.stop Z ρ H m, fun i Z ρ H _ x H' m _ _ => w.yld i Z ρ H x H' m⟩
def iD (G : Wd) (B : Base) (w : VE → VH → (List D → (VH → Prop) → VE → VH → Prop) → Prop) : TI := fun σ H R => ∃ T ρ env vh, Rel G B T ρ env vh σ H ∧ w env vh fun items st e1 h1 =>
  ∀ ρ' H' J, Mv (ZZ B.F T ρ env σ) ρ H (ZZ B.F T ρ' e1 σ) ρ' H' → Rel G B T ρ' e1 h1 σ H' → Wk G J (ZZ B.F T ρ' e1 σ) ρ' H' st items → R J H'
theorem wk_list {a : Addr} {vs : List V} {items : List D} {Z0 : Addr → Prop} {ρ0 : List Addr} {H0 : Hp} (hq : ∀ Z ρ H, Mv Z0 ρ0 H0 Z ρ H → SqL G.K H a vs) (h : RDs G Z0 ρ0 H0 items vs) : Wk0 G (Itl G.K a) Z0 ρ0 H0 items where
  go := fun i Z ρ H m hi => by
    rw [h.length] at hi
    exact ⟨vs, vs[i], hq Z ρ H m, by simp [hi]⟩
  stop := fun Z ρ H m => ⟨vs, hq Z ρ H m, by rw [h.length]; exact Nat.le_refl _⟩
  yld := fun i Z ρ H x H' m hi y => by
    obtain ⟨e, y⟩ := y
    subst e
    obtain ⟨d, h1, h2⟩ := (RDs.move m _ _ h).getV (y vs (hq Z ρ H' m))
    exact ⟨d, h1, Same.refl _, h2⟩
theorem wk_tup {a : Addr} {vs : List V} {items : List D} {Z0 : Addr → Prop} {ρ0 : List Addr} {H0 : Hp} (hq : SqT G.K H0 a vs) (h : RDs G Z0 ρ0 H0 items vs) : Wk0 G (Itt G.K a) Z0 ρ0 H0 items where
  go := fun i Z ρ H m hi => by
    rw [h.length] at hi
    exact ⟨vs, vs[i], m.sqt hq, by simp [hi]⟩
  stop := fun Z ρ H m => ⟨vs, m.sqt hq, by rw [h.length]; exact Nat.le_refl _⟩
  yld := fun i Z ρ H x H' m hi y => by
    obtain ⟨e, y⟩ := y
    subst e
    obtain ⟨d, h1, h2⟩ := (RDs.move m _ _ h).getV (y vs (m.sqt hq))
    exact ⟨d, h1, Same.refl _, h2⟩
theorem wk_range {lo : Int} {n : Nat} {Z0 : Addr → Prop} {ρ0 : List Addr} {H0 : Hp} {f : Nat → D} (hf : ∀ i : Nat, f i = .int (lo + i)) : Wk0 G (Itr lo n) Z0 ρ0 H0 ((List.range n).map f) where
  go := fun i Z ρ H m hi => by
    rw [List.length_map, List.length_range] at hi
    exact hi
  stop := fun Z ρ H m => by simp [Itr]
  yld := fun i Z ρ H x H' m hi y => by
    obtain ⟨e, y⟩ := y
    subst e y
    simp at hi
    exact ⟨f i, by simp [hi], Same.refl _, by rw [hf]; rfl⟩
theorem wk_str {x : Str} {Z0 : Addr → Prop} {ρ0 : List Addr} {H0 : Hp} : Wk0 G (Its x) Z0 ρ0 H0 (x.cps.toList.map fun c => D.str ⟨#[c]⟩) where
  go := fun i Z ρ H m hi => by
    rw [List.length_map, Array.length_toList] at hi
    exact hi
  stop := fun Z ρ H m => by simp [Its]
  yld := fun i Z ρ H y H' m hi q => by
    obtain ⟨e, c, hc, rfl⟩ := q
    subst e
    exact ⟨.str ⟨#[c]⟩, by simp [hc], Same.refl _, rfl⟩
theorem ri_seq {tg e : Expr} {w : VE → VH → QE → Prop} (hK : X.K = G.K) (mono : ∀ env vh (Q Q' : QE), (∀ x e h, Q x e h → Q' x e h) → w env vh Q → w env vh Q') (he : PE X e (tD G B w)) :
    PI X tg e (iD G B fun env vh Q => w env vh fun x e1 h1 => ∃ items, itemsV .seq h1 [x.d] = some items ∧ Q items (stl .seq [x.d] h1) e1 h1) := by
  refine ⟨fun pins s σ H R I ⟨T, ρ, env, vh, Rl, q⟩ => ?_⟩
  have hz : tD G B w σ H (fun v H1 => (∃ x, v = .str x ∧ R (Its x) H1) ∨ ∃ a, v = .ref a ∧ ((∃ xs, SqL X.K H1 a xs ∧ R (Itl X.K a) H1) ∨ (∃ xs, SqT X.K H1 a xs ∧ R (Itt X.K a) H1))) := by
    refine ⟨T, ρ, env, vh, Rl, mono _ _ _ _ (fun x e1 h1 ⟨items, ei, k⟩ ρ' v H' r => ?_) q⟩
    obtain ⟨m, R', hv⟩ := r.d
    cases hd : x.d with
    | tup xs =>
      rw [hd] at ei hv
      cases ei
      obtain ⟨a, vs, rfl, h1, h2⟩ := hv
      exact .inr ⟨a, rfl, .inr ⟨vs, by rw [hK]; exact h1, by rw [hK]; exact k ρ' H' _ m R' (wk_tup h1 h2).up⟩⟩
    | lst xs =>
      rw [hd] at ei hv
      cases ei
      obtain ⟨a, vs, rfl, nz, h1, h2⟩ := hv
      exact .inr ⟨a, rfl, .inl ⟨vs, .of h1, by rw [hK]; exact k ρ' H' _ m R' (wk_list (fun Z ρ H m => .of (m.keep a _ nz h1).2) h2).up⟩⟩
    | scr xs =>
      rw [hd] at ei hv
      cases ei
      obtain ⟨a, rfl, h1⟩ := hv
      exact .inr ⟨a, rfl, .inl ⟨_, by rw [hK]; exact h1.sq, by rw [hK]; exact k ρ' H' _ m R' (wk_list (fun Z ρ H m => (m.sqv h1).sq) (RDs.ints _)).up⟩⟩
    | str y =>
      rw [hd] at ei hv
      cases ei
      exact .inl ⟨y, hv, k ρ' H' _ m R' wk_str.up⟩
    | _ => rw [hd] at ei; cases ei
  refine thn (he.run pins s σ H _ I hz) fun v s1 ⟨x, H1, I1, r1, q1⟩ => ?_
  rcases q1 with ⟨y, e, q⟩ | ⟨a, e, q1⟩
  · subst e
    obtain ⟨t, rfl⟩ := r1
    cases ha : y.cps.all (· < 128)
    · exact wpAny_pyIter_wide ha (pi_one (tk := s1.toks) I1 _ (turn_str _ y t "str_iterator" (.inr rfl)) ⟨_, Heap.get?_push_size _ rfl, rfl, rfl⟩ q)
    · exact wpAny_pyIter_ascii ha (pi_one (tk := s1.toks) I1 _ (turn_str _ y t "str_ascii_iterator" (.inl rfl)) ⟨_, Heap.get?_push_size _ rfl, rfl, rfl⟩ q)
  subst e
  cases r1
  rcases q1 with ⟨xs, hq, q⟩ | ⟨xs, hq, q⟩
  · obtain ⟨its, rv, p, hz⟩ := I1.list hq
    refine wpAny_pyIter_list p.isList ?_
    refine ⟨s1.heap.objs.size, [s1.heap.objs.size], _, _, H1, rfl, I1.kept (t' := s1.toks) fun b o e => Heap.get?_push_of_some _ e, turn_list a _, ⟨_, Heap.get?_push_size _ rfl, rfl, rfl⟩, fun b hb => ?_, q⟩
    have e : b = s1.heap.objs.size := by simpa using hb
    subst e
    exact I1.fpOk (Nat.le_refl _) (I1.hok.fresh (Nat.le_refl _))
  · obtain ⟨its, rv, p, hz⟩ := I1.tuple hq
    refine wpAny_pyIter_tuple (show s1.heap.IsTuple a its.toArray from p) ?_
    refine ⟨s1.heap.objs.size, [s1.heap.objs.size], _, _, H1, rfl, I1.kept (t' := s1.toks) fun b o e => Heap.get?_push_of_some _ e, turn_tuple a _, ⟨_, Heap.get?_push_size _ rfl, rfl, rfl⟩, fun b hb => ?_, q⟩
    have e : b = s1.heap.objs.size := by simpa using hb
    subst e
    exact I1.fpOk (Nat.le_refl _) (I1.hok.fresh (Nat.le_refl _))
/-- a list that is gone through, as it stands at each turn -/
def LsAt (G : Wd) (st : VH → Prop) (Z0 : Addr → Prop) (ρ0 : List Addr) (H0 : Hp) (a : Addr) (xs : List D) : Prop := ∀ Z ρ H h, Mv Z0 ρ0 H0 Z ρ H → ObAt G Z ρ H h → st h → ∃ vs, SqL G.K H a vs ∧ RDs G Z ρ H xs vs
theorem LsAt.ref {st : VH → Prop} {Z0 : Addr → Prop} {ρ0 : List Addr} {H0 : Hp} {n : Nat} {a : Addr} {xs : List D} (ha : ρ0[n]? = some a) (hs : ∀ h, st h → h[n]? = some (.lst xs)) : LsAt G st Z0 ρ0 H0 a xs := fun Z ρ H h m ob s => by
  obtain ⟨vs, h1, h2⟩ := ob n _ a (hs h s) (m.pre n a ha)
  exact ⟨vs, .of h1, h2⟩
theorem LsAt.dat {st : VH → Prop} {Z0 : Addr → Prop} {ρ0 : List Addr} {H0 : Hp} {a : Addr} {xs : List D} {vs : List V} (nz : ¬ Z0 a) (h1 : H0 a = some (.lst vs)) (h2 : RDs G Z0 ρ0 H0 xs vs) : LsAt G st Z0 ρ0 H0 a xs := fun Z ρ H h m ob s => ⟨vs, .of (m.keep a _ nz h1).2, RDs.move m _ _ h2⟩
theorem wk_listS {st : VH → Prop} {a : Addr} {items : List D} {Z0 : Addr → Prop} {ρ0 : List Addr} {H0 : Hp} (l : LsAt G st Z0 ρ0 H0 a items) : Wk G (Itl G.K a) Z0 ρ0 H0 st items where
  go := fun i Z ρ H h m ob s hi => by
    obtain ⟨vs, h1, h2⟩ := l Z ρ H h m ob s
    rw [h2.length] at hi
    exact ⟨vs, vs[i], h1, by simp [hi]⟩
  stop := fun Z ρ H h m ob s => by
    obtain ⟨vs, h1, h2⟩ := l Z ρ H h m ob s
    exact ⟨vs, h1, by rw [h2.length]; exact Nat.le_refl _⟩
  yld := fun i Z ρ H h x H' m ob s hi y => by
    obtain ⟨e, y⟩ := y
    subst e
    obtain ⟨vs, h1, h2⟩ := l Z ρ H' h m ob s
    obtain ⟨d, h3, h4⟩ := h2.getV (y vs h1)
    exact ⟨d, h3, Same.refl _, h4⟩
theorem ri_seqS {tg e : Expr} {w : VE → VH → QE → Prop} (hK : X.K = G.K) (mono : ∀ env vh (Q Q' : QE), (∀ x e h, Q x e h → Q' x e h) → w env vh Q → w env vh Q') (he : PE X e (tD G B w)) :
    PI X tg e (iD G B fun env vh Q => w env vh fun x e1 h1 => ∃ items, itemsV .seqS h1 [x.d] = some items ∧ Q items (stl .seqS [x.d] h1) e1 h1) := by
  refine ⟨fun pins s σ H R I ⟨T, ρ, env, vh, Rl, q⟩ => ?_⟩
  have hz : tD G B w σ H (fun v H1 => (∃ x, v = .str x ∧ R (Its x) H1) ∨ ∃ a, v = .ref a ∧ ((∃ xs, SqL X.K H1 a xs ∧ R (Itl X.K a) H1) ∨ (∃ xs, SqT X.K H1 a xs ∧ R (Itt X.K a) H1))) := by
    refine ⟨T, ρ, env, vh, Rl, mono _ _ _ _ (fun x e1 h1 ⟨items, ei, k⟩ ρ' v H' r => ?_) q⟩
    obtain ⟨m, R', hv⟩ := r.d
    cases hd : x.d with
    | ref n =>
      rw [hd] at ei hv
      obtain ⟨a, ha, rfl⟩ := hv
      have ei : itemsD .seq [drf h1 (.ref n)] = some items := ei
      unfold drf at ei
      dsimp only at ei
      split at ei
      · rename_i xs hn
        cases ei
        obtain ⟨vs, hH, hvs⟩ := R'.ob n _ a hn ha
        exact .inr ⟨a, rfl, .inl ⟨vs, .of hH, by rw [hK]; exact k ρ' H' _ m R' (wk_listS (LsAt.ref ha fun h s => (s n (by rw [hd]; exact List.mem_singleton.mpr rfl)).trans hn))⟩⟩
      · cases ei
    | tup xs =>
      rw [hd] at ei hv
      cases ei
      obtain ⟨a, vs, rfl, h1, h2⟩ := hv
      exact .inr ⟨a, rfl, .inr ⟨vs, by rw [hK]; exact h1, by rw [hK]; exact k ρ' H' _ m R' (wk_tup h1 h2).up⟩⟩
    | lst xs =>
      rw [hd] at ei hv
      cases ei
      obtain ⟨a, vs, rfl, nz, h1, h2⟩ := hv
      exact .inr ⟨a, rfl, .inl ⟨vs, .of h1, by rw [hK]; exact k ρ' H' _ m R' (wk_list (fun Z ρ H m => .of (m.keep a _ nz h1).2) h2).up⟩⟩
    | scr xs =>
      rw [hd] at ei hv
      cases ei
      obtain ⟨a, rfl, h1⟩ := hv
      exact .inr ⟨a, rfl, .inl ⟨_, by rw [hK]; exact h1.sq, by rw [hK]; exact k ρ' H' _ m R' (wk_list (fun Z ρ H m => (m.sqv h1).sq) (RDs.ints _)).up⟩⟩
    | str y =>
      rw [hd] at ei hv
      cases ei
      exact .inl ⟨y, hv, k ρ' H' _ m R' wk_str.up⟩
    | _ => rw [hd] at ei; cases ei
  refine thn (he.run pins s σ H _ I hz) fun v s1 ⟨x, H1, I1, r1, q1⟩ => ?_
  rcases q1 with ⟨y, e, q⟩ | ⟨a, e, q1⟩
  · subst e
    obtain ⟨t, rfl⟩ := r1
    cases ha : y.cps.all (· < 128)
    · exact wpAny_pyIter_wide ha (pi_one (tk := s1.toks) I1 _ (turn_str _ y t "str_iterator" (.inr rfl)) ⟨_, Heap.get?_push_size _ rfl, rfl, rfl⟩ q)
    · exact wpAny_pyIter_ascii ha (pi_one (tk := s1.toks) I1 _ (turn_str _ y t "str_ascii_iterator" (.inl rfl)) ⟨_, Heap.get?_push_size _ rfl, rfl, rfl⟩ q)
  subst e
  cases r1
  rcases q1 with ⟨xs, hq, q⟩ | ⟨xs, hq, q⟩
  · obtain ⟨its, rv, p, hz⟩ := I1.list hq
    refine wpAny_pyIter_list p.isList ?_
    refine ⟨s1.heap.objs.size, [s1.heap.objs.size], _, _, H1, rfl, I1.kept (t' := s1.toks) fun b o e => Heap.get?_push_of_some _ e, turn_list a _, ⟨_, Heap.get?_push_size _ rfl, rfl, rfl⟩, fun b hb => ?_, q⟩
    have e : b = s1.heap.objs.size := by simpa using hb
    subst e
    exact I1.fpOk (Nat.le_refl _) (I1.hok.fresh (Nat.le_refl _))
  · obtain ⟨its, rv, p, hz⟩ := I1.tuple hq
    refine wpAny_pyIter_tuple (show s1.heap.IsTuple a its.toArray from p) ?_
    refine ⟨s1.heap.objs.size, [s1.heap.objs.size], _, _, H1, rfl, I1.kept (t' := s1.toks) fun b o e => Heap.get?_push_of_some _ e, turn_tuple a _, ⟨_, Heap.get?_push_size _ rfl, rfl, rfl⟩, fun b hb => ?_, q⟩
    have e : b = s1.heap.objs.size := by simpa using hb
    subst e
    exact I1.fpOk (Nat.le_refl _) (I1.hok.fresh (Nat.le_refl _))
theorem pi_imp {tg e : Expr} {t t' : TI} (h : PI X tg e t) (f : ∀ σ H R, t' σ H R → t σ H R) : PI X tg e t' := ⟨fun pins s σ H R I hw => h.run pins s σ H R I (f σ H R hw)⟩
theorem items_rng1 {ds items : List D} (h : itemsD .rng1 ds = some items) : ∃ n : Int, ds = [.int n] ∧ items = (List.range n.toNat).map fun (i : Nat) => D.int (i : Int) := by
  match ds, h with
  | [.int n], h => exact ⟨n, rfl, (Option.some.inj h).symm⟩
theorem items_rng2 {ds items : List D} (h : itemsD .rng2 ds = some items) : ∃ a b : Int, ds = [.int a, .int b] ∧ items = (List.range (b - a).toNat).map fun (i : Nat) => D.int (a + (i : Int)) := by
  match ds, h with
  | [.int a, .int b], h => exact ⟨a, b, rfl, (Option.some.inj h).symm⟩
theorem ri_rng1 {tg a : Expr} {p pos : Pos} {ws : VE → VH → (List D → VE → VH → Prop) → Prop} (m : ∀ env vh (Q Q' : List D → VE → VH → Prop), (∀ x e h, Q x e h → Q' x e h) → ws env vh Q → ws env vh Q') (ha : PA X [a] (tL G B ws))
    (hg : Gl X "range") (hm : X.mg "range" = none) (hs : starEach [a] X.env = [(false, eval a X.env)]) : PI X tg (.Call (.Name "range" p) [a] [] pos) (iD G B fun env vh Q => ws env vh fun ds e1 h1 => ∃ items, itemsV .rng1 h1 ds = some items ∧ Q items (stl .rng1 ds h1) e1 h1) := by
  refine pi_imp (pi_range1A hg hm ha hs) ?_
  rintro σ H R ⟨T, ρ, env, vh, Rl, q⟩
  refine ⟨T, ρ, env, vh, Rl, m _ _ _ _ (fun ds e1 h1 ⟨items, ei, k⟩ ρ' vs H' mv R' hv => ?_) q⟩
  obtain ⟨n, rfl, rfl⟩ := items_rng1 ei
  obtain ⟨v, r, rfl, h1, h2⟩ := hv
  cases (show r = [] from h2)
  cases (show v = .int n from h1)
  exact ⟨n, rfl, k ρ' H' _ mv R' (wk_range fun i => by rw [Int.zero_add]).up⟩
theorem ri_rng2 {tg a b : Expr} {p pos : Pos} {ws : VE → VH → (List D → VE → VH → Prop) → Prop} (m : ∀ env vh (Q Q' : List D → VE → VH → Prop), (∀ x e h, Q x e h → Q' x e h) → ws env vh Q → ws env vh Q') (ha : PA X [a, b] (tL G B ws))
    (hg : Gl X "range") (hm : X.mg "range" = none) (hs : starEach [a, b] X.env = [(false, eval a X.env), (false, eval b X.env)]) (hs2 : starEach [b] X.env = [(false, eval b X.env)]) : PI X tg (.Call (.Name "range" p) [a, b] [] pos) (iD G B fun env vh Q => ws env vh fun ds e1 h1 => ∃ items, itemsV .rng2 h1 ds = some items ∧ Q items (stl .rng2 ds h1) e1 h1) := by
  refine pi_imp (pi_range2A hg hm ha hs hs2) ?_
  rintro σ H R ⟨T, ρ, env, vh, Rl, q⟩
  refine ⟨T, ρ, env, vh, Rl, m _ _ _ _ (fun ds e1 h1 ⟨items, ei, k⟩ ρ' vs H' mv R' hv => ?_) q⟩
  obtain ⟨i, j, rfl, rfl⟩ := items_rng2 ei
  obtain ⟨v, r, rfl, h1, h2⟩ := hv
  obtain ⟨w, r, rfl, h3, h4⟩ := h2
  cases (show r = [] from h4)
  cases (show v = .int i from h1)
  cases (show w = .int j from h3)
  exact ⟨i, j, rfl, k ρ' H' _ mv R' (wk_range fun i => rfl).up⟩
theorem items_rng3 {ds items : List D} (h : itemsD .rng3 ds = some items) : ∃ a b : Int, ds = [.int a, .int b, .int (-1)] ∧ (-(2 ^ 62) ≤ a ∧ a < 2 ^ 62 ∧ -(2 ^ 62) ≤ b ∧ b < 2 ^ 62) ∧ items = (List.range (a - b).toNat).map fun (i : Nat) => D.int (a - (i : Int)) := by
  match ds, h with
  | [.int a, .int b, .int c], h =>
    have h : (if c = -1 ∧ -(2 ^ 62) ≤ a ∧ a < 2 ^ 62 ∧ -(2 ^ 62) ≤ b ∧ b < 2 ^ 62 then some ((List.range (a - b).toNat).map fun (i : Nat) => D.int (a - (i : Int))) else none) = some items := h
    split at h
    · rename_i hc
      cases h
      obtain ⟨rfl, hc⟩ := hc
      exact ⟨a, b, rfl, hc, rfl⟩
    · cases h
theorem wk_rangeC {lo c : Int} {n : Nat} {Z0 : Addr → Prop} {ρ0 : List Addr} {H0 : Hp} {f : Nat → D} (hf : ∀ i : Nat, f i = .int (lo + (i : Nat) * c)) : Wk0 G (Itc lo c n) Z0 ρ0 H0 ((List.range n).map f) where
  go := fun i Z ρ H m hi => by
    rw [List.length_map, List.length_range] at hi
    exact hi
  stop := fun Z ρ H m => by simp [Itc]
  yld := fun i Z ρ H x H' m hi y => by
    obtain ⟨e, y⟩ := y
    subst e y
    simp at hi
    exact ⟨f i, by simp [hi], Same.refl _, by rw [hf]; rfl⟩
theorem ri_rng3 {tg a b c : Expr} {p pos : Pos} {ws : VE → VH → (List D → VE → VH → Prop) → Prop} (m : ∀ env vh (Q Q' : List D → VE → VH → Prop), (∀ x e h, Q x e h → Q' x e h) → ws env vh Q → ws env vh Q') (ha : PA X [a, b, c] (tL G B ws))
    (hg : Gl X "range") (hm : X.mg "range" = none) (hs : starEach [a, b, c] X.env = (false, eval a X.env) :: starEach [b, c] X.env) (hpl : (backTo pos (starEach [b, c] X.env)).any (·.1) = false) :
    PI X tg (.Call (.Name "range" p) [a, b, c] [] pos) (iD G B fun env vh Q => ws env vh fun ds e1 h1 => ∃ items, itemsV .rng3 h1 ds = some items ∧ Q items (stl .rng3 ds h1) e1 h1) := by
  refine pi_imp (pi_range3 hg hm ha hs hpl) ?_
  rintro σ H R ⟨T, ρ, env, vh, Rl, q⟩
  refine ⟨T, ρ, env, vh, Rl, m _ _ _ _ (fun ds e1 h1 ⟨items, ei, k⟩ ρ' vs H' mv R' hv => ?_) q⟩
  obtain ⟨i, j, rfl, hc, rfl⟩ := items_rng3 ei
  obtain ⟨v, r, rfl, h1, h2⟩ := hv
  obtain ⟨w, r, rfl, h3, h4⟩ := h2
  obtain ⟨u, r, rfl, h5, h6⟩ := h4
  cases (show r = [] from h6)
  cases (show v = .int i from h1)
  cases (show w = .int j from h3)
  cases (show u = .int (-1) from h5)
  exact ⟨i, j, -1, _, rfl, RgC.neg hc.1 hc.2.1 hc.2.2.1 hc.2.2.2, k ρ' H' _ mv R' (wk_rangeC fun i => by rw [Int.mul_neg, Int.mul_one]; rfl).up⟩
/-! zip, enumerate -/
theorem rd_pair {Z : Addr → Prop} {ρ : List Addr} {H : Hp} {t : Addr} {x y : V} {dx dy : D} (ht : H t = none) (hx : RD G Z ρ H dx x) (hy : RD G Z ρ H dy y) : Same H (upd H t (.tup [x, y])) ∧ RD G Z ρ (upd H t (.tup [x, y])) (.tup [dx, dy]) (.ref t) := by
  have s := same_new (o := .tup [x, y]) ht
  exact ⟨s, t, [x, y], rfl, .inl (.inl upd_same), x, [y], rfl, RD.move (Mv.same s) _ _ hx, y, [], rfl, RD.move (Mv.same s) _ _ hy, rfl⟩
theorem RDs.zip {Z : Addr → Prop} {ρ : List Addr} {H : Hp} {i : Nat} {xs ys : List D} {vs ws : List V} {x y : V} (h1 : RDs G Z ρ H xs vs) (h2 : RDs G Z ρ H ys ws) (e1 : vs[i]? = some x) (e2 : ws[i]? = some y) :
    ∃ dx dy, (List.zipWith (fun x y => D.tup [x, y]) xs ys)[i]? = some (.tup [dx, dy]) ∧ RD G Z ρ H dx x ∧ RD G Z ρ H dy y := by
  obtain ⟨dx, q1, r1⟩ := h1.getV e1
  obtain ⟨dy, q2, r2⟩ := h2.getV e2
  exact ⟨dx, dy, by rw [List.getElem?_zipWith, q1, q2], r1, r2⟩
theorem wk_zipL {a b : Addr} {vs ws : List V} {xs ys : List D} {Z0 : Addr → Prop} {ρ0 : List Addr} {H0 : Hp} (hq : ∀ Z ρ H, Mv Z0 ρ0 H0 Z ρ H → SqL G.K H a vs) (hq2 : ∀ Z ρ H, Mv Z0 ρ0 H0 Z ρ H → SqL G.K H b ws) (h : RDs G Z0 ρ0 H0 xs vs) (h2 : RDs G Z0 ρ0 H0 ys ws) :
    Wk0 G (Itz G.K a b) Z0 ρ0 H0 (List.zipWith (fun x y => D.tup [x, y]) xs ys) where
  go := fun i Z ρ H m hi => by
    rw [List.length_zipWith, h.length, h2.length] at hi
    exact ⟨vs, ws, vs[i]'(by omega), ws[i]'(by omega), hq Z ρ H m, hq2 Z ρ H m, by simp, by simp⟩
  stop := fun Z ρ H m => ⟨vs, ws, hq Z ρ H m, hq2 Z ρ H m, by rw [List.length_zipWith, h.length, h2.length]; omega⟩
  yld := fun i Z ρ H v H' m hi y => by
    obtain ⟨t, x, y, rfl, ht, rfl, hx, hy⟩ := y
    obtain ⟨dx, dy, e, r1, r2⟩ := (RDs.move m _ _ h).zip (RDs.move m _ _ h2) (hx vs (hq Z ρ H m)) (hy ws (hq2 Z ρ H m))
    obtain ⟨s, r⟩ := rd_pair ht r1 r2
    exact ⟨_, e, s, r⟩
theorem wk_zipT {a b : Addr} {vs ws : List V} {xs ys : List D} {Z0 : Addr → Prop} {ρ0 : List Addr} {H0 : Hp} (hq : SqT G.K H0 a vs) (hq2 : SqT G.K H0 b ws) (h : RDs G Z0 ρ0 H0 xs vs) (h2 : RDs G Z0 ρ0 H0 ys ws) :
    Wk0 G (RZ.ItzT G.K a b) Z0 ρ0 H0 (List.zipWith (fun x y => D.tup [x, y]) xs ys) where
  go := fun i Z ρ H m hi => by
    rw [List.length_zipWith, h.length, h2.length] at hi
    exact ⟨vs, ws, vs[i]'(by omega), ws[i]'(by omega), m.sqt hq, m.sqt hq2, by simp, by simp⟩
  stop := fun Z ρ H m => ⟨vs, ws, m.sqt hq, m.sqt hq2, by rw [List.length_zipWith, h.length, h2.length]; omega⟩
  yld := fun i Z ρ H v H' m hi y => by
    obtain ⟨t, x, y, rfl, ht, rfl, hx, hy⟩ := y
    obtain ⟨dx, dy, e, r1, r2⟩ := (RDs.move m _ _ h).zip (RDs.move m _ _ h2) (hx vs (m.sqt hq)) (hy ws (m.sqt hq2))
    obtain ⟨s, r⟩ := rd_pair ht r1 r2
    exact ⟨_, e, s, r⟩
theorem wk_zip4 {p q : Bool} {a b : Addr} {vs ws : List V} {xs ys : List D} {Z0 : Addr → Prop} {ρ0 : List Addr} {H0 : Hp} (hq : ∀ Z ρ H, Mv Z0 ρ0 H0 Z ρ H → SqK p G.K H a vs) (hq2 : ∀ Z ρ H, Mv Z0 ρ0 H0 Z ρ H → SqK q G.K H b ws) (h : RDs G Z0 ρ0 H0 xs vs) (h2 : RDs G Z0 ρ0 H0 ys ws) :
    Wk0 G (Itz4 p q G.K a b) Z0 ρ0 H0 (List.zipWith (fun x y => D.tup [x, y]) xs ys) where
  go := fun i Z ρ H m hi => by
    rw [List.length_zipWith, h.length, h2.length] at hi
    exact ⟨vs, ws, vs[i]'(by omega), ws[i]'(by omega), hq Z ρ H m, hq2 Z ρ H m, by simp, by simp⟩
  stop := fun Z ρ H m => ⟨vs, ws, hq Z ρ H m, hq2 Z ρ H m, by rw [List.length_zipWith, h.length, h2.length]; omega⟩
  yld := fun i Z ρ H v H' m hi y => by
    obtain ⟨t, x, y, rfl, ht, rfl, hx, hy⟩ := y
    obtain ⟨dx, dy, e, r1, r2⟩ := (RDs.move m _ _ h).zip (RDs.move m _ _ h2) (hx vs (hq Z ρ H m)) (hy ws (hq2 Z ρ H m))
    obtain ⟨s, r⟩ := rd_pair ht r1 r2
    exact ⟨_, e, s, r⟩
theorem ri_zip (hK : X.K = G.K) {a b : Expr} {p pos tpos : Pos} {elts : List Expr} {kk : Nat} {ws : VE → VH → (List D → VE → VH → Prop) → Prop} (m : ∀ env vh (Q Q' : List D → VE → VH → Prop), (∀ x e h, Q x e h → Q' x e h) → ws env vh Q → ws env vh Q') (ha : PA X [a, b] (tL G B ws))
    (hg : Gl X "zip") (hm : X.mg "zip" = none) (hs : starEach [a, b] X.env = (false, eval a X.env) :: starEach [b] X.env) (hpl : (backTo pos (starEach [b] X.env)).any (·.1) = false) :
    PI X (.Tuple elts kk tpos) (.Call (.Name "zip" p) [a, b] [] pos) (iD G B fun env vh Q => ws env vh fun ds e1 h1 => ∃ items, itemsV .zip h1 ds = some items ∧ Q items (stl .zip ds h1) e1 h1) := by
  refine pi_imp (pi_zip4 hg hm ha hs hpl) ?_
  rintro σ H R ⟨T, ρ, env, vh, Rl, q⟩
  refine ⟨T, ρ, env, vh, Rl, m _ _ _ _ (fun ds e1 h1 ⟨items, ei, k⟩ ρ' vs H' mv R' hv => ?_) q⟩
  match ds, ei, hv with
  | [.lst xs, .lst ys], ei, ⟨v, r, e1, ⟨a, us, e2, nz1, u1, u2⟩, w, r2, e3, ⟨b, ws, e4, nz2, u3, u4⟩, e5⟩ =>
    cases ei
    cases (show r2 = [] from e5)
    subst e4 e3 e2 e1
    refine ⟨a, b, us, ws, rfl, false, false, .of u1, .of u3, ?_⟩
    rw [hK]
    exact k ρ' H' _ mv R' (wk_zip4 (p := false) (q := false) (fun Z ρ H m => SqL.of (m.keep a _ nz1 u1).2) (fun Z ρ H m => SqL.of (m.keep b _ nz2 u3).2) u2 u4).up
  | [.tup xs, .tup ys], ei, ⟨v, r, e1, ⟨a, us, e2, u1, u2⟩, w, r2, e3, ⟨b, ws, e4, u3, u4⟩, e5⟩ =>
    cases ei
    cases (show r2 = [] from e5)
    subst e4 e3 e2 e1
    refine ⟨a, b, us, ws, rfl, true, true, by rw [hK]; exact u1, by rw [hK]; exact u3, ?_⟩
    rw [hK]
    exact k ρ' H' _ mv R' (wk_zip4 (p := true) (q := true) (fun Z ρ H m => m.sqt u1) (fun Z ρ H m => m.sqt u3) u2 u4).up
  | [.tup xs, .lst ys], ei, ⟨v, r, e1, ⟨a, us, e2, u1, u2⟩, w, r2, e3, ⟨b, ws, e4, nz2, u3, u4⟩, e5⟩ =>
    cases ei
    cases (show r2 = [] from e5)
    subst e4 e3 e2 e1
    refine ⟨a, b, us, ws, rfl, true, false, by rw [hK]; exact u1, SqL.of u3, ?_⟩
    rw [hK]
    exact k ρ' H' _ mv R' (wk_zip4 (p := true) (q := false) (fun Z ρ H m => m.sqt u1) (fun Z ρ H m => SqL.of (m.keep b _ nz2 u3).2) u2 u4).up
  | [.lst xs, .tup ys], ei, ⟨v, r, e1, ⟨a, us, e2, nz1, u1, u2⟩, w, r2, e3, ⟨b, ws, e4, u3, u4⟩, e5⟩ =>
    cases ei
    cases (show r2 = [] from e5)
    subst e4 e3 e2 e1
    refine ⟨a, b, us, ws, rfl, false, true, SqL.of u1, by rw [hK]; exact u3, ?_⟩
    rw [hK]
    exact k ρ' H' _ mv R' (wk_zip4 (p := false) (q := true) (fun Z ρ H m => SqL.of (m.keep a _ nz1 u1).2) (fun Z ρ H m => m.sqt u3) u2 u4).up
theorem wk_zipS {st : VH → Prop} {a b : Addr} {xs ys : List D} {Z0 : Addr → Prop} {ρ0 : List Addr} {H0 : Hp} (l : LsAt G st Z0 ρ0 H0 a xs) (l2 : LsAt G st Z0 ρ0 H0 b ys) :
    Wk G (Itz G.K a b) Z0 ρ0 H0 st (List.zipWith (fun x y => D.tup [x, y]) xs ys) where
  go := fun i Z ρ H h m ob s hi => by
    obtain ⟨vs, h1, h2⟩ := l Z ρ H h m ob s
    obtain ⟨ws, h3, h4⟩ := l2 Z ρ H h m ob s
    rw [List.length_zipWith, h2.length, h4.length] at hi
    exact ⟨vs, ws, vs[i]'(by omega), ws[i]'(by omega), h1, h3, by simp, by simp⟩
  stop := fun Z ρ H h m ob s => by
    obtain ⟨vs, h1, h2⟩ := l Z ρ H h m ob s
    obtain ⟨ws, h3, h4⟩ := l2 Z ρ H h m ob s
    exact ⟨vs, ws, h1, h3, by rw [List.length_zipWith, h2.length, h4.length]; omega⟩
  yld := fun i Z ρ H h v H' m ob s hi y => by
    obtain ⟨vs, h1, h2⟩ := l Z ρ H h m ob s
    obtain ⟨ws, h3, h4⟩ := l2 Z ρ H h m ob s
    obtain ⟨t, x, y, rfl, ht, rfl, hx, hy⟩ := y
    obtain ⟨dx, dy, e, r1, r2⟩ := h2.zip h4 (hx vs h1) (hy ws h3)
    obtain ⟨s, r⟩ := rd_pair ht r1 r2
    exact ⟨_, e, s, r⟩
/-- a list, shared or data, at the start -/
theorem ls_at {T ρ : List Addr} {env : VE} {vh : VH} {σ : L2.St} {H : Hp} {k : Ik} {ds : List D} {d : D} {v : V} {xs : List D} (hs : ∀ h, stl k ds vh h → ∀ n, D.ref n ∈ ds → h[n]? = vh[n]?) (R : Rel G B T ρ env vh σ H) (hd : d ∈ ds) (h : RD G (ZZ B.F T ρ env σ) ρ H d v) (e : drf vh d = .lst xs) :
    ∃ a vs, v = .ref a ∧ SqL G.K H a vs ∧ RDs G (ZZ B.F T ρ env σ) ρ H xs vs ∧ LsAt G (stl k ds vh) (ZZ B.F T ρ env σ) ρ H a xs := by
  unfold drf at e
  split at e
  · rename_i n
    split at e
    · rename_i ys hn
      cases e
      obtain ⟨a, ha, rfl⟩ := h
      obtain ⟨vs, hH, hvs⟩ := R.ob n _ a hn ha
      exact ⟨a, vs, rfl, .of hH, hvs, LsAt.ref ha fun h s => (hs h s n hd).trans hn⟩
    · cases e
  · subst e
    obtain ⟨a, vs, rfl, nz, h1, h2⟩ := h
    exact ⟨a, vs, rfl, .of h1, h2, LsAt.dat nz h1 h2⟩
theorem ri_zipS (hK : X.K = G.K) {a b : Expr} {p pos tpos : Pos} {elts : List Expr} {kk : Nat} {ws : VE → VH → (List D → VE → VH → Prop) → Prop} (m : ∀ env vh (Q Q' : List D → VE → VH → Prop), (∀ x e h, Q x e h → Q' x e h) → ws env vh Q → ws env vh Q') (ha : PA X [a, b] (tL G B ws))
    (hg : Gl X "zip") (hm : X.mg "zip" = none) (hs : starEach [a, b] X.env = (false, eval a X.env) :: starEach [b] X.env) (hpl : (backTo pos (starEach [b] X.env)).any (·.1) = false) :
    PI X (.Tuple elts kk tpos) (.Call (.Name "zip" p) [a, b] [] pos) (iD G B fun env vh Q => ws env vh fun ds e1 h1 => ∃ items, itemsV .zipS h1 ds = some items ∧ Q items (stl .zipS ds h1) e1 h1) := by
  refine pi_imp (RZ.pi_zipA hg hm ha hs hpl) ?_
  rintro σ H R ⟨T, ρ, env, vh, Rl, q⟩
  refine ⟨T, ρ, env, vh, Rl, m _ _ _ _ (fun ds e1 h1 ⟨items, ei, k⟩ ρ' vs H' mv R' hv => ?_) q⟩
  obtain ⟨d, e, rfl⟩ : ∃ d e, ds = [d, e] := by
    rcases ds with _ | ⟨d, _ | ⟨e, _ | ⟨f, r⟩⟩⟩
    · cases ei
    · exact absurd ei (by simp [itemsV, itemsD])
    · exact ⟨d, e, rfl⟩
    · exact absurd ei (by simp [itemsV, itemsD])
  · obtain ⟨v, r, q1, hd, w, r2, q2, he, q3⟩ := hv
    cases (show r2 = [] from q3)
    subst q2 q1
    have ei : itemsD .zip [drf h1 d, drf h1 e] = some items := ei
    cases g1 : drf h1 d with
    | lst xs =>
      cases g2 : drf h1 e with
      | lst ys =>
        rw [g1, g2] at ei
        cases ei
        obtain ⟨a, us, rfl, u1, u2, l1⟩ := ls_at (k := .zipS) (ds := [d, e]) (fun h s => s) R' (by simp) hd g1
        obtain ⟨b, ws, rfl, u3, u4, l2⟩ := ls_at (k := .zipS) (ds := [d, e]) (fun h s => s) R' (by simp) he g2
        refine ⟨a, b, us, ws, rfl, .inl ⟨by rw [hK]; exact u1, by rw [hK]; exact u3, ?_⟩⟩
        rw [hK]
        exact k ρ' H' _ mv R' (wk_zipS l1 l2)
      | _ => rw [g1, g2] at ei; cases ei
    | tup xs =>
      cases g2 : drf h1 e with
      | tup ys =>
        rw [g1, g2] at ei
        cases ei
        have f1 : d = .tup xs := by
          unfold drf at g1
          split at g1
          · split at g1 <;> cases g1
          · exact g1
        have f2 : e = .tup ys := by
          unfold drf at g2
          split at g2
          · split at g2 <;> cases g2
          · exact g2
        subst f1 f2
        obtain ⟨a, us, rfl, u1, u2⟩ := hd
        obtain ⟨b, ws, rfl, u3, u4⟩ := he
        refine ⟨a, b, us, ws, rfl, .inr ⟨by rw [hK]; exact u1, by rw [hK]; exact u3, ?_⟩⟩
        rw [hK]
        exact k ρ' H' _ mv R' (wk_zipT u1 u3 u2 u4).up
      | _ => rw [g1, g2] at ei; cases ei
    | _ => rw [g1] at ei; cases ei
theorem en_at {xs : List D} {i : Nat} {dx : D} (h : xs[i]? = some dx) : (List.zipWith (fun (i : Nat) x => D.tup [.int (i : Int), x]) (List.range xs.length) xs)[i]? = some (.tup [.int (i : Int), dx]) := by
  have hi := (List.getElem?_eq_some_iff.mp h).1
  rw [List.getElem?_zipWith, h, List.getElem?_range hi]
theorem en_len {xs : List D} : (List.zipWith (fun (i : Nat) x => D.tup [.int (i : Int), x]) (List.range xs.length) xs).length = xs.length := by
  rw [List.length_zipWith, List.length_range, Nat.min_self]
theorem wk_enumL {a : Addr} {vs : List V} {xs : List D} {Z0 : Addr → Prop} {ρ0 : List Addr} {H0 : Hp} (hq : ∀ Z ρ H, Mv Z0 ρ0 H0 Z ρ H → SqL G.K H a vs) (h : RDs G Z0 ρ0 H0 xs vs) :
    Wk0 G (Ite G.K a) Z0 ρ0 H0 (List.zipWith (fun (i : Nat) x => D.tup [.int (i : Int), x]) (List.range xs.length) xs) where
  go := fun i Z ρ H m hi => by
    rw [en_len, h.length] at hi
    exact ⟨vs, vs[i]'(by omega), hq Z ρ H m, by simp⟩
  stop := fun Z ρ H m => ⟨vs, hq Z ρ H m, by rw [en_len, h.length]; omega⟩
  yld := fun i Z ρ H v H' m hi y => by
    obtain ⟨t, x, rfl, ht, rfl, hx⟩ := y
    obtain ⟨dx, q1, r1⟩ := (RDs.move m _ _ h).getV (hx vs (hq Z ρ H m))
    obtain ⟨s, r⟩ := rd_pair (dx := .int (i : Int)) ht rfl r1
    exact ⟨_, en_at q1, s, r⟩
theorem wk_enumT {a : Addr} {vs : List V} {xs : List D} {Z0 : Addr → Prop} {ρ0 : List Addr} {H0 : Hp} (hq : SqT G.K H0 a vs) (h : RDs G Z0 ρ0 H0 xs vs) :
    Wk0 G (IteT G.K a) Z0 ρ0 H0 (List.zipWith (fun (i : Nat) x => D.tup [.int (i : Int), x]) (List.range xs.length) xs) where
  go := fun i Z ρ H m hi => by
    rw [en_len, h.length] at hi
    exact ⟨vs, vs[i]'(by omega), m.sqt hq, by simp⟩
  stop := fun Z ρ H m => ⟨vs, m.sqt hq, by rw [en_len, h.length]; omega⟩
  yld := fun i Z ρ H v H' m hi y => by
    obtain ⟨t, x, rfl, ht, rfl, hx⟩ := y
    obtain ⟨dx, q1, r1⟩ := (RDs.move m _ _ h).getV (hx vs (m.sqt hq))
    obtain ⟨s, r⟩ := rd_pair (dx := .int (i : Int)) ht rfl r1
    exact ⟨_, en_at q1, s, r⟩
theorem ri_enum (hK : X.K = G.K) {a : Expr} {p pos tpos : Pos} {elts : List Expr} {kk : Nat} {ws : VE → VH → (List D → VE → VH → Prop) → Prop} (m : ∀ env vh (Q Q' : List D → VE → VH → Prop), (∀ x e h, Q x e h → Q' x e h) → ws env vh Q → ws env vh Q') (ha : PA X [a] (tL G B ws))
    (hg : Gl X "enumerate") (hm : X.mg "enumerate" = none) (hs : starEach [a] X.env = [(false, eval a X.env)]) :
    PI X (.Tuple elts kk tpos) (.Call (.Name "enumerate" p) [a] [] pos) (iD G B fun env vh Q => ws env vh fun ds e1 h1 => ∃ items, itemsV .enum h1 ds = some items ∧ Q items (stl .enum ds h1) e1 h1) := by
  refine pi_imp (pi_enumA hg hm ha hs) ?_
  rintro σ H R ⟨T, ρ, env, vh, Rl, q⟩
  refine ⟨T, ρ, env, vh, Rl, m _ _ _ _ (fun ds e1 h1 ⟨items, ei, k⟩ ρ' vs H' mv R' hv => ?_) q⟩
  match ds, ei, hv with
  | [.lst xs], ei, ⟨v, r, e1, ⟨a, us, e2, nz1, u1, u2⟩, e5⟩ =>
    cases ei
    cases (show r = [] from e5)
    subst e2 e1
    refine ⟨a, us, rfl, .inl ⟨.of u1, ?_⟩⟩
    rw [hK]
    exact k ρ' H' _ mv R' (wk_enumL (fun Z ρ H m => .of (m.keep a _ nz1 u1).2) u2).up
  | [.tup xs], ei, ⟨v, r, e1, ⟨a, us, e2, u1, u2⟩, e5⟩ =>
    cases ei
    cases (show r = [] from e5)
    subst e2 e1
    refine ⟨a, us, rfl, .inr ⟨by rw [hK]; exact u1, ?_⟩⟩
    rw [hK]
    exact k ρ' H' _ mv R' (wk_enumT u1 u2).up
end
end R

set_option autoImplicit false
namespace R
open PySem PySem.Spec PyProof.Rows L2
/-! ## R5c: list comprehensions -/
section
variable {X : Cx} {G : Wd} {B : Base} {T ρ : List Addr} {env : VE} {vh : VH} {σ : L2.St} {H : Hp} {D : Addr}
/-- the base of a turn: D the list that is made -/
def Base.wth (B : Base) (D : Addr) (T ρ : List Addr) (env : VE) (σ : L2.St) (H : Hp) : Base := ⟨fun a => B.F a ∨ a = D, MZ T ρ env σ, H, ρ⟩
theorem wthZ {T0 ρ0 : List Addr} {env0 : VE} {σ0 : L2.St} {H0 : Hp} : ZZ (B.wth D T0 ρ0 env0 σ0 H0).F T ρ env σ = ZZ B.F (D :: T) ρ env σ := funext fun a => propext ⟨fun z => (by
    rcases z with (z | z) | z | z
    · exact .inl z
    · exact .inr (.inl (by rw [show a = D from z]; exact List.mem_cons_self))
    · exact .inr (.inl (List.mem_cons_of_mem _ z))
    · exact .inr (.inr z)), fun z => (by
    rcases z with z | z | z
    · exact .inl (.inl z)
    · rcases List.mem_cons.mp z with e | z
      · exact .inl (.inr e)
      · exact .inr (.inl z)
    · exact .inr (.inr z))⟩
theorem mzCons {a : Addr} (z : MZ T ρ env σ a) : MZ (D :: T) ρ env σ a := z.imp (List.mem_cons_of_mem _) id
theorem Rel.notD (R : Rel G B (D :: T) ρ env vh σ H) : ¬ MZ T ρ env σ D := by
  rintro (z | z | ⟨i, z⟩)
  · exact (List.nodup_cons.mp R.tn).1 z
  · exact R.tr D List.mem_cons_self z
  · exact (R.ot i D z).1 List.mem_cons_self
theorem Rel.inD (R : Rel G B (D :: T) ρ env vh σ H) : Rel G (B.wth D T ρ env σ H) T ρ env vh σ H := by
  refine ⟨R.vl, R.rn, (List.nodup_cons.mp R.tn).2, fun a h => R.tr a (List.mem_cons_of_mem _ h), fun i a h => ⟨fun z => (R.ot i a h).1 (List.mem_cons_of_mem _ z), (R.ot i a h).2⟩, R.oi, fun a f z => ?_, fun a z => ?_, fun n o a h1 h2 => ?_, R.sl, fun i s h => ?_, fun _ _ h _ => h, fun _ _ h => h, fun _ z => .inl z, fun _ _ h => h⟩
  · rcases f with f | f
    · exact R.fm a f (mzCons z)
    · cases f
      exact R.notD z
  · rw [wthZ] at z
    exact R.tk a z
  · rw [wthZ]
    exact R.ob n o a h1 h2
  · rw [wthZ]
    exact R.st i s h
theorem Rel.outD {ρ' : List Addr} {env' : VE} {vh' : VH} {σ' : L2.St} {H' : Hp} (R : Rel G B (D :: T) ρ env vh σ H) (S : Rel G (B.wth D T ρ env σ H) T ρ' env' vh' σ' H') :
    Rel G B (D :: T) ρ' env' vh' σ' H' ∧ Mv (ZZ B.F (D :: T) ρ env σ) ρ H (ZZ B.F (D :: T) ρ' env' σ') ρ' H' ∧ H' D = H D := by
  have sD : ¬ MZ T ρ' env' σ' D := S.fm D (.inr rfl)
  have back : ∀ a, H a = none → B.mu a ∨ B.H0 a = none := fun a q => by
    by_cases hm : B.mu a
    · exact .inl hm
    · cases e : B.H0 a with
      | none => exact .inr rfl
      | some u =>
        have := R.kp a u e hm
        rw [q] at this
        cases this
  refine ⟨⟨S.vl, S.rn, List.nodup_cons.mpr ⟨(List.nodup_cons.mp R.tn).1, S.tn⟩, fun a h => ?_, fun i a h => ⟨fun z => ?_, (S.ot i a h).2⟩, S.oi, fun a f z => ?_, fun a z => ?_, fun n o a h1 h2 => ?_, S.sl, fun i s h => ?_, fun a u h nm => ?_, fun a xs h => S.tp a xs (R.tp a xs h), fun a z => ?_, fun n a h => S.pr n a (R.pr n a h)⟩, ⟨S.pr, fun a u nz h => ⟨fun z => ?_, ?_⟩, S.tp⟩, ?_⟩
  · rcases List.mem_cons.mp h with e | h
    · cases e
      exact fun z => sD (.inr (.inl z))
    · exact S.tr a h
  · rcases List.mem_cons.mp z with e | z
    · cases e
      exact sD (.inr (.inr ⟨i, h⟩))
    · exact (S.ot i a h).1 z
  · rcases z with z | z
    · rcases List.mem_cons.mp z with e | z
      · cases e
        exact R.fm D f (.inl List.mem_cons_self)
      · exact S.fm a (.inl f) (.inl z)
    · exact S.fm a (.inl f) (.inr z)
  · rw [← wthZ (T0 := T) (ρ0 := ρ) (env0 := env) (σ0 := σ) (H0 := H)] at z
    exact S.tk a z
  · rw [← wthZ (T0 := T) (ρ0 := ρ) (env0 := env) (σ0 := σ) (H0 := H)]
    exact S.ob n o a h1 h2
  · rw [← wthZ (T0 := T) (ρ0 := ρ) (env0 := env) (σ0 := σ) (H0 := H)]
    exact S.st i s h
  · exact S.kp a u (R.kp a u h nm) fun z => (R.zn a (mzCons z)).elim nm fun q => (by rw [h] at q; cases q)
  · rcases z with z | z
    · rcases List.mem_cons.mp z with e | z
      · cases e
        exact R.zn D (.inl List.mem_cons_self)
      · rcases S.zn a (.inl z) with q | q
        · exact R.zn a (mzCons q)
        · exact back a q
    · rcases S.zn a (.inr z) with q | q
      · exact R.zn a (mzCons q)
      · exact back a q
  · rw [← wthZ (T0 := T) (ρ0 := ρ) (env0 := env) (σ0 := σ) (H0 := H)] at z
    rcases z with (z | z) | z
    · exact nz (.inl z)
    · exact nz (.inr (.inl (by rw [show a = D from z]; exact List.mem_cons_self)))
    · rcases S.zn a z with q | q
      · exact nz (.inr (mzCons q))
      · have q : H a = none := q
        rw [h] at q
        cases q
  · exact S.kp a u h fun z => nz (.inr (mzCons z))
  · obtain ⟨u, hu, _⟩ := R.tk D (.inr (.inl List.mem_cons_self))
    exact (S.kp D u hu R.notD).trans hu.symm

/-! ### names forgotten and bound -/
theorem wipeE_length (env : VE) : ∀ is : List Nat, (wipeE env is).length = env.length
  | [] => rfl
  | i :: is => by unfold wipeE; rw [List.length_set, wipeE_length env is]
theorem wipeE_out {env : VE} {i : Nat} : ∀ {is : List Nat}, i ∉ is → (wipeE env is)[i]? = env[i]?
  | [], _ => rfl
  | j :: is, h => by
    unfold wipeE
    rw [List.getElem?_set_ne (fun e => h (by rw [← e]; exact List.mem_cons_self)), wipeE_out fun z => h (List.mem_cons_of_mem _ z)]
theorem wipeE_in {env : VE} {i : Nat} {s : Slot} : ∀ {is : List Nat}, i ∈ is → (wipeE env is)[i]? = some s → s = .no
  | j :: is, h, e => by
    unfold wipeE at e
    rcases set_getE e with ⟨_, e⟩ | ⟨ne, e⟩
    · exact e
    · exact wipeE_in ((List.mem_cons.mp h).resolve_left ne) e
theorem wipe_out {σ : L2.St} {i : Nat} : ∀ {is : List Nat}, i ∉ is → (wipe σ is)[i]? = σ[i]?
  | [], _ => rfl
  | j :: is, h => by
    unfold wipe
    rw [List.getElem?_set_ne (fun e => h (by rw [← e]; exact List.mem_cons_self)), wipe_out fun z => h (List.mem_cons_of_mem _ z)]
theorem wipe_in {σ : L2.St} {i : Nat} : ∀ {is : List Nat}, i ∈ is → i < σ.length → (wipe σ is)[i]? = some none
  | j :: is, h, hi => by
    unfold wipe
    by_cases e : j = i
    · subst e
      exact List.getElem?_set_self (by rw [wipe_length]; exact hi)
    · rw [List.getElem?_set_ne e]
      exact wipe_in ((List.mem_cons.mp h).resolve_left (Ne.symm e)) hi
theorem noOwn_in {env : VE} {i : Nat} {ds : List R.D} : ∀ {is : List Nat}, noOwn env is → i ∈ is → env[i]? ≠ some (.own ds)
  | j :: is, h, hi, e => by
    rcases List.mem_cons.mp hi with q | q
    · subst q
      have h1 := h.1
      rw [e] at h1
      exact h1
    · exact noOwn_in h.2 q e
/-- outside is, all is as it was; within, nothing is held alone -/
structure Cl (is : List Nat) (env : VE) (σ : L2.St) (env2 : VE) (σ2 : L2.St) : Prop where
  le : env2.length = env.length
  ls : σ2.length = σ.length
  out : ∀ i, i ∉ is → env2[i]? = env[i]? ∧ σ2[i]? = σ[i]?
  inn : ∀ i, i ∈ is → ∀ ds, env2[i]? ≠ some (.own ds)
theorem Set1.cl {is js : List Nat} {env0 env env2 : VE} {σ0 σ σ2 : L2.St} (h : Set1 is env σ env2 σ2) (s : ∀ i, i ∈ is → i ∈ js) : Cl js env0 σ0 env σ → Cl js env0 σ0 env2 σ2 := by
  induction h with
  | nil => exact id
  | @cons env env2 σ σ2 i is d v hi _ ih =>
    refine fun c => ih s ⟨by rw [List.length_set]; exact c.le, by rw [List.length_set]; exact c.ls, fun j hj => ?_, fun j hj ds e => ?_⟩
    · have ne : i ≠ j := fun e => hj (by rw [← e]; exact s i hi)
      rw [List.getElem?_set_ne ne, List.getElem?_set_ne ne]
      exact c.out j hj
    · rcases set_getE e with ⟨_, e⟩ | ⟨_, e⟩
      · cases e
      · exact c.inn j hj ds e
theorem wipe_cl {is : List Nat} : Cl is env σ (wipeE env is) (wipe σ is) :=
  ⟨wipeE_length _ _, wipe_length _ _, fun i hi => ⟨wipeE_out hi, wipe_out hi⟩, fun i hi ds e => by have := wipeE_in hi e; cases this⟩
theorem Cl.own {is : List Nat} {env2 : VE} {σ2 : L2.St} (c : Cl is env σ env2 σ2) (no : noOwn env is) {a : Addr} {i : Nat} : Own env2 σ2 a i ↔ Own env σ a i := by
  constructor
  · rintro ⟨ds, h1, h2⟩
    by_cases hi : i ∈ is
    · exact absurd h1 (c.inn i hi ds)
    · obtain ⟨q1, q2⟩ := c.out i hi
      exact ⟨ds, q1 ▸ h1, q2 ▸ h2⟩
  · rintro ⟨ds, h1, h2⟩
    by_cases hi : i ∈ is
    · exact absurd h1 (noOwn_in no hi)
    · obtain ⟨q1, q2⟩ := c.out i hi
      exact ⟨ds, q1.trans h1, q2.trans h2⟩
theorem Cl.zz {is : List Nat} {env2 : VE} {σ2 : L2.St} (c : Cl is env σ env2 σ2) (no : noOwn env is) {F : Addr → Prop} : ZZ F T ρ env2 σ2 = ZZ F T ρ env σ := funext fun a => propext
  ⟨fun z => z.imp id (Or.imp id (Or.imp id fun ⟨i, h⟩ => ⟨i, (c.own no).mp h⟩)), fun z => z.imp id (Or.imp id (Or.imp id fun ⟨i, h⟩ => ⟨i, (c.own no).mpr h⟩))⟩
theorem Cl.wipe {is : List Nat} {env2 : VE} {σ2 : L2.St} (c : Cl is env σ env2 σ2) : wipe σ2 is = wipe σ is := by
  apply List.ext_getElem?
  intro i
  by_cases hi : i ∈ is
  · by_cases hl : i < σ.length
    · rw [wipe_in hi hl, wipe_in hi (by rw [c.ls]; exact hl)]
    · rw [List.getElem?_eq_none (by rw [wipe_length, c.ls]; omega), List.getElem?_eq_none (by rw [wipe_length]; omega)]
  · rw [wipe_out hi, wipe_out hi, (c.out i hi).2]
theorem Rel.wipeR {is : List Nat} (R : Rel G B T ρ env vh σ H) : Rel G B T ρ (wipeE env is) vh (wipe σ is) H := by
  have hO : ∀ i a, Own (wipeE env is) (wipe σ is) a i → Own env σ a i := fun i a ⟨ds, h1, h2⟩ => by
    by_cases hi : i ∈ is
    · have := wipeE_in hi h1
      cases this
    · exact ⟨ds, (wipeE_out hi) ▸ h1, (wipe_out hi) ▸ h2⟩
  refine R.weak (fun _ h => h) R.tn (fun i a h => hO i a h) (by rw [wipeE_length, wipe_length]; exact R.sl) fun i s h => ?_
  by_cases hi : i ∈ is
  · cases wipeE_in hi h
    trivial
  · rw [wipe_out hi]
    rw [wipeE_out hi] at h
    exact (R.st i s h).move (Mv.less fun b z => z.imp id (Or.imp id (Or.imp id fun ⟨j, z⟩ => ⟨j, hO j b z⟩))) fun _ _ _ _ => rfl
/-- behind a turn -/
theorem Rel.unset {is : List Nat} {ρ' : List Addr} {env2 : VE} {vh' : VH} {σ2 : L2.St} {H' : Hp} (R : Rel G B T ρ env vh σ H) (c : Cl is env σ env2 σ2) (no : noOwn env is) (S : Rel G B T ρ' env2 vh' σ2 H')
    (m : Mv (ZZ B.F T ρ env σ) ρ H (ZZ B.F T ρ' env2 σ2) ρ' H') : Rel G B T ρ' env vh' σ H' := by
  refine S.weak (fun _ h => h) S.tn (fun i a h => (c.own no).mpr h) R.sl fun i s h => ?_
  rw [← c.zz no (T := T) (ρ := ρ') (F := B.F)]
  have q := R.st i s h
  cases s with
  | no => trivial
  | val d =>
    obtain ⟨v, h1, h2⟩ := q
    exact ⟨v, h1, RD.move m _ _ h2⟩
  | own ds =>
    have hi : i ∉ is := fun z => noOwn_in no z h
    obtain ⟨q1, q2⟩ := c.out i hi
    have z := S.st i _ (q1.trans h)
    rw [q2] at z
    exact z
theorem Rel.tmpUpd {u : HO} (R : Rel G B (D :: T) ρ env vh σ H) (mu : Mt u) : Rel G B (D :: T) ρ env vh σ (upd H D u) := by
  obtain ⟨o, e, mo⟩ := R.tk D (.inr (.inl List.mem_cons_self))
  refine R.write (.inl List.mem_cons_self) e mo mu rfl rfl (fun _ _ => Iff.rfl) (fun n o a h1 h2 => ⟨fun _ => h1, fun z => ?_⟩) (fun i s h => .inl ⟨h, fun ds es z => ?_⟩)
  · cases z
    exact absurd (List.mem_of_getElem? h2) (R.tr D List.mem_cons_self)
  · subst es
    exact (R.ot i D ⟨ds, h, z⟩).1 List.mem_cons_self

/-! ### the comprehension -/
def tW (G : Wd) (w : VE → VH → (Bool → VH → Prop) → Prop) : TT := fun σ H Q => ∃ B T ρ env vh, Rel G B T ρ env vh σ H ∧ w env vh fun b h1 => ∀ ρ' H', Mv (ZZ B.F T ρ env σ) ρ H (ZZ B.F T ρ' env σ) ρ' H' → Rel G B T ρ' env h1 σ H' → Q b H'
def tDx (G : Wd) (w : VE → VH → QE → Prop) : TE := fun σ H Q => ∃ B, tD G B w σ H Q
theorem pe_all {e : Expr} {w : VE → VH → QE → Prop} (h : ∀ B, PE X e (tD G B w)) : PE X e (tDx G w) := ⟨fun pins s σ H Q I ⟨B, z⟩ => (h B).run pins s σ H Q I z⟩
theorem pts_w0 : PTs X [] (tW G fun env vh Q => Q true vh) := ⟨fun pins s σ H Q I ⟨B, T, ρ, env, vh, R, z⟩ => pts_nil.run pins s σ H Q I (z ρ H Mv.refl R)⟩
theorem pts_w1 {c : Expr} {w : VE → VH → QE → Prop} (mono : ∀ env vh (Q Q' : QE), (∀ x e h, Q x e h → Q' x e h) → w env vh Q → w env vh Q') (h : ∀ B, PT X c (tB G B w)) :
    PTs X [c] (tW G fun env vh Q => w env vh fun x e1 h1 => e1 = env ∧ ∃ k, x = .v (.bl k) ∧ Q k h1) := ⟨fun pins s σ H Q I ⟨B, T, ρ, env, vh, R, z⟩ => (pts_one (h B)).run pins s σ H Q I ⟨T, ρ, env, vh, R, mono _ _ _ _ (fun x e1 h1 ⟨ee, k, ex, y⟩ => ⟨k, ex, fun ρ' H' m R' => by
  subst ee
  exact y ρ' H' m R'⟩) z⟩⟩

theorem lc_sound {own : List (Str × Nat)} {tgI : Tg} {wi : VE → VH → (List R.D → (VH → Prop) → VE → VH → Prop) → Prop} {wt : VE → VH → (Bool → VH → Prop) → Prop} {we : VE → VH → QE → Prop}
    (mi : ∀ env vh (Q Q' : List R.D → (VH → Prop) → VE → VH → Prop), (∀ x s e h, Q x s e h → Q' x s e h) → wi env vh Q → wi env vh Q') (mt : ∀ env vh (Q Q' : Bool → VH → Prop), (∀ x h, Q x h → Q' x h) → wt env vh Q → wt env vh Q') (me : ∀ env vh (Q Q' : QE), (∀ x e h, Q x e h → Q' x e h) → we env vh Q → we env vh Q')
    (hsub : ∀ i, i ∈ tgIx tgI → i ∈ own.map (·.2)) :
    ∀ σ H Q, tD G B (fun env vh Q => wi env vh fun items st e1 h1 => noOwn e1 (own.map (·.2)) ∧ lcGo (fun d h R => st h ∧ ∃ e2, bindT tgI d (wipeE e1 (own.map (·.2))) = some e2 ∧ wt e2 h fun b h3 => ifP b (we e2 h3 fun x e4 h4 => e4 = e2 ∧ R (some x.d) h4) (R none h3)) items h1 [] fun acc h2 => st h2 ∧ Q (.fr acc) e1 h2) σ H Q →
      tLc (iD G B wi) (gOf G.K tgI) (tW G wt) (tDx G we) (own.map (·.2)) σ H Q := by
  generalize own.map (·.2) = is at hsub ⊢
  rintro σ H Q ⟨T, ρ, env, vh, R0, w⟩
  refine ⟨T, ρ, env, vh, R0, mi _ _ _ _ (fun items st e1 h1 ⟨no, go⟩ ρ1 H1 J m1 R1 wk => ?_) w⟩
  intro D hD
  generalize hQQ : (fun (acc : List R.D) (h2 : VH) => st h2 ∧ ∀ (ρ' : List Addr) (v : V) (H' : Hp), Res G B T ρ env σ H (.fr acc) v ρ' e1 h2 H' → Q v H') = QQ at go
  generalize hturn : (fun (d : R.D) (h : VH) (R : Option R.D → VH → Prop) => st h ∧ ∃ e2, bindT tgI d (wipeE e1 is) = some e2 ∧ wt e2 h fun b h3 => ifP b (we e2 h3 fun x e4 h4 => e4 = e2 ∧ R (some x.d) h4) (R none h3)) = turn at go
  have hm0 : Mv (ZZ B.F T ρ1 e1 σ) ρ1 H1 (ZZ B.F (D :: T) ρ1 e1 σ) ρ1 (upd H1 D (.lst [])) := Mv.fresh (same_new hD) fun b z => by
      rcases z with z | z | z
      · exact .inl (.inl z)
      · rcases List.mem_cons.mp z with e | z
        · exact .inr (by rw [e]; exact hD)
        · exact .inl (.inr (.inl z))
      · exact .inl (.inr (.inr z))
  let Pv : Nat → Hp → Prop := fun i H => ∃ ρ' h vs acc, H D = some (.lst vs) ∧ RDs G (ZZ B.F (D :: T) ρ' e1 σ) ρ' H acc vs ∧ Rel G B (D :: T) ρ' e1 h σ H ∧ Mv (ZZ B.F T ρ1 e1 σ) ρ1 H1 (ZZ B.F (D :: T) ρ' e1 σ) ρ' H ∧ lcGo turn (items.drop i) h acc QQ
  refine ⟨fun i m H => m = items.length - i ∧ i ≤ items.length ∧ Pv i H, ⟨items.length, by simp, Nat.zero_le _, ρ1, h1, [], [], upd_same, rfl, R1.tmp hD trivial, hm0, go⟩, ?_⟩
  rintro i m H2 ⟨rfl, hil, ρ', h, vs, acc, hD', hacc, R', m', go'⟩
  by_cases hlt : i < items.length
  · have hdrop0 : items.drop i = items[i] :: items.drop (i + 1) := List.drop_eq_getElem_cons hlt
    have hst : st h := by
      rw [hdrop0] at go'
      subst hturn
      exact go'.1
    refine .inr ⟨wk.go i _ ρ' H2 h m' R'.ob hst hlt, Pv (i + 1), fun H' p' => ⟨items.length - (i + 1), by omega, rfl, hlt, p'⟩, fun x H3 y => ?_⟩
    obtain ⟨d, hd, sm, hx⟩ := wk.yld i _ ρ' H2 h x H3 m' R'.ob hst hlt y
    have hdrop : items.drop i = d :: items.drop (i + 1) := by
      rw [List.drop_eq_getElem_cons hlt]
      rw [List.getElem?_eq_getElem hlt] at hd
      rw [Option.some.inj hd]
    rw [hdrop] at go'
    subst hturn
    obtain ⟨_, e2, hb, tw⟩ := go'
    have Rg := R'.grow sm
    have mg : Mv (ZZ B.F (D :: T) ρ' e1 σ) ρ' H2 (ZZ B.F (D :: T) ρ' e1 σ) ρ' H3 := Mv.same sm
    have Ri := Rg.inD
    have Rw := Ri.wipeR (is := is)
    have hx2 : RD G (ZZ (B.wth D T ρ' e1 σ H3).F T ρ' (wipeE e1 is) (L2.wipe σ is)) ρ' H3 d x := by
      rw [wipe_cl.zz no, wthZ]
      exact hx
    refine bind_ok Rw hx2 hb fun σ2 R4 s2 m4 => ?_
    have c : Cl is e1 σ e2 σ2 := s2.cl hsub wipe_cl
    have m4' : Mv (ZZ (B.wth D T ρ' e1 σ H3).F T ρ' e1 σ) ρ' H3 (ZZ (B.wth D T ρ' e1 σ H3).F T ρ' e2 σ2) ρ' H3 := by
      rw [wipe_cl.zz no] at m4
      exact m4
    refine ⟨c.wipe, ⟨_, T, ρ', e2, h, R4, mt _ _ _ _ (fun b h3 z ρ3 H4 m5 R5 => ?_) tw⟩⟩
    cases b with
    | false =>
      refine L2.iteF ?_
      obtain ⟨S, mm, eD⟩ := Rg.outD (Ri.unset c no R5 (m4'.trans m5))
      have mm2 := mg.trans mm
      exact ⟨ρ3, h3, vs, acc, eD.trans (sm _ _ hD'), RDs.move mm2 _ _ hacc, S, m'.trans mm2, z⟩
    | true =>
      refine L2.iteT ⟨_, T, ρ3, e2, h3, R5, me _ _ _ _ (fun y e4 h4 ⟨ee, zq⟩ ρ6 v H6 r => ?_) z⟩
      subst ee
      obtain ⟨m6, R6, hv⟩ := r.d
      obtain ⟨S, mm, eD⟩ := Rg.outD (Ri.unset c no R6 ((m4'.trans m5).trans m6))
      have mm2 := mg.trans mm
      have hv2 : RD G (ZZ B.F (D :: T) ρ6 e1 σ) ρ6 H6 y.d v := by
        rw [c.zz no, wthZ] at hv
        exact hv
      have eD2 : H6 D = some (.lst vs) := eD.trans (sm _ _ hD')
      have hz : D ∈ D :: T := List.mem_cons_self
      have mu : Mv (ZZ B.F (D :: T) ρ6 e1 σ) ρ6 H6 (ZZ B.F (D :: T) ρ6 e1 σ) ρ6 (upd H6 D (.lst (vs ++ [v]))) := Mv.upd (.inr (.inl hz)) eD2 trivial
      refine ⟨vs, eD2, ?_, ρ6, h4, vs ++ [v], acc ++ [y.d], upd_same, ?_, S.tmpUpd trivial, (m'.trans mm2).trans mu, zq.2⟩
      · rw [sizeLine_eq, ← hacc.length]
        exact zq.1
      · exact RDs.append (RDs.move (mm2.trans mu) _ _ hacc) (.one (RD.move mu _ _ hv2))
  · have e : i = items.length := by omega
    subst e
    rw [List.drop_length] at go'
    subst hQQ
    refine .inl ⟨wk.stop _ ρ' H2 h m' R'.ob go'.1, ?_⟩
    exact go'.2 ρ' (.ref D) H2 ⟨D, vs, rfl, hD', m1.trans m', R', hacc⟩
theorem re_lc {K : XP} {Φ : Fns} {Γ : Cns} {fs : List Str} (o : XOk X G B K Φ Γ fs) (hc : hotN ∉ fs) {elt tg iter : Expr} {ifs : List Expr} {scope : Scope} {own : List (Str × Nat)} {pos : Pos} {tgI : Tg} {wi : VE → VH → (List R.D → (VH → Prop) → VE → VH → Prop) → Prop} {wt : VE → VH → (Bool → VH → Prop) → Prop} {we : VE → VH → QE → Prop}
    (mi : ∀ env vh (Q Q' : List R.D → (VH → Prop) → VE → VH → Prop), (∀ x s e h, Q x s e h → Q' x s e h) → wi env vh Q → wi env vh Q') (mt : ∀ env vh (Q Q' : Bool → VH → Prop), (∀ x h, Q x h → Q' x h) → wt env vh Q → wt env vh Q') (me : ∀ env vh (Q Q' : QE), (∀ x e h, Q x e h → Q' x e h) → we env vh Q → we env vh Q')
    (hi : PI X tg iter (iD G B wi)) (ok : BlkOk X.N X.env.scope scope own)
    (hg : ∀ (s : Shared) (H : Hp) (C : Addr) (cl : List (Str × Addr)) (fp : List Addr), PG (X.blk s H scope (compEnvC scope cl C X.env) fp) tg (gOf G.K tgI)) (ht : ∀ (s : Shared) (H : Hp) (C : Addr) (cl : List (Str × Addr)) (fp : List Addr), PTs (X.blk s H scope (compEnvC scope cl C X.env) fp) ifs (tW G wt))
    (he : ∀ (s : Shared) (H : Hp) (C : Addr) (cl : List (Str × Addr)) (fp : List Addr), PE (X.blk s H scope (compEnvC scope cl C X.env) fp) elt (tDx G we)) (hs : ∀ x, foldedSetIterable iter X.env x = pure x) (hsub : ∀ i, i ∈ tgIx tgI → i ∈ own.map (·.2)) :
    PE X (.ListComp elt [⟨tg, iter, ifs, 0⟩] scope pos) (tD G B (fun env vh Q => wi env vh fun items st e1 h1 => noOwn e1 (own.map (·.2)) ∧ lcGo (fun d h R => st h ∧ ∃ e2, bindT tgI d (wipeE e1 (own.map (·.2))) = some e2 ∧ wt e2 h fun b h3 => ifP b (we e2 h3 fun x e4 h4 => e4 = e2 ∧ R (some x.d) h4) (R none h3)) items h1 [] fun acc h2 => st h2 ∧ Q (.fr acc) e1 h2)) :=
  (pe_lc (o.calm hc) o.nd hi ok hg ht he hs).imp (lc_sound mi mt me hsub)
end
end R

set_option autoImplicit false
namespace R
open PySem PySem.Spec PyProof.Rows L2
/-! ## R5d: dicts that are written out -/
section
variable {X : Cx} {G : Wd} {B : Base} {T ρ : List Addr} {env : VE} {vh : VH} {σ : L2.St} {H : Hp}
variable {K : XP} {Φ : Fns} {Γ : Cns} {fs : List Str}
theorem XOk.any (o : XOk X G B K Φ Γ fs) (hc : hotN ∉ fs) (B' : Base) : XOk X G B' (fun _ _ _ _ => False) Φ Γ fs :=
  ⟨o.hK, o.calm, o.nd, o.hu, o.gu, fun u s' x => by
    obtain ⟨a, B1, sI, pins, σ, H, cls, d, e, I, nb, up, sky, na, os, ag, w⟩ := x
    obtain ⟨_, _, _, _, _, _, _, _, _, _, _, k⟩ := w
    exact k.elim, o.fn, o.cn, o.bl, o.mt, o.mkC, o.ic, o.rm, o.ok, fun h => absurd h hc⟩
theorem mergeK_new : ∀ (more kvs : List (Key × V)), ((kvs ++ more).map (·.1)).Nodup → L2.mergeK kvs more = kvs ++ more
  | [], kvs, _ => by rw [List.append_nil]; rfl
  | p :: r, kvs, h => by
    have hv : valV kvs p.1 = none := by
      have e := valV_any p.1 kvs
      cases hq : valV kvs p.1 with
      | none => rfl
      | some z =>
        rw [hq, Option.isSome_some, List.any_eq_true] at e
        obtain ⟨q, hm, hd⟩ := e
        have hd := of_decide_eq_true hd
        rw [List.map_append, List.map_cons] at h
        have := (List.nodup_append.mp h).2.2 q.1 (List.mem_map_of_mem hm) p.1 List.mem_cons_self
        exact absurd hd this
    show L2.mergeK (putK kvs p.1 p.2) r = _
    rw [putK_new p.2 hv, mergeK_new r (kvs ++ [(p.1, p.2)]) (by rw [List.append_assoc]; exact h), List.append_assoc]
    rfl
def keyE : Expr → Option Key
  | .Constant (.str x) _ _ => some (.inr x)
  | .Constant (.int i) _ _ => some (.inl i)
  | _ => none
def keysOf : List (Option Expr) → Option (List Key)
  | [] => some []
  | some e :: r => match keyE e, keysOf r with
    | some k, some ks => some (k :: ks)
    | _, _ => none
  | _ => none
theorem keyE_ok {X : Cx} {e : Expr} {k : Key} (h : keyE e = some k) : PE X e (tC (kV k)) := by
  unfold keyE at h
  split at h
  · cases h; exact pe_str
  · cases h; exact pe_int
  · cases h
abbrev noK : XP := fun _ _ _ _ => False
def trsOf (G : Wd) (Φ : Fns) (Γ : Cns) : List Key → List E → List (TE × TE)
  | k :: ks, ir :: irs => (tC (kV k), tDx G (wpE Φ Γ ir noK false)) :: trsOf G Φ Γ ks irs
  | _, _ => []
theorem pps_ok {pos : Pos} : ∀ {keys : List (Option Expr)} {values : List Expr} {ks : List Key} {irs : List E}, keysOf keys = some ks → Paired (fun e ir => ∀ B', PE X e (tD G B' (wpE Φ Γ ir noK false))) values irs → keys.length = values.length →
    PPs X pos keys values (trsOf G Φ Γ ks irs)
  | [], values, ks, irs, hk, hv, hl => by
    cases hk
    cases hv with
    | nil => exact pps_nil
    | cons _ _ => cases hl
  | k :: keys, values, ks, irs, hk, hv, hl => by
    unfold keysOf at hk
    split at hk
    · rename_i e; cases e
    · rename_i e0 r e
      cases e
      split at hk
      · rename_i k' ks' h0 h1
        cases hk
        cases hv with
        | nil => cases hl
        | cons h t => exact pps_cons (keyE_ok h0) (pe_all h) (pps_ok h1 t (by simpa using hl))
      · cases hk
    · cases hk
theorem tPairs_ok : ∀ (ks : List Key) (irs : List E) {ρ : List Addr} {env : VE} {vh : VH} {H : Hp} {QQ : List D → VE → VH → Prop} {P : List (V × V) → Hp → Prop}, Rel G B T ρ env vh σ H → ks.length = irs.length → wpEs Φ Γ irs noK env vh QQ →
    (∀ ds e1 h1 ρ' vs H', QQ ds e1 h1 → Mv (ZZ B.F T ρ env σ) ρ H (ZZ B.F T ρ' e1 σ) ρ' H' → Rel G B T ρ' e1 h1 σ H' → RDs G (ZZ B.F T ρ' e1 σ) ρ' H' ds vs → P (List.zipWith (fun k v => (kV k, v)) ks vs) H') → tPairs (trsOf G Φ Γ ks irs) σ H P
  | [], [], ρ, env, vh, H, QQ, P, R, hl, w, f => f [] env vh ρ [] H w Mv.refl R rfl
  | k :: ks, [], ρ, env, vh, H, QQ, P, R, hl, w, f => by cases hl
  | [], ir :: irs, ρ, env, vh, H, QQ, P, R, hl, w, f => by cases hl
  | k :: ks, ir :: irs, ρ, env, vh, H, QQ, P, R, hl, w, f => by
    show tDx G (wpE Φ Γ ir noK false) σ H fun y H2 => tPairs (trsOf G Φ Γ ks irs) σ H2 fun ps H3 => P ((kV k, y) :: ps) H3
    refine ⟨B, T, ρ, env, vh, R, wpE_mono ir noK false _ _ _ _ (fun x e1 h1 w1 ρ1 v H1 r => ?_) w⟩
    obtain ⟨m1, R1, hv⟩ := r.d
    exact tPairs_ok ks irs R1 (by simpa using hl) w1 fun ds e2 h2 ρ2 vs H2 q m2 R2 hvs => f (x.d :: ds) e2 h2 ρ2 (v :: vs) H2 q (m1.trans m2) R2 ⟨v, vs, rfl, RD.move m2 _ _ hv, hvs⟩
theorem zip_keys : ∀ (ks : List Key) (vs : List V), List.zipWith (fun k v => (kV k, v)) ks vs = (List.zipWith (fun (k : Key) v => (k, v)) ks vs).map fun kv => (kV kv.1, kv.2)
  | [], _ => rfl
  | _ :: _, [] => rfl
  | k :: ks, v :: vs => by
    simp only [List.zipWith_cons_cons, List.map_cons]
    rw [zip_keys ks vs]
theorem zip_fst : ∀ (ks : List Key) (vs : List V), ks.length = vs.length → (List.zipWith (fun (k : Key) v => (k, v)) ks vs).map (·.1) = ks
  | [], [], _ => rfl
  | [], _ :: _, h => by cases h
  | _ :: _, [], h => by cases h
  | k :: ks, v :: vs, h => by
    simp only [List.zipWith_cons_cons, List.map_cons]
    rw [zip_fst ks vs (by simpa using h)]
theorem zip_snd : ∀ (ks : List Key) (vs : List V), ks.length = vs.length → (List.zipWith (fun (k : Key) v => (k, v)) ks vs).map (·.2) = vs
  | [], [], _ => rfl
  | [], _ :: _, h => by cases h
  | _ :: _, [], h => by cases h
  | k :: ks, v :: vs, h => by
    simp only [List.zipWith_cons_cons, List.map_cons]
    rw [zip_snd ks vs (by simpa using h)]
theorem Rel.notZ {p : Addr} (R : Rel G B (p :: T) ρ env vh σ H) : ¬ ZZ B.F T ρ env σ p := by
  rintro (z | z | z | ⟨i, z⟩)
  · exact R.fm p z (.inl List.mem_cons_self)
  · exact (List.nodup_cons.mp R.tn).1 z
  · exact R.tr p List.mem_cons_self z
  · exact (R.ot i p z).1 List.mem_cons_self
theorem re_dct {keys : List (Option Expr)} {values : List Expr} {pos : Pos} {ks : List Key} {irs : List E} (hk : keysOf keys = some ks) (hv : Paired (fun e ir => ∀ B', PE X e (tD G B' (wpE Φ Γ ir noK false))) values irs)
    (hall : keys.all (·.isSome) = true) (hl : keys.length = values.length) (hl2 : ks.length = irs.length) (h15 : keys.length ≤ 15) :
    PE X (.Dict keys values pos) (tD G B fun env vh Q => wpE Φ Γ (.dct ks irs) K false env vh Q) := by
  by_cases h0 : keys = []
  · subst h0
    cases hk
    have : values = [] := List.length_eq_zero_iff.mp hl.symm
    subst this
    have : irs = [] := List.length_eq_zero_iff.mp hl2.symm
    subst this
    refine pe_dnewK.imp fun σ H Q ⟨T, ρ, env, vh, R, w⟩ => fun p hp => ?_
    have R1 := R.tmp hp (o := .dK []) trivial
    refine w.2 ρ _ _ ⟨Mv.fresh (same_new hp) fun b z => .inl z, R1.dropT, p, [], [], rfl, R1.notZ, upd_same, rfl, rfl, rfl⟩
  · refine (pe_disp (pps_ok hk hv hl) hall hl h0 h15).imp fun σ H Q ⟨T, ρ, env, vh, R, w⟩ => fun p hp => ?_
    have R1 := R.tmp hp (o := .dK []) trivial
    have m0 : Mv (ZZ B.F T ρ env σ) ρ H (ZZ B.F (p :: T) ρ env σ) ρ (upd H p (.dK [])) := Mv.fresh (same_new hp) fun b z => by
      rcases z with z | z | z
      · exact .inl (.inl z)
      · rcases List.mem_cons.mp z with e | z
        · exact .inr (by rw [e]; exact hp)
        · exact .inl (.inr (.inl z))
      · exact .inl (.inr (.inr z))
    refine tPairs_ok ks irs R1.inD hl2 w fun ds e1 h1 ρ' vs H' q m R2 hvs => ?_
    obtain ⟨S, mm, eD⟩ := R1.outD R2
    rw [wthZ] at hvs
    have hlen : ks.length = vs.length := q.1.1.trans hvs.length
    have eD2 : H' p = some (.dK []) := eD.trans upd_same
    refine ⟨eD2, List.zipWith (fun (k : Key) v => (k, v)) ks vs, zip_keys ks vs, by rw [List.length_zipWith]; have := q.1.2.1; omega, ?_⟩
    have hnd : ((([] : List (Key × V)) ++ List.zipWith (fun (k : Key) v => (k, v)) ks vs).map Prod.fst).Nodup := by
      rw [List.nil_append, zip_fst ks vs hlen]
      exact q.1.2.2
    rw [mergeK_new _ _ hnd, List.nil_append]
    have S2 := S.tmpUpd (u := .dK (List.zipWith (fun (k : Key) v => (k, v)) ks vs)) trivial
    have mu : Mv (ZZ B.F (p :: T) ρ' e1 σ) ρ' H' (ZZ B.F (p :: T) ρ' e1 σ) ρ' (upd H' p (.dK (List.zipWith (fun (k : Key) v => (k, v)) ks vs))) := Mv.upd (.inr (.inl List.mem_cons_self)) eD2 trivial
    have md : Mv (ZZ B.F (p :: T) ρ' e1 σ) ρ' (upd H' p (.dK (List.zipWith (fun (k : Key) v => (k, v)) ks vs))) (ZZ B.F T ρ' e1 σ) ρ' (upd H' p (.dK (List.zipWith (fun (k : Key) v => (k, v)) ks vs))) := Mv.less fun b z => by
      rcases z with z | z | z
      · exact .inl z
      · exact .inr (.inl (List.mem_cons_of_mem _ z))
      · exact .inr (.inr z)
    refine q.2 ρ' _ _ ⟨((m0.trans mm).trans mu).trans md, S2.dropT, p, _, vs, rfl, S2.notZ, upd_same, zip_fst ks vs hlen, zip_snd ks vs hlen, RDs.move (mu.trans md) _ _ hvs⟩
end
end R

set_option autoImplicit false
namespace R
open PySem PySem.Spec PyProof.Rows L2
/-! ## R5m: instances: attributes, methods, new ones; lists that are shared from the start -/
section
variable {G : Wd} {B : Base} {T ρ : List Addr} {env : VE} {vh : VH} {σ : L2.St} {H : Hp}
/-! ### attributes -/
theorem fld_look {Z : Addr → Prop} {f : Str} : ∀ {ws : List (Str × V)} {xs : List D} {d : D}, RDs G Z ρ H xs (ws.map (·.2)) → fldD f (ws.map (·.1)) xs = some d → ∃ v, ws.lookup f = some v ∧ RD G Z ρ H d v
  | [], xs, d, h, e => by cases xs <;> cases e
  | (n, v) :: ws, [], d, h, e => by cases e
  | (n, v) :: ws, x :: xs, d, h, e => by
    obtain ⟨v', r, e1, h1, h2⟩ := h
    obtain ⟨rfl, rfl⟩ := List.cons.inj e1
    have e : (if n = f then some x else fldD f (ws.map (·.1)) xs) = some d := e
    by_cases q : n = f
    · rw [if_pos q] at e
      cases e
      refine ⟨v, ?_, h1⟩
      rw [List.lookup_cons, beq_iff_eq.mpr q.symm]
    · rw [if_neg q] at e
      obtain ⟨u, h3, h4⟩ := fld_look h2 e
      refine ⟨u, ?_, h4⟩
      rw [List.lookup_cons, beq_eq_false_iff_ne.mpr (fun z => q z.symm)]
      exact h3
theorem look_none {f : Str} : ∀ {ws : List (Str × V)}, f ∉ ws.map (·.1) → ws.lookup f = none
  | [], h => rfl
  | (n, v) :: ws, h => by
    rw [List.map_cons, List.mem_cons, not_or] at h
    rw [List.lookup_cons, beq_eq_false_iff_ne.mpr h.1]
    exact look_none h.2
theorem putF_names {f : Str} {v : V} : ∀ {ws : List (Str × V)}, (putF f v ws).map (·.1) = putN f (ws.map (·.1))
  | [] => rfl
  | (n, x) :: ws => by
    show ((if n = f then (n, v) :: ws else (n, x) :: putF f v ws) : List (Str × V)).map (·.1) = if n = f then n :: ws.map (·.1) else n :: putN f (ws.map (·.1))
    by_cases q : n = f
    · rw [if_pos q, if_pos q]
      rfl
    · rw [if_neg q, if_neg q, List.map_cons, putF_names]
theorem putF_vals {Z : Addr → Prop} {f : Str} {d : D} {v : V} (hd : RD G Z ρ H d v) : ∀ {ws : List (Str × V)} {xs : List D}, RDs G Z ρ H xs (ws.map (·.2)) → RDs G Z ρ H (putX f d (ws.map (·.1)) xs) ((putF f v ws).map (·.2))
  | [], xs, h => by
    cases xs with
    | nil => exact ⟨v, [], rfl, hd, rfl⟩
    | cons x xs =>
      obtain ⟨v', r, e1, h1, h2⟩ := h
      cases e1
  | (n, x) :: ws, [], h => by
    cases (show (x :: ws.map (·.2)) = [] from h)
  | (n, x) :: ws, y :: xs, h => by
    obtain ⟨v', r, e1, h1, h2⟩ := h
    obtain ⟨rfl, rfl⟩ := List.cons.inj e1
    show RDs G Z ρ H (if n = f then d :: xs else y :: putX f d (ws.map (·.1)) xs) (((if n = f then (n, v) :: ws else (n, x) :: putF f v ws) : List (Str × V)).map (·.2))
    by_cases q : n = f
    · rw [if_pos q, if_pos q]
      exact ⟨v, _, rfl, hd, h2⟩
    · rw [if_neg q, if_neg q]
      exact ⟨x, _, rfl, h1, putF_vals hd h2⟩
/-- an operand that is an instance -/
theorem op_ins (R : Rel G B T ρ env vh σ H) {o : Op} {v : V} {n : Nat} {c : Str} {ns : List Str} {xs : List D} (h : OpV G (ZZ B.F T ρ env σ) ρ H σ o v) (e : o.raw env = some (.ref n)) (hn : vh[n]? = some (.ins c ns xs)) :
    ∃ a C dx ws, v = .ref a ∧ ρ[n]? = some a ∧ G.ci c = some C ∧ H a = some (.ins C dx ws) ∧ ws.map (·.1) = ns ∧ RDs G (ZZ B.F T ρ env σ) ρ H xs (ws.map (·.2)) := by
  have hr : RD G (ZZ B.F T ρ env σ) ρ H (.ref n) v := by
    cases o with
    | dat x =>
      cases e
      exact h
    | slt i =>
      unfold Op.raw at e
      dsimp only at e
      split at e
      · rename_i d hd
        cases e
        obtain ⟨v', e1, e2⟩ := R.st i _ hd
        have h : σ[i]? = some (some v) := h
        rw [h] at e1
        cases e1
        exact e2
      · cases e
  obtain ⟨a, ha, rfl⟩ := hr
  obtain ⟨C, dx, ws, vs, hC, hH, e1, e2, h2⟩ := R.ob n _ a hn ha
  subst e2
  exact ⟨a, C, dx, ws, rfl, ha, hC, hH, e1, h2⟩
theorem shareMv {a : Addr} : Mv (ZZ B.F (a :: T) ρ env σ) ρ H (ZZ B.F T (ρ ++ [a]) env σ) (ρ ++ [a]) H :=
  ⟨fun n x h => by rw [List.getElem?_append_left (List.getElem?_eq_some_iff.mp h).1]; exact h, fun b u nz h => ⟨fun z => nz (by
    rcases z with z | z | z | z
    · exact .inl z
    · exact .inr (.inl (List.mem_cons_of_mem _ z))
    · rcases List.mem_append.mp z with z | z
      · exact .inr (.inr (.inl z))
      · rw [List.mem_singleton] at z
        subst z
        exact .inr (.inl List.mem_cons_self)
    · exact .inr (.inr (.inr z))), h⟩, fun _ _ h => h⟩
end
section
variable {X : Cx} {G : Wd} {B : Base} {K : XP} {Φ : Fns} {Γ : Cns} {fs : List Str} {T ρ : List Addr} {env : VE} {vh : VH} {σ : L2.St} {H : Hp}
/-- a new list that is shared from the start -/
theorem re_shr {e : Expr} {we : VE → VH → QE → Prop} (me : ∀ env vh (Q Q' : QE), (∀ x e h, Q x e h → Q' x e h) → we env vh Q → we env vh Q') (h : PE X e (tD G B we)) :
    PE X e (tD G B fun env vh Q => we env vh fun x e1 h1 => ∃ ds, x = .fr ds ∧ fin false (.v (.ref h1.length)) e1 (h1 ++ [.lst ds]) Q) :=
  h.imp fun σ H Q ⟨T, ρ, env, vh, R, w⟩ => ⟨T, ρ, env, vh, R, me _ _ _ _ (fun x e1 h1 ⟨ds, ex, k⟩ ρ' v H' r => by
    subst ex
    obtain ⟨a, vs, rfl, hH, m, R', hv⟩ := r
    have S := R'.share (o := .lst ds) ⟨vs, hH, hv⟩
    exact k (ρ' ++ [a]) (.ref a) H' ⟨m.trans shareMv, S, a, by rw [R'.vl]; simp, rfl⟩) w⟩
/-- o.f -/
theorem re_fld (o : XOk X G B K Φ Γ fs) {e : Expr} {f : Str} {pos : Pos} {wa : VE → VH → (Op → VE → VH → Prop) → Prop} (ma : ∀ env vh (Q Q' : Op → VE → VH → Prop), (∀ x e h, Q x e h → Q' x e h) → wa env vh Q → wa env vh Q')
    (h : PE X e (tO G B wa)) (hb : attributeBase e f X.env (eval e X.env) = eval e X.env) (hf : pfN f ∈ fs) :
    PE X (.Attribute e f pos) (tD G B fun env vh Q => wa env vh fun x e1 h1 => ∃ n c ns xs, x.raw e1 = some (.ref n) ∧ h1[n]? = some (.ins c ns xs) ∧ ∃ y, fldD f ns xs = some y ∧ fin false (.v y) e1 h1 Q) :=
  (pe_fld h hb).imp fun σ H Q ⟨T, ρ, env, vh, R, w⟩ => ⟨T, ρ, env, vh, R, ma _ _ _ _ (fun x e1 h1 ⟨n, c, ns, xs, r, hn, y, hy, k⟩ ρ' v H' m R' ov => by
    obtain ⟨a, C, dx, ws, rfl, ha, hC, hH, e1, h2⟩ := op_ins R' ov r hn
    subst e1
    obtain ⟨u, l, hu⟩ := fld_look h2 hy
    obtain ⟨cl, na⟩ := o.ic f hf c C hC
    exact ⟨a, C, dx, ws, u, rfl, hH, cl, na, l, k ρ' u H' ⟨m, R', hu⟩⟩) w⟩
/-- o.m(..): the class, the method by what stands there -/
def tMethD (X : Cx) (m : Str) (E : L2.St → XK) (ta : TE) (t : TA) : TE := fun σ H Q => ta σ H fun x H1 => ∃ (a C dx : Addr) (ws : List (Str × V)) (f : Addr) (fd : FuncData) (ps : List Str) (k : Nat) (sp : Sp), x = .ref a ∧ H1 a = some (.ins C dx ws) ∧ ws.lookup m = none ∧ Cls X.K C ∧ Meth X.K C m f ∧
  FnG X.prog X.w X.K X.mg X.base (L2.CX X.prog X.w) k f fd ps sp ∧ RmG k X.A ∧ Binds X.K fd ps [] ∧ t σ H1 fun vs H2 => sp (x :: vs) H2 Q (E σ)
theorem pe_methD {E : L2.St → XK} {o e : Expr} {es : List Expr} {m : Str} {apos pos : Pos} {ta : TE} {t : TA} {pl : Sem Bool} (he : PE X o ta) (hx : ∀ σ, PassesAt (L2.CX X.prog X.w) X σ (E σ)) (ha : PA X (e :: es) t)
    (hst : starEach (e :: es) X.env = (false, eval e X.env) :: starEach es X.env) (hpl : (backTo pos (starEach es X.env)).any (·.1) = false)
    (ht : eval (.Call (.Attribute o m apos) (e :: es) [] pos) X.env = (do
      let ov ← eval o X.env
      standAt apos.atName
      let (f, first) ← holding [ov] (getMethod ov m pl)
      callWith pos f first (backTo pos (starEach (e :: es) X.env)) (backToKw pos (keywordEach [] X.env)))) :
    PE X (.Call (.Attribute o m apos) (e :: es) [] pos) (tMethD X m E ta t) := by
  refine ⟨fun pins s σ H Q I h => ?_⟩
  refine PySem.W.methodCall_KW (pl := pl) (thn (he.run pins s σ H _ I h) fun u s1 ⟨x, H1, I1, rx, a, C, dx, ws, f, fd, ps, k, sp, ex, ea, l, c, hm, F, hr, hb, q⟩ => ?_) ht
  subst ex
  obtain rfl : u = Value.ref a := rx
  refine getmeth_ok I1 ea c hm l ?_
  refine PySem.W.callWith_K (first := [.ref a]) (h₀ := X.base) I.ok.mod.kin hm.kp (thn (ha.run pos pins s1 σ H1 _ I1 q) fun us s2 ⟨vs, H2, I2, r, q2⟩ => ⟨I2.kIn, ?_⟩) hst hpl
  exact run_G (us := .ref a :: us) (vs := .ref a :: vs) F hr hb (hx σ) I2 (.cons rfl r) q2
theorem pe_methD0 {E : L2.St → XK} {o : Expr} {m : Str} {apos pos : Pos} {ta : TE} {pl : Sem Bool} (he : PE X o ta) (hx : ∀ σ, PassesAt (L2.CX X.prog X.w) X σ (E σ))
    (ht : eval (.Call (.Attribute o m apos) [] [] pos) X.env = (do
      let ov ← eval o X.env
      standAt apos.atName
      let (f, first) ← holding [ov] (getMethod ov m pl)
      callWith pos f first (backTo pos (starEach [] X.env)) (backToKw pos (keywordEach [] X.env)))) :
    PE X (.Call (.Attribute o m apos) [] [] pos) (tMethD X m E ta tNil) := by
  refine ⟨fun pins s σ H Q I h => ?_⟩
  refine PySem.W.methodCall_KW (pl := pl) (thn (he.run pins s σ H _ I h) fun u s1 ⟨x, H1, I1, rx, a, C, dx, ws, f, fd, ps, k, sp, ex, ea, l, c, hm, F, hr, hb, q⟩ => ?_) ht
  subst ex
  obtain rfl : u = Value.ref a := rx
  refine getmeth_ok I1 ea c hm l ?_
  exact PySem.W.callWith_K0 (first := [.ref a]) I1.kIn hm.kp (run_G (us := [.ref a]) (vs := [.ref a]) F hr hb (hx σ) I1 (.cons rfl .nil) q)
theorem meth_tree {o : Expr} {m : Str} {apos pos : Pos} {es : List Expr} {env : Env} (hb : attributeBase o m env (eval o env) = eval o env) (hs : es.all (fun e => match e with
      | .Starred _ _ => false
      | _ => true) = true) (hl : es.length ≤ 20) (hp : (apos.endLine == pos.line) = true) : ∃ pl : Sem Bool, eval (.Call (.Attribute o m apos) es [] pos) env = (do
      let ov ← eval o env
      standAt apos.atName
      let (f, first) ← holding [ov] (getMethod ov m pl)
      callWith pos f first (backTo pos (starEach es env)) (backToKw pos (keywordEach [] env))) := by
  have ha : (backTo pos (starEach es env)).all (!·.1) = true := by
    clear hl
    induction es with
    | nil => rfl
    | cons e es ih =>
      rw [List.all_cons, Bool.and_eq_true] at hs
      have q := ih hs.2
      cases e <;> first
        | exact absurd hs.1 Bool.false_ne_true
        | (show ((!false) && (backTo pos (starEach es env)).all (!·.1)) = true
           rw [q]
           rfl)
  have hf : methodCallForm (es.length + ([] : List Keyword).length) (backTo pos (starEach es env)) (backToKw pos (keywordEach [] env)) = true := by
    unfold methodCallForm
    rw [ha]
    show (true && true && decide (es.length + 0 + 0 < 30)) = true
    rw [decide_eq_true (by omega)]
    rfl
  have hq : methodCallPos true o env apos pos = pure pos := by
    unfold methodCallPos
    simp [hp]
  refine ⟨(do return (← importBound o env).getD true), ?_⟩
  rw [arm_eval_Call, hb]
  unfold methodCall
  rw [hf, hq]
  rfl
theorem re_meth (o : XOk X G B K Φ Γ fs) {r e : Expr} {es : List Expr} {m : Str} {apos pos : Pos} {wa : VE → VH → (Op → VE → VH → Prop) → Prop} {ws : VE → VH → (List D → VE → VH → Prop) → Prop}
    (ma : ∀ env vh (Q Q' : Op → VE → VH → Prop), (∀ x e h, Q x e h → Q' x e h) → wa env vh Q → wa env vh Q') (ms : ∀ env vh (Q Q' : List D → VE → VH → Prop), (∀ x e h, Q x e h → Q' x e h) → ws env vh Q → ws env vh Q')
    (he : PE X r (tO G B wa)) (ha : PA X (e :: es) (tL G B ws)) (hf : pmN m ∈ fs) (hst : starEach (e :: es) X.env = (false, eval e X.env) :: starEach es X.env) (hpl : (backTo pos (starEach es X.env)).any (·.1) = false)
    (ht : ∃ pl : Sem Bool, eval (.Call (.Attribute r m apos) (e :: es) [] pos) X.env = (do
      let ov ← eval r X.env
      standAt apos.atName
      let (f, first) ← holding [ov] (getMethod ov m pl)
      callWith pos f first (backTo pos (starEach (e :: es) X.env)) (backToKw pos (keywordEach [] X.env)))) :
    PE X (.Call (.Attribute r m apos) (e :: es) [] pos) (tD G B fun env vh Q => wa env vh fun x e1 h1 => ∃ n c ns xs, x.raw e1 = some (.ref n) ∧ h1[n]? = some (.ins c ns xs) ∧ (m ∉ ns ∧ (Φ (mN c m)).ex) ∧ ws e1 h1 fun ds e2 h2 => (Φ (mN c m)).run (.ref n :: ds) h2 fun o h3 => match o with
      | .ok x => fin false x e2 h3 Q
      | .exc c xs => K c xs e2 h3) := by
  obtain ⟨pl, ht⟩ := ht
  refine (pe_methD (pl := pl) he (fun σ => passAt o.tk σ) ha hst hpl ht).imp ?_
  rintro σ H Q ⟨T, ρ, env, vh, R, w⟩
  refine ⟨T, ρ, env, vh, R, ma _ _ _ _ (fun x e1 h1 ⟨n, c, ns, xs, hr, hn, ⟨hm, hx⟩, k⟩ ρ1 v H1 mv R1 ov => ?_) w⟩
  obtain ⟨a, C, dx, fw, rfl, hpa, hC, hH, en, hv⟩ := op_ins R1 ov hr hn
  subst en
  obtain ⟨f, fd, ps, lv, cl, me, hb, F, rm⟩ := o.mt m hf c C hC hx
  refine ⟨a, C, dx, fw, f, fd, ps, lv, _, rfl, hH, look_none hm, cl, me, F, rm, hb, T, ρ1, e1, h1, R1, ms _ _ _ _ (fun ds e2 h2 z ρ2 vs H2 mv2 R2 hv2 => ?_) k⟩
  have hd : RDs G (ZZ B.F T ρ2 e2 σ) ρ2 H2 (.ref n :: ds) (.ref a :: vs) := ⟨.ref a, vs, rfl, ⟨a, mv2.pre n a hpa, rfl⟩, hv2⟩
  exact call_hw R2 hd z fun x h2 y ρ' v H' r => y ρ' v H' (Res.moved (mv.trans mv2) r)
/-! ### == of a class's own -/
def tEqI (X : Cx) (E : L2.St → XK) (ta tb : TE) : TE := fun σ H Q => ta σ H fun x H1 => tb σ H1 fun y H2 => ∃ (a b C dx dy : Addr) (ws us : List (Str × V)) (f : Addr) (fd : FuncData) (ps : List Str) (k : Nat) (sp : Sp), x = .ref a ∧ y = .ref b ∧ H2 a = some (.ins C dx ws) ∧ H2 b = some (.ins C dy us) ∧ Meth X.K C "__eq__" f ∧
  FnG X.prog X.w X.K X.mg X.base (L2.CX X.prog X.w) k f fd ps sp ∧ RmG k X.A ∧ Binds X.K fd ps [] ∧ sp [x, y] H2 (fun z H3 => ∃ c, z = .bl c ∧ Q z H3) (E σ)
theorem pe_eqI {E : L2.St → XK} {a b : Expr} {pos : Pos} {ta tb : TE} (hu : X.A.units < cLine) (ha : PE X a ta) (hb : PE X b tb) (hx : ∀ σ, PassesAt (L2.CX X.prog X.w) X σ (E σ)) (hm : behindInMarks .Eq b = false) : PE X (.Compare a [.Eq] [b] pos) (tEqI X E ta tb) := by
  refine ⟨fun pins s σ H Q I h => ?_⟩
  refine wpAny_Compare1 (binT ha hb I h fun v u s2 x y H2 I2 rx ry q => ?_) hm
  obtain ⟨p, q', C, dx, dy, ws, us, f, fd, ps, k, sp, rfl, rfl, e1, e2, mt, F, g, bi, z⟩ := q
  cases rx
  cases ry
  obtain ⟨mA, J, _⟩ := ins_get I2.hok e1
  obtain ⟨mB, J', _⟩ := ins_get I2.hok e2
  obtain ⟨od, J, _⟩ := J.look
  obtain ⟨od', J', _⟩ := J'.look
  obtain ⟨m, hF⟩ := I2.fr
  refine PySem.W.cmp_ofEq (PySem.W.cmp_K (op := .Eq) (tb := .ref C) hu hF I2.ok.mod.kin J J'.type (by simp [PySem.W.notFirst]) mt.at_ mt.fn ?_)
  refine thn (run_G (us := [.ref p, .ref q']) (vs := [.ref p, .ref q']) F g bi (hx σ) I2 (.cons rfl (.cons rfl .nil)) z) fun v s3 ⟨w, H3, I3, rw, c, ec, q⟩ => ?_
  subst ec
  cases rw
  exact ⟨.bl c, H3, I3, rfl, q⟩
theorem re_eqI (o : XOk X G B K Φ Γ fs) {a b : Expr} {pos : Pos} {wa wb : VE → VH → (Op → VE → VH → Prop) → Prop}
    (ma : ∀ env vh (Q Q' : Op → VE → VH → Prop), (∀ x e h, Q x e h → Q' x e h) → wa env vh Q → wa env vh Q') (mb : ∀ env vh (Q Q' : Op → VE → VH → Prop), (∀ x e h, Q x e h → Q' x e h) → wb env vh Q → wb env vh Q')
    (ha : PE X a (tO G B wa)) (hb : PE X b (tO G B wb)) (hf : pmN "__eq__" ∈ fs) (hm : behindInMarks .Eq b = false) :
    PE X (.Compare a [.Eq] [b] pos) (tD G B fun env vh Q => wa env vh fun x e1 h1 => wb e1 h1 fun y e2 h2 => ∃ n m c ns xs ms ys, x.raw e2 = some (.ref n) ∧ h2[n]? = some (.ins c ns xs) ∧ y.raw e2 = some (.ref m) ∧ h2[m]? = some (.ins c ms ys) ∧ (Φ (mN c "__eq__")).ex ∧ (Φ (mN c "__eq__")).run [.ref n, .ref m] h2 fun o h3 => match o with
      | .ok x => ∃ k, x = .v (.bl k) ∧ fin false (.v (.bl k)) e2 h3 Q
      | .exc c xs => K c xs e2 h3) := by
  refine (pe_eqI (by have := o.hu; omega) ha hb (fun σ => passAt o.tk σ) hm).imp ?_
  rintro σ H Q ⟨T, ρ, env, vh, R, w⟩
  refine tO2 ma mb R w fun x y ρ' env' vh' v u H' mv R' ox oy ⟨n, m, c, ns, xs, ms, ys, r1, g1, r2, g2, hx, k⟩ => ?_
  obtain ⟨p, C, dx, ws, rfl, hp, hC, e1, _, _⟩ := op_ins R' ox r1 g1
  obtain ⟨q, C', dy, us, rfl, hq, hC', e2, _, _⟩ := op_ins R' oy r2 g2
  rw [hC] at hC'
  cases hC'
  obtain ⟨f, fd, ps, lv, cl, me, bi, F, rm⟩ := o.mt "__eq__" hf c C hC hx
  refine ⟨p, q, C, dx, dy, ws, us, f, fd, ps, lv, _, rfl, rfl, e1, e2, me, F, rm, bi, ?_⟩
  have hd : RDs G (ZZ B.F T ρ' env' σ) ρ' H' [.ref n, .ref m] [.ref p, .ref q] := ⟨.ref p, [.ref q], rfl, ⟨p, hp, rfl⟩, .ref q, [], rfl, ⟨q, hq, rfl⟩, rfl⟩
  exact call_hw (QQ := fun x h3 => ∃ k, x = .v (.bl k) ∧ _) R' hd k fun x h2 ⟨kk, ex, y⟩ ρ2 v H2 r => by
    subst ex
    have hv := r.2.2
    exact ⟨kk, hv, y ρ2 v H2 (Res.moved mv r)⟩
theorem re_meth0 (o : XOk X G B K Φ Γ fs) {r : Expr} {m : Str} {apos pos : Pos} {wa : VE → VH → (Op → VE → VH → Prop) → Prop}
    (ma : ∀ env vh (Q Q' : Op → VE → VH → Prop), (∀ x e h, Q x e h → Q' x e h) → wa env vh Q → wa env vh Q') (he : PE X r (tO G B wa)) (hf : pmN m ∈ fs)
    (ht : ∃ pl : Sem Bool, eval (.Call (.Attribute r m apos) [] [] pos) X.env = (do
      let ov ← eval r X.env
      standAt apos.atName
      let (f, first) ← holding [ov] (getMethod ov m pl)
      callWith pos f first (backTo pos (starEach [] X.env)) (backToKw pos (keywordEach [] X.env)))) :
    PE X (.Call (.Attribute r m apos) [] [] pos) (tD G B fun env vh Q => wa env vh fun x e1 h1 => ∃ n c ns xs, x.raw e1 = some (.ref n) ∧ h1[n]? = some (.ins c ns xs) ∧ (m ∉ ns ∧ (Φ (mN c m)).ex) ∧ (Φ (mN c m)).run [.ref n] h1 fun o h3 => match o with
      | .ok x => fin false x e1 h3 Q
      | .exc c xs => K c xs e1 h3) := by
  obtain ⟨pl, ht⟩ := ht
  refine (pe_methD0 (pl := pl) he (fun σ => passAt o.tk σ) ht).imp ?_
  rintro σ H Q ⟨T, ρ, env, vh, R, w⟩
  refine ⟨T, ρ, env, vh, R, ma _ _ _ _ (fun x e1 h1 ⟨n, c, ns, xs, hr, hn, ⟨hm, hx⟩, k⟩ ρ1 v H1 mv R1 ov => ?_) w⟩
  obtain ⟨a, C, dx, fw, rfl, hpa, hC, hH, en, hv⟩ := op_ins R1 ov hr hn
  subst en
  obtain ⟨f, fd, ps, lv, cl, me, hb, F, rm⟩ := o.mt m hf c C hC hx
  refine ⟨a, C, dx, fw, f, fd, ps, lv, _, rfl, hH, look_none hm, cl, me, F, rm, hb, ?_⟩
  have hd : RDs G (ZZ B.F T ρ1 e1 σ) ρ1 H1 [.ref n] [.ref a] := ⟨.ref a, [], rfl, ⟨a, hpa, rfl⟩, rfl⟩
  exact call_hw R1 hd k fun x h2 y ρ' v H' r => y ρ' v H' (Res.moved mv r)
/-- isinstance(e, C), so it is -/
theorem re_isc (o : XOk X G B K Φ Γ fs) {c : Str} {e : Expr} {p p2 pos : Pos} {wa : VE → VH → (Op → VE → VH → Prop) → Prop} (ma : ∀ env vh (Q Q' : Op → VE → VH → Prop), (∀ x e h, Q x e h → Q' x e h) → wa env vh Q → wa env vh Q')
    (ha : PE X e (tO G B wa)) (hf : pcN c ∈ fs) (hi : Gl X "isinstance") (hg : Gl X c) (he : starEach [e, .Name c p2] X.env = (false, eval e X.env) :: starEach [.Name c p2] X.env) :
    PE X (.Call (.Name "isinstance" p) [e, .Name c p2] [] pos) (tD G B fun env vh Q => wa env vh fun x e1 h1 => ∃ n ns xs, x.raw e1 = some (.ref n) ∧ h1[n]? = some (.ins c ns xs) ∧ fin false (.v (.bl true)) e1 h1 Q) := by
  obtain ⟨C, _, _, _, _, hC, hm, _, _, _, _, hdb, hI⟩ := o.mkC c hf
  have pa : PA X [e, .Name c p2] (tCons (tO G B wa) (tCons (tC (.ref C)) (fun _ H Q => Q [] H))) := pa_cons ha (pa_cons (pe_glob hg hm rfl hdb) pa_nil rfl) he
  refine (pe_callB call_isi hi (o.bl _ (by decide +kernel)) (by decide +kernel) pa (by decide +kernel) (by decide +kernel) he rfl).imp ?_
  rintro σ H Q ⟨T, ρ, env, vh, R, w⟩
  refine ⟨T, ρ, env, vh, R, ma _ _ _ _ (fun x e1 h1 ⟨n, ns, xs, hr, hn, z⟩ ρ' v H' mv R' ov => ?_) w⟩
  obtain ⟨a, C', dx, ws, rfl, hpa, hC', hH, en, hv⟩ := op_ins R' ov hr hn
  rw [hC] at hC'
  cases hC'
  exact ⟨.ref a, .ref C, .ref C, .ref C, true, rfl, .own C, .base (.ins hH hI.cl hI.ha hI.hn hI.htk hI.hm), hI.me, z ρ' _ H' ⟨mv, R', rfl⟩⟩
/-! ### new instances -/
def tMakeD (C : Addr) (sp : Sp) (E : L2.St → XK) (t : TA) : TE := fun σ H Q => t σ H fun vs H1 => ∀ x dx, H1 x = none → H1 dx = none → dx ≠ x →
  sp (.ref x :: vs) (upd (upd H1 dx (.own x)) x (.ins C dx [])) (fun v H2 => v = .non ∧ Q (.ref x) H2) (E σ)
theorem run_makeS {k : Nat} {f C : Addr} {fd : FuncData} {ps : List Str} {sp : Sp} {E : L2.St → XK} {pins : List (Addr × Obj)} {σ : L2.St} {H : Hp} {s : Shared} {Q : VK} {us : List Value} {vs : List V} (M : Mk X.K C f) (F : FnG X.prog X.w X.K X.mg X.base (L2.CX X.prog X.w) k f fd ps sp) (hr : RmG (k + 1) X.A) (hb : Binds X.K fd ps [])
    (hx : ∀ σ, PassesAt (L2.CX X.prog X.w) X σ (E σ)) (I : Inv X pins σ H s) (r : Vals vs us)
    (h : ∀ x dx, H x = none → H dx = none → dx ≠ x → sp (.ref x :: vs) (upd (upd H dx (.own x)) x (.ins C dx [])) (fun v H2 => v = .non ∧ Q (.ref x) H2) (E σ)) :
    wpAny (model X.prog X.w) X.A (call (.ref C) us) (EP X pins σ Q) X.xe s := by
  have hq := h (s.heap.objs.size + 1) s.heap.objs.size (I.hok.fresh (Nat.le_succ _)) (I.hok.fresh (Nat.le_refl _)) (Nat.ne_of_lt (Nat.lt_succ_self _))
  have I2 := Inv.made (C := C) I
  have r2 : Vals (V.ref (s.heap.objs.size + 1) :: vs) (Value.ref (s.heap.objs.size + 1) :: us) := .cons rfl r
  have hl : (Value.ref (s.heap.objs.size + 1) :: us).length = ps.length := by
    have e := r2.length
    rw [F.len _ _ _ _ hq] at e
    exact e.symm
  have b := hb _ (Value.ref (s.heap.objs.size + 1) :: us) I2.kIn (by rw [List.append_nil]; exact hl)
  rw [List.append_nil] at b
  refine wpAny_call (make_map (f := f) I.kIn M.makes M.init (beq_iff_eq.mp M.fn) (codeAny_mono (F.run _ X.stack _ _ ⟨Value.ref (s.heap.objs.size + 1) :: us, []⟩ (Value.ref (s.heap.objs.size + 1) :: us) _ _ (E σ) (hr.make C us [])
    (I2.env0.make C us []) b r2 hq) fun r s' hq' => ?_))
  cases r with
  | error e => exact hx σ pins _ _ e s' I2 hq'
  | ok fl =>
    cases fl with
    | ret u =>
      obtain ⟨v, H', I3, rv, ev, q3⟩ := I2.after hq'
      subst ev
      exact ⟨rv, ⟨V.ref (s.heap.objs.size + 1), H', I3, rfl, q3⟩⟩
    | next => exact False.elim hq'
    | brk => exact False.elim hq'
    | cont => exact False.elim hq'
theorem pe_makeS {k : Nat} {f C : Addr} {fd : FuncData} {ps : List Str} {sp : Sp} {E : L2.St → XK} {x : Str} {p pos : Pos} {e : Expr} {es : List Expr} {t : TA} (M : Mk X.K C f) (F : FnG X.prog X.w X.K X.mg X.base (L2.CX X.prog X.w) k f fd ps sp) (hr : RmG (k + 1) X.A) (hg : Gl X x) (hm : X.mg x = some (.ref C)) (hb : Binds X.K fd ps [])
    (hx : ∀ σ, PassesAt (L2.CX X.prog X.w) X σ (E σ)) (ha : PA X (e :: es) t) (hdb : (x == ("__debug__" : Str)) = false) (he : starEach (e :: es) X.env = (false, eval e X.env) :: starEach es X.env) (hpl : (backTo pos (starEach es X.env)).any (·.1) = false) :
    PE X (.Call (.Name x p) (e :: es) [] pos) (tMakeD C sp E t) := by
  refine ⟨fun pins s σ H Q I h => ?_⟩
  refine wpAny_Call_Name_kw (ld_glob I hg hm ?_ hdb)
  refine PySem.W.callWith_K (h₀ := X.base) I.ok.mod.kin M.kp (thn (ha.run pos pins s σ H _ I h) fun us s1 ⟨vs, H1, I1, r, q⟩ => ⟨I1.kIn, ?_⟩) he hpl
  exact run_makeS M F hr hb hx I1 r q
theorem pe_makeS0 {k : Nat} {f C : Addr} {fd : FuncData} {ps : List Str} {sp : Sp} {E : L2.St → XK} {x : Str} {p pos : Pos} (M : Mk X.K C f) (F : FnG X.prog X.w X.K X.mg X.base (L2.CX X.prog X.w) k f fd ps sp) (hr : RmG (k + 1) X.A) (hg : Gl X x) (hm : X.mg x = some (.ref C)) (hb : Binds X.K fd ps [])
    (hx : ∀ σ, PassesAt (L2.CX X.prog X.w) X σ (E σ)) (hdb : (x == ("__debug__" : Str)) = false) : PE X (.Call (.Name x p) [] [] pos) (tMakeD C sp E tNil) := by
  refine ⟨fun pins s σ H Q I h => ?_⟩
  refine wpAny_Call_Name_kw (ld_glob I hg hm ?_ hdb)
  exact PySem.W.callWith_K0 I.kIn M.kp (run_makeS (us := []) M F hr hb hx I .nil h)
/-- the heart of a new instance -/
theorem make_hw {sp : VSp} {c : Str} {C : Addr} {ds : List D} {vs : List V} {Q : VK} {Kx : XP} {QQ : VH → Prop} (R : Rel G B T ρ env vh σ H) (h : RDs G (ZZ B.F T ρ env σ) ρ H ds vs) (hC : G.ci c = some C)
    (w : sp.run (.ref vh.length :: ds) (vh ++ [.ins c [] []]) fun o h2 => match o with
      | .ok x => x = .v .non ∧ QQ h2
      | .exc c xs => Kx c xs env h2) (f : ∀ x h2, QQ h2 → ∀ ρ' H', Mv (ZZ B.F T ρ env σ) ρ H (ZZ B.F T ρ' env σ) ρ' H' → Rel G B T ρ' env h2 σ H' → ρ'[vh.length]? = some x → Q (.ref x) H') :
    ∀ x dx, H x = none → H dx = none → dx ≠ x → spV G sp (.ref x :: vs) (upd (upd H dx (.own x)) x (.ins C dx [])) (fun v H2 => v = .non ∧ Q (.ref x) H2) (WE (WK G B Kx) σ) := by
  intro x dx hx hdx ne
  have s1 : Same H (upd H dx (.own x)) := same_new hdx
  have hx1 : (upd H dx (.own x)) x = none := by rw [upd_ne (fun z => ne z.symm)]; exact hx
  have R1 := R.grow s1
  have R2 := R1.tmp (o := .ins C dx []) hx1 trivial
  have R3 := R2.share (o := .ins c [] []) ⟨C, dx, [], [], hC, upd_same, rfl, rfl, rfl⟩
  have m1 : Mv (ZZ B.F T ρ env σ) ρ H (ZZ B.F (x :: T) ρ env σ) ρ (upd (upd H dx (.own x)) x (.ins C dx [])) := (Mv.same s1).trans (Mv.fresh (same_new hx1) fun b z => by
    rcases z with z | z | z
    · exact .inl (.inl z)
    · rcases List.mem_cons.mp z with e | z
      · exact .inr (by rw [e]; exact hx1)
      · exact .inl (.inr (.inl z))
    · exact .inl (.inr (.inr z)))
  have m := m1.trans shareMv
  have hn : (ρ ++ [x])[vh.length]? = some x := by rw [R.vl]; simp
  have hd : RDs G (ZZ B.F T (ρ ++ [x]) env σ) (ρ ++ [x]) (upd (upd H dx (.own x)) x (.ins C dx [])) (.ref vh.length :: ds) (.ref x :: vs) := ⟨.ref x, vs, rfl, ⟨x, hn, rfl⟩, RDs.move m _ _ h⟩
  refine call_hw (Q := fun v H2 => v = .non ∧ Q (.ref x) H2) (QQ := fun z h2 => z = .v .non ∧ QQ h2) R3 hd w fun z h2 y ρ' v H' r => ?_
  obtain ⟨rfl, y⟩ := y
  obtain ⟨m2, R4, hv⟩ := r
  exact ⟨hv, f x h2 y ρ' H' (m.trans m2) R4 (m2.pre _ _ hn)⟩
theorem re_mk (o : XOk X G B K Φ Γ fs) {c : Str} {e : Expr} {es : List Expr} {p pos : Pos} {ws : VE → VH → (List D → VE → VH → Prop) → Prop} (m : ∀ env vh (Q Q' : List D → VE → VH → Prop), (∀ x e h, Q x e h → Q' x e h) → ws env vh Q → ws env vh Q')
    (h : PA X (e :: es) (tL G B ws)) (hf : pcN c ∈ fs) (hg : Gl X c) (he : starEach (e :: es) X.env = (false, eval e X.env) :: starEach es X.env) (hpl : (backTo pos (starEach es X.env)).any (·.1) = false) :
    PE X (.Call (.Name c p) (e :: es) [] pos) (tD G B fun env vh Q => ws env vh fun ds e1 h1 => (Φ (mN c "__init__")).run (.ref h1.length :: ds) (h1 ++ [.ins c [] []]) fun o h2 => match o with
      | .ok x => x = .v .non ∧ fin false (.v (.ref h1.length)) e1 h2 Q
      | .exc c xs => K c xs e1 h2) := by
  obtain ⟨C, a, fd, ps, k, hC, hm, M, hb, F, hr, hdb, _⟩ := o.mkC c hf
  refine (pe_makeS M F hr hg hm hb (fun σ => passAt o.tk σ) h hdb he hpl).imp ?_
  rintro σ H Q ⟨T, ρ, env, vh, R, w⟩
  exact ⟨T, ρ, env, vh, R, m _ _ _ _ (fun ds e1 h1 z ρ1 vs H1 mv R1 hv => make_hw R1 hv hC z fun x h2 y ρ' H' mv2 R2 hx => y ρ' (.ref x) H' ⟨mv.trans mv2, R2, x, hx, rfl⟩) w⟩
theorem re_mk0 (o : XOk X G B K Φ Γ fs) {c : Str} {p pos : Pos} (hf : pcN c ∈ fs) (hg : Gl X c) :
    PE X (.Call (.Name c p) [] [] pos) (tD G B fun env vh Q => (Φ (mN c "__init__")).run [.ref vh.length] (vh ++ [.ins c [] []]) fun o h2 => match o with
      | .ok x => x = .v .non ∧ fin false (.v (.ref vh.length)) env h2 Q
      | .exc c xs => K c xs env h2) := by
  obtain ⟨C, a, fd, ps, k, hC, hm, M, hb, F, hr, hdb, _⟩ := o.mkC c hf
  refine (pe_makeS0 M F hr hg hm hb (fun σ => passAt o.tk σ) hdb).imp ?_
  rintro σ H Q ⟨T, ρ, env, vh, R, w⟩
  exact make_hw (ds := []) R rfl hC w fun x h2 y ρ' H' mv2 R2 hx => y ρ' (.ref x) H' ⟨mv2, R2, x, hx, rfl⟩
end
end R

set_option autoImplicit false
namespace R
open PySem PySem.Spec PyProof.Rows L2
/-! ## RS: statements and what they come to -/
/-- a target: a name, or an attribute of what a name holds -/
inductive Ta where
  | nm (i : Nat) | fl (j : Nat) (f : Str)
  deriving DecidableEq
inductive S where
  | pass | brk | cont | retN
  | set (i : Nat) (e : E) | setO (i : Nat) (e : E) | setS (i : Nat) (e : E)
  | par (i j : Nat) (a b : E)
  | unp (is : List Nat) (e : E) | unpG (ts : List Ta) (e : E)
  | aug (i : Nat) (op : Operator) (e : E)
  | sidx (o i e : E)
  | app (o e : E) | ext (o e : E) | pop (o : E) | sasg (o lo e : E) | appF (o : E) (k : Int) | fset (o : E) (f : Str) (e : E) | faug (o : E) (f : Str) (op : Operator) (e : E)
  | ret (e : E) | retO (i : Nat) | expr (e : E)
  | cond (c : E) (a b : List S)
  | forS (tg : Tg) (k : Ik) (es : List E) (body : List S)
  | whl (c : E) (body : List S)
  | raise (c : Str) (es : List E)
  | tryS (tb : List (Str × List Str × List Str)) (body : List S) (cs : List (Str × Option Nat)) (sus : List (List S))
  | never

structure VEnds where
  nx : VE → VH → Prop
  rt : DV → VH → Prop
  bk : VE → VH → Prop
  ct : VE → VH → Prop

def wpAug (op : Operator) (c d : D) (Q : D → Prop) : Prop := match op, c, d with
  | .Add, .int i, .int j => Q (.int (i + j))
  | .Sub, .int i, .int j => Q (.int (i - j))
  | _, _, _ => False
/-- o[k] = x -/
def setSh (n : Nat) (k x : D) (vh : VH) (Q : VH → Prop) : Prop := match vh[n]?, k with
  | some (.lst xs), .int j => ∃ m, ixN xs.length j = some m ∧ Q (vh.set n (.lst (xs.set m x)))
  | _, _ => False
def wpSet (o : Op) (k x : D) (env : VE) (vh : VH) (Q : VE → VH → Prop) : Prop := match o with
  | .dat (.ref n) => setSh n k x vh (Q env)
  | .dat _ => False
  | .slt i => match env[i]?, k with
    | some (.val (.ref n)), _ => setSh n k x vh (Q env)
    | some (.own xs), .int j => ∃ m, ixN xs.length j = some m ∧ Q (env.set i (.own (xs.set m x))) vh
    | _, _ => False
/-- o is a list that may be written -/
def isLs (o : Op) (env : VE) (vh : VH) : Prop := match o with
  | .dat (.ref n) => ∃ xs, vh[n]? = some (.lst xs)
  | .dat _ => False
  | .slt i => match env[i]? with
    | some (.val (.ref n)) => ∃ xs, vh[n]? = some (.lst xs)
    | some (.own xs) => True
    | _ => False
/-- o.append(x) -/
def appSh (n : Nat) (x : D) (vh : VH) (Q : VH → Prop) : Prop := match vh[n]? with
  | some (.lst xs) => xs.length < 16777216 ∧ Q (vh.set n (.lst (xs ++ [x])))
  | _ => False
def wpApp (o : Op) (x : D) (env : VE) (vh : VH) (Q : VE → VH → Prop) : Prop := match o with
  | .dat (.ref n) => appSh n x vh (Q env)
  | .dat _ => False
  | .slt i => match env[i]? with
    | some (.val (.ref n)) => appSh n x vh (Q env)
    | some (.own xs) => xs.length < 16777216 ∧ Q (env.set i (.own (xs ++ [x]))) vh
    | _ => False
/-- o.pop(0) -/
def popSh (n : Nat) (vh : VH) (Q : VH → Prop) : Prop := match vh[n]? with
  | some (.lst (_ :: xs)) => Q (vh.set n (.lst xs))
  | _ => False
def wpPop (o : Op) (env : VE) (vh : VH) (Q : VE → VH → Prop) : Prop := match o with
  | .dat (.ref n) => popSh n vh (Q env)
  | .dat _ => False
  | .slt i => match env[i]? with
    | some (.val (.ref n)) => popSh n vh (Q env)
    | some (.own (_ :: xs)) => Q (env.set i (.own xs)) vh
    | _ => False
/-- o[a:] = ys, of a shared list -/
def sasSh (n : Nat) (a : Int) (ys : List D) (vh : VH) (Q : VH → Prop) : Prop := match vh[n]? with
  | some (.lst xs) => 0 ≤ a ∧ a ≤ xs.length ∧ xs.length + ys.length ≤ 16777216 ∧ Q (vh.set n (.lst (xs.take a.toNat ++ ys)))
  | _ => False
def wpSas (o : Op) (k x : D) (env : VE) (vh : VH) (Q : VE → VH → Prop) : Prop := match k, x with
  | .int a, .lst ys => match o with
    | .dat (.ref n) => sasSh n a ys vh (Q env)
    | .dat _ => False
    | .slt i => match env[i]? with
      | some (.val (.ref n)) => sasSh n a ys vh (Q env)
      | _ => False
  | _, _ => False
/-- o.extend(xs) -/
def seqD : D → Option (List D)
  | .tup xs => some xs
  | .lst xs => some xs
  | _ => none
def extSh (n : Nat) (ds : List D) (vh : VH) (Q : VH → Prop) : Prop := match vh[n]? with
  | some (.lst xs) => xs.length + ds.length ≤ 16777216 ∧ Q (vh.set n (.lst (xs ++ ds)))
  | _ => False
def wpExt (o : Op) (ds : List D) (env : VE) (vh : VH) (Q : VE → VH → Prop) : Prop := match o with
  | .dat (.ref n) => extSh n ds vh (Q env)
  | .dat _ => False
  | .slt i => match env[i]? with
    | some (.val (.ref n)) => extSh n ds vh (Q env)
    | some (.own xs) => xs.length + ds.length ≤ 16777216 ∧ Q (env.set i (.own (xs ++ ds))) vh
    | _ => False
def forGo (turn : D → (VE → VH → Prop) → VE → VH → Prop) : List D → VE → VH → (VE → VH → Prop) → Prop
  | [], env, vh, Q => Q env vh
  | d :: ds, env, vh, Q => turn d (fun e h => forGo turn ds e h Q) env vh

/-- targets one after another -/
def bindG : List Ta → List D → VE → VH → (VE → VH → Prop) → Prop
  | [], [], env, vh, Q => Q env vh
  | .nm i :: ts, d :: ds, env, vh, Q => bindG ts ds (env.set i (.val d)) vh Q
  | .fl j f :: ts, d :: ds, env, vh, Q => ∃ n c ns xs, env[j]? = some (.val (.ref n)) ∧ vh[n]? = some (.ins c ns xs) ∧ ns.length ≤ 100 ∧ bindG ts ds env (vh.set n (.ins c (putN f ns) (putX f d ns xs))) Q
  | _, _, _, _, _ => False
/-- the constants within an except suite: the exception, its class and those above, its fields -/
def errG (Γ : Cns) (ns anc : List Str) (xs : List D) (a : Addr) : Cns := fun y => if y = ("%a" : Str) then some (.adr a) else if y = ("%c" : Str) then some (.tup (anc.map .str)) else if y = ("%n" : Str) then some (.int ns.length) else match (ns.zip xs).find? fun p => decide (eNm p.1 = y) with
  | some p => some p.2
  | none => Γ y
/-- the slot of a clause's name -/
@[reducible] def offE (o : Option Nat) (env : VE) : VE := match o with
  | none => env
  | some i => env.set i .no
@[reducible] def onE (o : Option Nat) (a : Addr) (env : VE) : VE := match o with
  | none => env
  | some i => env.set i (.val (.adr a))
@[reducible] def offV (o : Option Nat) (V : VEnds) : VEnds := { nx := fun e h => V.nx (offE o e) h, rt := V.rt, bk := fun e h => V.bk (offE o e) h, ct := fun e h => V.ct (offE o e) h }
def noX : XP := fun _ _ _ _ => False
mutual
def wpS (Φ : Fns) (Γ : Cns) : S → XP → VEnds → VE → VH → Prop
  | .pass, K, V, env, vh => V.nx env vh
  | .brk, K, V, env, vh => V.bk env vh
  | .cont, K, V, env, vh => V.ct env vh
  | .retN, K, V, env, vh => V.rt (.v .non) vh
  | .set i e, K, V, env, vh => wpE Φ Γ e K false env vh fun x e1 h1 => V.nx (e1.set i (.val x.d)) h1
  | .setO i e, K, V, env, vh => wpE Φ Γ e K false env vh fun x e1 h1 => match x with
    | .fr ds => V.nx (e1.set i (.own ds)) h1
    | .v _ => False
  | .setS i e, K, V, env, vh => wpE Φ Γ e K false env vh fun x e1 h1 => match x with
    | .fr ds => V.nx (e1.set i (.val (.ref h1.length))) (h1 ++ [.lst ds])
    | .v _ => False
  | .par i j a b, K, V, env, vh => wpEs Φ Γ [a, b] K env vh fun ds e1 h1 => match ds with
    | [x, y] => V.nx ((e1.set i (.val x)).set j (.val y)) h1
    | _ => False
  | .unp is e, K, V, env, vh => wpE Φ Γ e K false env vh fun x e1 h1 => ∃ e2, bindT (.many is) x.d e1 = some e2 ∧ V.nx e2 h1
  | .unpG ts e, K, V, env, vh => wpE Φ Γ e K false env vh fun x e1 h1 => ∃ ds, x.d = .tup ds ∧ bindG ts ds e1 h1 V.nx
  | .aug i op e, K, V, env, vh => match env[i]? with
    | some (.val c) => wpE Φ Γ e K false env vh fun y e1 h1 => wpAug op c y.d fun z => V.nx (e1.set i (.val z)) h1
    | _ => False
  | .sidx o i e, K, V, env, vh => wpE Φ Γ e K false env vh fun x e1 h1 => asO o (wpE Φ Γ o) K e1 h1 fun oo e2 h2 => wpE Φ Γ i K false e2 h2 fun ix e3 h3 => wpSet oo ix.d x.d e3 h3 V.nx
  | .app o e, K, V, env, vh => asO o (wpE Φ Γ o) K env vh fun oo e1 h1 => isLs oo e1 h1 ∧ wpE Φ Γ e K false e1 h1 fun x e2 h2 => wpApp oo x.d e2 h2 V.nx
  | .pop o, K, V, env, vh => asO o (wpE Φ Γ o) K env vh fun oo e1 h1 => isLs oo e1 h1 ∧ wpPop oo e1 h1 V.nx
  | .sasg o lo e, K, V, env, vh => wpE Φ Γ e K false env vh fun x e1 h1 => asO o (wpE Φ Γ o) K e1 h1 fun oo e2 h2 => wpE Φ Γ lo K false e2 h2 fun ix e3 h3 => wpSas oo ix.d x.d e3 h3 V.nx
  | .appF o k, K, V, env, vh => wpE Φ Γ o K false env vh fun x e1 h1 => ∃ xs, x = .fr xs ∧ xs.length < 16777216 ∧ V.nx e1 h1
  | .ext o e, K, V, env, vh => asO o (wpE Φ Γ o) K env vh fun oo e1 h1 => isLs oo e1 h1 ∧ wpE Φ Γ e K false e1 h1 fun x e2 h2 => ∃ ys, seqD x.d = some ys ∧ wpExt oo ys e2 h2 V.nx
  | .fset o f e, K, V, env, vh => wpE Φ Γ e K false env vh fun x e1 h1 => asO o (wpE Φ Γ o) K e1 h1 fun oo e2 h2 => ∃ n c ns xs, oo.raw e2 = some (.ref n) ∧ h2[n]? = some (.ins c ns xs) ∧ ns.length ≤ 100 ∧ V.nx e2 (h2.set n (.ins c (putN f ns) (putX f x.d ns xs)))
  | .faug o f op e, K, V, env, vh => asO o (wpE Φ Γ o) K env vh fun oo e1 h1 => ∃ n c ns xs, oo.raw e1 = some (.ref n) ∧ h1[n]? = some (.ins c ns xs) ∧ ∃ y, fldD f ns xs = some y ∧
      wpE Φ Γ e K false e1 h1 fun z e2 h2 => wpAug op y z.d fun r => ∃ ns2 xs2, h2[n]? = some (.ins c ns2 xs2) ∧ ns2.length ≤ 100 ∧ V.nx e2 (h2.set n (.ins c (putN f ns2) (putX f r ns2 xs2)))
  | .ret e, K, V, env, vh => wpE Φ Γ e K false env vh fun x e1 h1 => V.rt x h1
  | .retO i, K, V, env, vh => match env[i]? with
    | some (.own ds) => V.rt (.fr ds) vh
    | _ => False
  | .expr e, K, V, env, vh => wpE Φ Γ e K false env vh fun x e1 h1 => V.nx e1 h1
  | .cond c a b, K, V, env, vh => wpE Φ Γ c K true env vh fun x e1 h1 => match x with
    | .v (.bl k) => ifP k (wpB Φ Γ a K V e1 h1) (wpB Φ Γ b K V e1 h1)
    | _ => False
  | .forS tg k es body, K, V, env, vh => wpEs Φ Γ es K env vh fun ds e1 h1 => ∃ items, itemsV k h1 ds = some items ∧
      forGo (fun d N e h => stl k ds h1 h ∧ ∃ e2, bindT tg d e = some e2 ∧ wpB Φ Γ body K { V with nx := N, ct := N, bk := V.nx } e2 h) items e1 h1 fun e h => stl k ds h1 h ∧ V.nx e h
  | .whl c body, K, V, env, vh => ∃ I : Nat → VE → VH → Prop, (∃ n, I n env vh) ∧ ∀ n env vh, I n env vh → wpE Φ Γ c K true env vh fun x e1 h1 => match x with
    | .v (.bl k) => ifP k (wpB Φ Γ body K { V with nx := fun e h => ∃ m, m < n ∧ I m e h, ct := fun e h => ∃ m, m < n ∧ I m e h, bk := V.nx } e1 h1) (V.nx e1 h1)
    | _ => False
  | .raise c es, K, V, env, vh => wpEs Φ Γ es K env vh fun ds e1 h1 => K c ds e1 h1
  | .tryS tb body cs sus, K, V, env, vh => wpB Φ Γ body (fun c xs e h => match tb.lookup c with
      | some (ns, anc) => wpH Φ Γ ns anc xs cs sus (K c xs e h) V e h
      | none => False) V env vh
  | .never, K, V, env, vh => False
/-- what the clauses do -/
def wpH (Φ : Fns) (Γ : Cns) (ns anc : List Str) (xs : List D) : List (Str × Option Nat) → List (List S) → Prop → VEnds → VE → VH → Prop
  | [], _, P, V, env, vh => P
  | _ :: _, [], P, V, env, vh => False
  | (c, o) :: cs, su :: sus, P, V, env, vh => ifP (anc.contains c) (∀ a, wpB Φ (errG Γ ns anc xs a) su noX (offV o V) (onE o a env) vh) (wpH Φ Γ ns anc xs cs sus P V env vh)
def wpB (Φ : Fns) (Γ : Cns) : List S → XP → VEnds → VE → VH → Prop
  | [], K, V, env, vh => V.nx env vh
  | s :: ss, K, V, env, vh => wpS Φ Γ s K { V with nx := fun e h => wpB Φ Γ ss K V e h } env vh
end
end R

set_option autoImplicit false
namespace R
open PySem PySem.Spec PyProof.Rows L2
/-! ## REq: one text of the small language, or another -/
mutual
def eqE : E → E → Bool
  | .non, .non => true
  | .bl a0, .bl b0 => decide (a0 = b0)
  | .int a0, .int b0 => decide (a0 = b0)
  | .str a0, .str b0 => decide (a0 = b0)
  | .var a0, .var b0 => decide (a0 = b0)
  | .bor a0, .bor b0 => decide (a0 = b0)
  | .glo a0, .glo b0 => decide (a0 = b0)
  | .skip, .skip => true
  | .tup a0, .tup b0 => eqEs a0 b0
  | .lst a0, .lst b0 => eqEs a0 b0
  | .bin a0 a1 a2, .bin b0 b1 b2 => decide (a0 = b0) && eqE a1 b1 && eqE a2 b2
  | .neg a0, .neg b0 => eqE a0 b0
  | .cmp a0 a1 a2, .cmp b0 b1 b2 => decide (a0 = b0) && eqE a1 b1 && eqE a2 b2
  | .chain a0 a1 a2 a3 a4, .chain b0 b1 b2 b3 b4 => decide (a0 = b0) && decide (a1 = b1) && eqE a2 b2 && eqE a3 b3 && eqE a4 b4
  | .and a0 a1, .and b0 b1 => eqE a0 b0 && eqE a1 b1
  | .or a0 a1, .or b0 b1 => eqE a0 b0 && eqE a1 b1
  | .not a0, .not b0 => eqE a0 b0
  | .ite a0 a1 a2, .ite b0 b1 b2 => eqE a0 b0 && eqE a1 b1 && eqE a2 b2
  | .idx a0 a1, .idx b0 b1 => eqE a0 b0 && eqE a1 b1
  | .sli a0 a1 a2, .sli b0 b1 b2 => eqE a0 b0 && eqE a1 b1 && eqE a2 b2
  | .call a0 a1, .call b0 b1 => decide (a0 = b0) && eqEs a1 b1
  | .blt a0 a1, .blt b0 b1 => decide (a0 = b0) && eqEs a1 b1
  | .isi a0 a1, .isi b0 b1 => eqE a0 b0 && decide (a1 = b1)
  | .lc a0 a1 a2 a3 a4 a5, .lc b0 b1 b2 b3 b4 b5 => eqE a0 b0 && decide (a1 = b1) && decide (a2 = b2) && decide (a3 = b3) && eqEs a4 b4 && eqEs a5 b5
  | .attr a0 a1, .attr b0 b1 => eqE a0 b0 && decide (a1 = b1)
  | .dct a0 a1, .dct b0 b1 => decide (a0 = b0) && eqEs a1 b1
  | .fld a0 a1, .fld b0 b1 => eqE a0 b0 && decide (a1 = b1)
  | .meth a0 a1 a2, .meth b0 b1 b2 => eqE a0 b0 && decide (a1 = b1) && eqEs a2 b2
  | .mk a0 a1, .mk b0 b1 => decide (a0 = b0) && eqEs a1 b1
  | .shr a0, .shr b0 => eqE a0 b0
  | .join a0 a1, .join b0 b1 => eqE a0 b0 && eqE a1 b1
  | .lrg a0 a1, .lrg b0 b1 => eqE a0 b0 && eqE a1 b1
  | .isc a0 a1, .isc b0 b1 => eqE a0 b0 && decide (a1 = b1)
  | .isx a0 a1, .isx b0 b1 => decide (a0 = b0) && decide (a1 = b1)
  | .sset a0, .sset b0 => eqE a0 b0
  | .eqI a0 a1, .eqI b0 b1 => eqE a0 b0 && eqE a1 b1
  | .bix a0 a1, .bix b0 b1 => decide (a0 = b0) && eqE a1 b1
  | _, _ => false
def eqEs : List E → List E → Bool
  | [], [] => true
  | x :: xs, y :: ys => eqE x y && eqEs xs ys
  | _, _ => false
end
mutual
def eqS : S → S → Bool
  | .pass, .pass => true
  | .brk, .brk => true
  | .cont, .cont => true
  | .retN, .retN => true
  | .set a0 a1, .set b0 b1 => decide (a0 = b0) && eqE a1 b1
  | .setO a0 a1, .setO b0 b1 => decide (a0 = b0) && eqE a1 b1
  | .setS a0 a1, .setS b0 b1 => decide (a0 = b0) && eqE a1 b1
  | .par a0 a1 a2 a3, .par b0 b1 b2 b3 => decide (a0 = b0) && decide (a1 = b1) && eqE a2 b2 && eqE a3 b3
  | .unp a0 a1, .unp b0 b1 => decide (a0 = b0) && eqE a1 b1
  | .unpG a0 a1, .unpG b0 b1 => decide (a0 = b0) && eqE a1 b1
  | .aug a0 a1 a2, .aug b0 b1 b2 => decide (a0 = b0) && decide (a1 = b1) && eqE a2 b2
  | .sidx a0 a1 a2, .sidx b0 b1 b2 => eqE a0 b0 && eqE a1 b1 && eqE a2 b2
  | .app a0 a1, .app b0 b1 => eqE a0 b0 && eqE a1 b1
  | .ext a0 a1, .ext b0 b1 => eqE a0 b0 && eqE a1 b1
  | .pop a0, .pop b0 => eqE a0 b0
  | .sasg a0 a1 a2, .sasg b0 b1 b2 => eqE a0 b0 && eqE a1 b1 && eqE a2 b2
  | .appF a0 a1, .appF b0 b1 => eqE a0 b0 && decide (a1 = b1)
  | .fset a0 a1 a2, .fset b0 b1 b2 => eqE a0 b0 && decide (a1 = b1) && eqE a2 b2
  | .faug a0 a1 a2 a3, .faug b0 b1 b2 b3 => eqE a0 b0 && decide (a1 = b1) && decide (a2 = b2) && eqE a3 b3
  | .ret a0, .ret b0 => eqE a0 b0
  | .retO a0, .retO b0 => decide (a0 = b0)
  | .expr a0, .expr b0 => eqE a0 b0
  | .cond a0 a1 a2, .cond b0 b1 b2 => eqE a0 b0 && eqSs a1 b1 && eqSs a2 b2
  | .forS a0 a1 a2 a3, .forS b0 b1 b2 b3 => decide (a0 = b0) && decide (a1 = b1) && eqEs a2 b2 && eqSs a3 b3
  | .whl a0 a1, .whl b0 b1 => eqE a0 b0 && eqSs a1 b1
  | .raise a0 a1, .raise b0 b1 => decide (a0 = b0) && eqEs a1 b1
  | .tryS a0 a1 a2 a3, .tryS b0 b1 b2 b3 => decide (a0 = b0) && eqSs a1 b1 && decide (a2 = b2) && eqSss a3 b3
  | .never, .never => true
  | _, _ => false
def eqSs : List S → List S → Bool
  | [], [] => true
  | x :: xs, y :: ys => eqS x y && eqSs xs ys
  | _, _ => false
def eqSss : List (List S) → List (List S) → Bool
  | [], [] => true
  | x :: xs, y :: ys => eqSs x y && eqSss xs ys
  | _, _ => false
end
mutual
theorem eqE_ok : ∀ (a b : E), eqE a b = true → a = b
  | .non, b, h => by
    cases b <;> first | rfl | cases h
  | .bl a0, b, h => by
    cases b with
    | bl b0 =>
      simp only [eqE, Bool.and_eq_true] at h
      have h0 := h
      have e0 := of_decide_eq_true h0
      rw [e0]
    | _ => cases h
  | .int a0, b, h => by
    cases b with
    | int b0 =>
      simp only [eqE, Bool.and_eq_true] at h
      have h0 := h
      have e0 := of_decide_eq_true h0
      rw [e0]
    | _ => cases h
  | .str a0, b, h => by
    cases b with
    | str b0 =>
      simp only [eqE, Bool.and_eq_true] at h
      have h0 := h
      have e0 := of_decide_eq_true h0
      rw [e0]
    | _ => cases h
  | .var a0, b, h => by
    cases b with
    | var b0 =>
      simp only [eqE, Bool.and_eq_true] at h
      have h0 := h
      have e0 := of_decide_eq_true h0
      rw [e0]
    | _ => cases h
  | .bor a0, b, h => by
    cases b with
    | bor b0 =>
      simp only [eqE, Bool.and_eq_true] at h
      have h0 := h
      have e0 := of_decide_eq_true h0
      rw [e0]
    | _ => cases h
  | .glo a0, b, h => by
    cases b with
    | glo b0 =>
      simp only [eqE, Bool.and_eq_true] at h
      have h0 := h
      have e0 := of_decide_eq_true h0
      rw [e0]
    | _ => cases h
  | .skip, b, h => by
    cases b <;> first | rfl | cases h
  | .tup a0, b, h => by
    cases b with
    | tup b0 =>
      simp only [eqE, Bool.and_eq_true] at h
      have h0 := h
      have e0 := eqEs_ok a0 b0 h0
      rw [e0]
    | _ => cases h
  | .lst a0, b, h => by
    cases b with
    | lst b0 =>
      simp only [eqE, Bool.and_eq_true] at h
      have h0 := h
      have e0 := eqEs_ok a0 b0 h0
      rw [e0]
    | _ => cases h
  | .bin a0 a1 a2, b, h => by
    cases b with
    | bin b0 b1 b2 =>
      simp only [eqE, Bool.and_eq_true] at h
      obtain ⟨⟨h0, h1⟩, h2⟩ := h
      have e0 := of_decide_eq_true h0
      have e1 := eqE_ok a1 b1 h1
      have e2 := eqE_ok a2 b2 h2
      rw [e0, e1, e2]
    | _ => cases h
  | .neg a0, b, h => by
    cases b with
    | neg b0 =>
      simp only [eqE, Bool.and_eq_true] at h
      have h0 := h
      have e0 := eqE_ok a0 b0 h0
      rw [e0]
    | _ => cases h
  | .cmp a0 a1 a2, b, h => by
    cases b with
    | cmp b0 b1 b2 =>
      simp only [eqE, Bool.and_eq_true] at h
      obtain ⟨⟨h0, h1⟩, h2⟩ := h
      have e0 := of_decide_eq_true h0
      have e1 := eqE_ok a1 b1 h1
      have e2 := eqE_ok a2 b2 h2
      rw [e0, e1, e2]
    | _ => cases h
  | .chain a0 a1 a2 a3 a4, b, h => by
    cases b with
    | chain b0 b1 b2 b3 b4 =>
      simp only [eqE, Bool.and_eq_true] at h
      obtain ⟨⟨⟨⟨h0, h1⟩, h2⟩, h3⟩, h4⟩ := h
      have e0 := of_decide_eq_true h0
      have e1 := of_decide_eq_true h1
      have e2 := eqE_ok a2 b2 h2
      have e3 := eqE_ok a3 b3 h3
      have e4 := eqE_ok a4 b4 h4
      rw [e0, e1, e2, e3, e4]
    | _ => cases h
  | .and a0 a1, b, h => by
    cases b with
    | and b0 b1 =>
      simp only [eqE, Bool.and_eq_true] at h
      obtain ⟨h0, h1⟩ := h
      have e0 := eqE_ok a0 b0 h0
      have e1 := eqE_ok a1 b1 h1
      rw [e0, e1]
    | _ => cases h
  | .or a0 a1, b, h => by
    cases b with
    | or b0 b1 =>
      simp only [eqE, Bool.and_eq_true] at h
      obtain ⟨h0, h1⟩ := h
      have e0 := eqE_ok a0 b0 h0
      have e1 := eqE_ok a1 b1 h1
      rw [e0, e1]
    | _ => cases h
  | .not a0, b, h => by
    cases b with
    | not b0 =>
      simp only [eqE, Bool.and_eq_true] at h
      have h0 := h
      have e0 := eqE_ok a0 b0 h0
      rw [e0]
    | _ => cases h
  | .ite a0 a1 a2, b, h => by
    cases b with
    | ite b0 b1 b2 =>
      simp only [eqE, Bool.and_eq_true] at h
      obtain ⟨⟨h0, h1⟩, h2⟩ := h
      have e0 := eqE_ok a0 b0 h0
      have e1 := eqE_ok a1 b1 h1
      have e2 := eqE_ok a2 b2 h2
      rw [e0, e1, e2]
    | _ => cases h
  | .idx a0 a1, b, h => by
    cases b with
    | idx b0 b1 =>
      simp only [eqE, Bool.and_eq_true] at h
      obtain ⟨h0, h1⟩ := h
      have e0 := eqE_ok a0 b0 h0
      have e1 := eqE_ok a1 b1 h1
      rw [e0, e1]
    | _ => cases h
  | .sli a0 a1 a2, b, h => by
    cases b with
    | sli b0 b1 b2 =>
      simp only [eqE, Bool.and_eq_true] at h
      obtain ⟨⟨h0, h1⟩, h2⟩ := h
      have e0 := eqE_ok a0 b0 h0
      have e1 := eqE_ok a1 b1 h1
      have e2 := eqE_ok a2 b2 h2
      rw [e0, e1, e2]
    | _ => cases h
  | .call a0 a1, b, h => by
    cases b with
    | call b0 b1 =>
      simp only [eqE, Bool.and_eq_true] at h
      obtain ⟨h0, h1⟩ := h
      have e0 := of_decide_eq_true h0
      have e1 := eqEs_ok a1 b1 h1
      rw [e0, e1]
    | _ => cases h
  | .blt a0 a1, b, h => by
    cases b with
    | blt b0 b1 =>
      simp only [eqE, Bool.and_eq_true] at h
      obtain ⟨h0, h1⟩ := h
      have e0 := of_decide_eq_true h0
      have e1 := eqEs_ok a1 b1 h1
      rw [e0, e1]
    | _ => cases h
  | .isi a0 a1, b, h => by
    cases b with
    | isi b0 b1 =>
      simp only [eqE, Bool.and_eq_true] at h
      obtain ⟨h0, h1⟩ := h
      have e0 := eqE_ok a0 b0 h0
      have e1 := of_decide_eq_true h1
      rw [e0, e1]
    | _ => cases h
  | .lc a0 a1 a2 a3 a4 a5, b, h => by
    cases b with
    | lc b0 b1 b2 b3 b4 b5 =>
      simp only [eqE, Bool.and_eq_true] at h
      obtain ⟨⟨⟨⟨⟨h0, h1⟩, h2⟩, h3⟩, h4⟩, h5⟩ := h
      have e0 := eqE_ok a0 b0 h0
      have e1 := of_decide_eq_true h1
      have e2 := of_decide_eq_true h2
      have e3 := of_decide_eq_true h3
      have e4 := eqEs_ok a4 b4 h4
      have e5 := eqEs_ok a5 b5 h5
      rw [e0, e1, e2, e3, e4, e5]
    | _ => cases h
  | .attr a0 a1, b, h => by
    cases b with
    | attr b0 b1 =>
      simp only [eqE, Bool.and_eq_true] at h
      obtain ⟨h0, h1⟩ := h
      have e0 := eqE_ok a0 b0 h0
      have e1 := of_decide_eq_true h1
      rw [e0, e1]
    | _ => cases h
  | .dct a0 a1, b, h => by
    cases b with
    | dct b0 b1 =>
      simp only [eqE, Bool.and_eq_true] at h
      obtain ⟨h0, h1⟩ := h
      have e0 := of_decide_eq_true h0
      have e1 := eqEs_ok a1 b1 h1
      rw [e0, e1]
    | _ => cases h
  | .fld a0 a1, b, h => by
    cases b with
    | fld b0 b1 =>
      simp only [eqE, Bool.and_eq_true] at h
      obtain ⟨h0, h1⟩ := h
      have e0 := eqE_ok a0 b0 h0
      have e1 := of_decide_eq_true h1
      rw [e0, e1]
    | _ => cases h
  | .meth a0 a1 a2, b, h => by
    cases b with
    | meth b0 b1 b2 =>
      simp only [eqE, Bool.and_eq_true] at h
      obtain ⟨⟨h0, h1⟩, h2⟩ := h
      have e0 := eqE_ok a0 b0 h0
      have e1 := of_decide_eq_true h1
      have e2 := eqEs_ok a2 b2 h2
      rw [e0, e1, e2]
    | _ => cases h
  | .mk a0 a1, b, h => by
    cases b with
    | mk b0 b1 =>
      simp only [eqE, Bool.and_eq_true] at h
      obtain ⟨h0, h1⟩ := h
      have e0 := of_decide_eq_true h0
      have e1 := eqEs_ok a1 b1 h1
      rw [e0, e1]
    | _ => cases h
  | .shr a0, b, h => by
    cases b with
    | shr b0 =>
      simp only [eqE, Bool.and_eq_true] at h
      have h0 := h
      have e0 := eqE_ok a0 b0 h0
      rw [e0]
    | _ => cases h
  | .join a0 a1, b, h => by
    cases b with
    | join b0 b1 =>
      simp only [eqE, Bool.and_eq_true] at h
      obtain ⟨h0, h1⟩ := h
      have e0 := eqE_ok a0 b0 h0
      have e1 := eqE_ok a1 b1 h1
      rw [e0, e1]
    | _ => cases h
  | .lrg a0 a1, b, h => by
    cases b with
    | lrg b0 b1 =>
      simp only [eqE, Bool.and_eq_true] at h
      obtain ⟨h0, h1⟩ := h
      have e0 := eqE_ok a0 b0 h0
      have e1 := eqE_ok a1 b1 h1
      rw [e0, e1]
    | _ => cases h
  | .isc a0 a1, b, h => by
    cases b with
    | isc b0 b1 =>
      simp only [eqE, Bool.and_eq_true] at h
      obtain ⟨h0, h1⟩ := h
      have e0 := eqE_ok a0 b0 h0
      have e1 := of_decide_eq_true h1
      rw [e0, e1]
    | _ => cases h
  | .isx a0 a1, b, h => by
    cases b with
    | isx b0 b1 =>
      simp only [eqE, Bool.and_eq_true] at h
      obtain ⟨h0, h1⟩ := h
      have e0 := of_decide_eq_true h0
      have e1 := of_decide_eq_true h1
      rw [e0, e1]
    | _ => cases h
  | .sset a0, b, h => by
    cases b with
    | sset b0 =>
      simp only [eqE, Bool.and_eq_true] at h
      have h0 := h
      have e0 := eqE_ok a0 b0 h0
      rw [e0]
    | _ => cases h
  | .eqI a0 a1, b, h => by
    cases b with
    | eqI b0 b1 =>
      simp only [eqE, Bool.and_eq_true] at h
      obtain ⟨h0, h1⟩ := h
      have e0 := eqE_ok a0 b0 h0
      have e1 := eqE_ok a1 b1 h1
      rw [e0, e1]
    | _ => cases h
  | .bix a0 a1, b, h => by
    cases b with
    | bix b0 b1 =>
      simp only [eqE, Bool.and_eq_true] at h
      obtain ⟨h0, h1⟩ := h
      have e0 := of_decide_eq_true h0
      have e1 := eqE_ok a1 b1 h1
      rw [e0, e1]
    | _ => cases h
theorem eqEs_ok : ∀ (a b : List E), eqEs a b = true → a = b
  | [], b, h => by
    cases b <;> first | rfl | cases h
  | x :: xs, b, h => by
    cases b with
    | nil => cases h
    | cons y ys =>
      simp only [eqEs, Bool.and_eq_true] at h
      rw [eqE_ok x y h.1, eqEs_ok xs ys h.2]
end
mutual
theorem eqS_ok : ∀ (a b : S), eqS a b = true → a = b
  | .pass, b, h => by
    cases b <;> first | rfl | cases h
  | .brk, b, h => by
    cases b <;> first | rfl | cases h
  | .cont, b, h => by
    cases b <;> first | rfl | cases h
  | .retN, b, h => by
    cases b <;> first | rfl | cases h
  | .set a0 a1, b, h => by
    cases b with
    | set b0 b1 =>
      simp only [eqS, Bool.and_eq_true] at h
      obtain ⟨h0, h1⟩ := h
      have e0 := of_decide_eq_true h0
      have e1 := eqE_ok a1 b1 h1
      rw [e0, e1]
    | _ => cases h
  | .setO a0 a1, b, h => by
    cases b with
    | setO b0 b1 =>
      simp only [eqS, Bool.and_eq_true] at h
      obtain ⟨h0, h1⟩ := h
      have e0 := of_decide_eq_true h0
      have e1 := eqE_ok a1 b1 h1
      rw [e0, e1]
    | _ => cases h
  | .setS a0 a1, b, h => by
    cases b with
    | setS b0 b1 =>
      simp only [eqS, Bool.and_eq_true] at h
      obtain ⟨h0, h1⟩ := h
      have e0 := of_decide_eq_true h0
      have e1 := eqE_ok a1 b1 h1
      rw [e0, e1]
    | _ => cases h
  | .par a0 a1 a2 a3, b, h => by
    cases b with
    | par b0 b1 b2 b3 =>
      simp only [eqS, Bool.and_eq_true] at h
      obtain ⟨⟨⟨h0, h1⟩, h2⟩, h3⟩ := h
      have e0 := of_decide_eq_true h0
      have e1 := of_decide_eq_true h1
      have e2 := eqE_ok a2 b2 h2
      have e3 := eqE_ok a3 b3 h3
      rw [e0, e1, e2, e3]
    | _ => cases h
  | .unp a0 a1, b, h => by
    cases b with
    | unp b0 b1 =>
      simp only [eqS, Bool.and_eq_true] at h
      obtain ⟨h0, h1⟩ := h
      have e0 := of_decide_eq_true h0
      have e1 := eqE_ok a1 b1 h1
      rw [e0, e1]
    | _ => cases h
  | .unpG a0 a1, b, h => by
    cases b with
    | unpG b0 b1 =>
      simp only [eqS, Bool.and_eq_true] at h
      obtain ⟨h0, h1⟩ := h
      have e0 := of_decide_eq_true h0
      have e1 := eqE_ok a1 b1 h1
      rw [e0, e1]
    | _ => cases h
  | .aug a0 a1 a2, b, h => by
    cases b with
    | aug b0 b1 b2 =>
      simp only [eqS, Bool.and_eq_true] at h
      obtain ⟨⟨h0, h1⟩, h2⟩ := h
      have e0 := of_decide_eq_true h0
      have e1 := of_decide_eq_true h1
      have e2 := eqE_ok a2 b2 h2
      rw [e0, e1, e2]
    | _ => cases h
  | .sidx a0 a1 a2, b, h => by
    cases b with
    | sidx b0 b1 b2 =>
      simp only [eqS, Bool.and_eq_true] at h
      obtain ⟨⟨h0, h1⟩, h2⟩ := h
      have e0 := eqE_ok a0 b0 h0
      have e1 := eqE_ok a1 b1 h1
      have e2 := eqE_ok a2 b2 h2
      rw [e0, e1, e2]
    | _ => cases h
  | .app a0 a1, b, h => by
    cases b with
    | app b0 b1 =>
      simp only [eqS, Bool.and_eq_true] at h
      obtain ⟨h0, h1⟩ := h
      have e0 := eqE_ok a0 b0 h0
      have e1 := eqE_ok a1 b1 h1
      rw [e0, e1]
    | _ => cases h
  | .ext a0 a1, b, h => by
    cases b with
    | ext b0 b1 =>
      simp only [eqS, Bool.and_eq_true] at h
      obtain ⟨h0, h1⟩ := h
      have e0 := eqE_ok a0 b0 h0
      have e1 := eqE_ok a1 b1 h1
      rw [e0, e1]
    | _ => cases h
  | .sasg a0 a1 a2, b, h => by
    cases b with
    | sasg b0 b1 b2 =>
      simp only [eqS, Bool.and_eq_true] at h
      obtain ⟨⟨h0, h1⟩, h2⟩ := h
      have e0 := eqE_ok a0 b0 h0
      have e1 := eqE_ok a1 b1 h1
      have e2 := eqE_ok a2 b2 h2
      rw [e0, e1, e2]
    | _ => cases h
  | .appF a0 a1, b, h => by
    cases b with
    | appF b0 b1 =>
      simp only [eqS, Bool.and_eq_true] at h
      obtain ⟨h0, h1⟩ := h
      have e0 := eqE_ok a0 b0 h0
      have e1 := of_decide_eq_true h1
      rw [e0, e1]
    | _ => cases h
  | .pop a0, b, h => by
    cases b with
    | pop b0 =>
      simp only [eqS, Bool.and_eq_true] at h
      have h0 := h
      have e0 := eqE_ok a0 b0 h0
      rw [e0]
    | _ => cases h
  | .fset a0 a1 a2, b, h => by
    cases b with
    | fset b0 b1 b2 =>
      simp only [eqS, Bool.and_eq_true] at h
      obtain ⟨⟨h0, h1⟩, h2⟩ := h
      have e0 := eqE_ok a0 b0 h0
      have e1 := of_decide_eq_true h1
      have e2 := eqE_ok a2 b2 h2
      rw [e0, e1, e2]
    | _ => cases h
  | .faug a0 a1 a2 a3, b, h => by
    cases b with
    | faug b0 b1 b2 b3 =>
      simp only [eqS, Bool.and_eq_true] at h
      obtain ⟨⟨⟨h0, h1⟩, h2⟩, h3⟩ := h
      have e0 := eqE_ok a0 b0 h0
      have e1 := of_decide_eq_true h1
      have e2 := of_decide_eq_true h2
      have e3 := eqE_ok a3 b3 h3
      rw [e0, e1, e2, e3]
    | _ => cases h
  | .ret a0, b, h => by
    cases b with
    | ret b0 =>
      simp only [eqS, Bool.and_eq_true] at h
      have h0 := h
      have e0 := eqE_ok a0 b0 h0
      rw [e0]
    | _ => cases h
  | .retO a0, b, h => by
    cases b with
    | retO b0 =>
      simp only [eqS, Bool.and_eq_true] at h
      have h0 := h
      have e0 := of_decide_eq_true h0
      rw [e0]
    | _ => cases h
  | .expr a0, b, h => by
    cases b with
    | expr b0 =>
      simp only [eqS, Bool.and_eq_true] at h
      have h0 := h
      have e0 := eqE_ok a0 b0 h0
      rw [e0]
    | _ => cases h
  | .cond a0 a1 a2, b, h => by
    cases b with
    | cond b0 b1 b2 =>
      simp only [eqS, Bool.and_eq_true] at h
      obtain ⟨⟨h0, h1⟩, h2⟩ := h
      have e0 := eqE_ok a0 b0 h0
      have e1 := eqSs_ok a1 b1 h1
      have e2 := eqSs_ok a2 b2 h2
      rw [e0, e1, e2]
    | _ => cases h
  | .forS a0 a1 a2 a3, b, h => by
    cases b with
    | forS b0 b1 b2 b3 =>
      simp only [eqS, Bool.and_eq_true] at h
      obtain ⟨⟨⟨h0, h1⟩, h2⟩, h3⟩ := h
      have e0 := of_decide_eq_true h0
      have e1 := of_decide_eq_true h1
      have e2 := eqEs_ok a2 b2 h2
      have e3 := eqSs_ok a3 b3 h3
      rw [e0, e1, e2, e3]
    | _ => cases h
  | .whl a0 a1, b, h => by
    cases b with
    | whl b0 b1 =>
      simp only [eqS, Bool.and_eq_true] at h
      obtain ⟨h0, h1⟩ := h
      have e0 := eqE_ok a0 b0 h0
      have e1 := eqSs_ok a1 b1 h1
      rw [e0, e1]
    | _ => cases h
  | .raise a0 a1, b, h => by
    cases b with
    | raise b0 b1 =>
      simp only [eqS, Bool.and_eq_true] at h
      obtain ⟨h0, h1⟩ := h
      have e0 := of_decide_eq_true h0
      have e1 := eqEs_ok a1 b1 h1
      rw [e0, e1]
    | _ => cases h
  | .tryS a0 a1 a2 a3, b, h => by
    cases b with
    | tryS b0 b1 b2 b3 =>
      simp only [eqS, Bool.and_eq_true] at h
      obtain ⟨⟨⟨h0, h1⟩, h2⟩, h3⟩ := h
      have e0 := of_decide_eq_true h0
      have e1 := eqSs_ok a1 b1 h1
      have e2 := of_decide_eq_true h2
      have e3 := eqSss_ok a3 b3 h3
      rw [e0, e1, e2, e3]
    | _ => cases h
  | .never, b, h => by
    cases b <;> first | rfl | cases h
theorem eqSs_ok : ∀ (a b : List S), eqSs a b = true → a = b
  | [], b, h => by
    cases b <;> first | rfl | cases h
  | x :: xs, b, h => by
    cases b with
    | nil => cases h
    | cons y ys =>
      simp only [eqSs, Bool.and_eq_true] at h
      rw [eqS_ok x y h.1, eqSs_ok xs ys h.2]
theorem eqSss_ok : ∀ (a b : List (List S)), eqSss a b = true → a = b
  | [], b, h => by
    cases b <;> first | rfl | cases h
  | x :: xs, b, h => by
    cases b with
    | nil => cases h
    | cons y ys =>
      simp only [eqSss, Bool.and_eq_true] at h
      rw [eqSs_ok x y h.1, eqSss_ok xs ys h.2]
end
def eqO (a : Option (List S)) (b : List S) : Bool := match a with
  | some a => eqSs a b
  | none => false
theorem eqO_ok {a : Option (List S)} {b : List S} (h : eqO a b = true) : a = some b := by
  cases a with
  | none => cases h
  | some a => rw [eqSs_ok a b h]
end R

set_option autoImplicit false
theorem _root_.L2.PS.imp {X : L2.Cx} {st : PySem.Stmt} {t t' : L2.TS} (h : L2.PS X st t) (f : ∀ D σ H, t' D σ H → t D σ H) : L2.PS X st t' := ⟨fun pins s σ H D I hw => h.run pins s σ H D I (f D σ H hw)⟩
theorem _root_.L2.PSs.imp {X : L2.Cx} {st : List PySem.Stmt} {t t' : L2.TS} (h : L2.PSs X st t) (f : ∀ D σ H, t' D σ H → t D σ H) : L2.PSs X st t' := ⟨fun pins s σ H D I hw => h.run pins s σ H D I (f D σ H hw)⟩
namespace R
open PySem PySem.Spec PyProof.Rows L2
/-! ## R6: rules for statements -/
/-- how the ends are met -/
structure VD (G : Wd) (B : Base) (V : VEnds) (D : Ends) : Prop where
  nx : ∀ ρ env vh σ H, Rel G B [] ρ env vh σ H → V.nx env vh → D.nx σ H
  rt : ∀ x v ρ vh H, ResF G B x v ρ vh H → V.rt x vh → D.rt v H
  bk : ∀ ρ env vh σ H, Rel G B [] ρ env vh σ H → V.bk env vh → D.bk σ H
  ct : ∀ ρ env vh σ H, Rel G B [] ρ env vh σ H → V.ct env vh → D.ct σ H
def tS (G : Wd) (B : Base) (w : VEnds → VE → VH → Prop) : TS := fun D σ H => ∃ ρ env vh V, Rel G B [] ρ env vh σ H ∧ VD G B V D ∧ w V env vh
/-- what a def's body is run in -/
structure SOk (X : Cx) (G : Wd) (B : Base) (K : XP) (Φ : Fns) (Γ : Cns) (fs : List Str) : Prop extends XOk X G B K Φ Γ fs where
  po : PassesOwn (model X.prog X.w) X.A X.env X.xe
  fnT : ∀ x, X.fn x = true
  stk : X.stack = X.env :: X.outer
  frm : X.env.frame = some X.env.locals
  exN : X.ex = []
section
variable {X : Cx} {G : Wd} {B : Base} {K : XP} {Φ : Fns} {Γ : Cns} {fs : List Str} {T ρ : List Addr} {env : VE} {vh : VH} {σ : L2.St} {H : Hp}
theorem SOk.now (o : SOk X G B K Φ Γ fs) (hc : hotN ∉ fs) (R : Rel G B T ρ env vh σ H) : SOk X G (B.now T ρ env σ H) K Φ Γ fs :=
  { o with er := fun h => absurd h hc, tk := o.tk.imp fun cls d σ' H' ⟨c, C, xs, T', ρ', env', vh', h1, h2, S, x, k⟩ => ⟨c, C, xs, T', ρ', env', vh', h1, h2, R.unbase S, x, k⟩ }
theorem ResF.unbase {x : DV} {v : V} {ρ' : List Addr} {vh' : VH} {H' : Hp} (R : Rel G B T ρ env vh σ H) (r : ResF G (B.now T ρ env σ H) x v ρ' vh' H') : ResF G B x v ρ' vh' H' := by
  cases x with
  | v d => exact ⟨R.unbase r.1, r.2⟩
  | fr ds =>
    obtain ⟨a, vs, e, h, S, h2⟩ := r
    exact ⟨a, vs, e, h, R.unbase S, h2⟩
theorem Res.ret {x : DV} {v : V} {ρ' : List Addr} {env' : VE} {vh' : VH} {H' : Hp} (r : Res G B [] ρ env σ H x v ρ' env' vh' H') : ResF G B x v ρ' vh' H' := by
  cases x with
  | v d =>
    obtain ⟨m, S, h⟩ := r
    exact ⟨S.ret, Rel.ret_d h⟩
  | fr ds =>
    obtain ⟨a, vs, e, h, m, S, h2⟩ := r
    exact ⟨a, vs, e, h, S.ret, Rel.ret_ds h2⟩

theorem rs_nil : PSs X [] (tS G B fun V env vh => V.nx env vh) := pss_nil.imp fun D σ H ⟨ρ, env, vh, V, R, vd, w⟩ => vd.nx _ _ _ _ _ R w
theorem rs_cons {st : Stmt} {rest : List Stmt} {w1 w2 : VEnds → VE → VH → Prop} (h1 : PS X st (tS G B w1)) (h2 : PSs X rest (tS G B w2)) : PSs X (st :: rest) (tS G B fun V env vh => w1 { V with nx := fun e h => w2 V e h } env vh) :=
  (pss_cons h1 h2).imp fun D σ H ⟨ρ, env, vh, V, R, vd, w⟩ => ⟨ρ, env, vh, { V with nx := fun e h => w2 V e h }, R, ⟨fun ρ' env' vh' σ' H' R' z => ⟨ρ', env', vh', V, R', vd, z⟩, vd.rt, vd.bk, vd.ct⟩, w⟩
theorem rs_pass {pos : Pos} : PS X (.Pass pos) (tS G B fun V env vh => V.nx env vh) := ps_pass.imp fun D σ H ⟨ρ, env, vh, V, R, vd, w⟩ => vd.nx _ _ _ _ _ R w
theorem rs_doc {x j pos pos'} : PS X (.Expr (.Constant (.str x) j pos) pos') (tS G B fun V env vh => V.nx env vh) := ps_doc.imp fun D σ H ⟨ρ, env, vh, V, R, vd, w⟩ => vd.nx _ _ _ _ _ R w
theorem rs_break {pos : Pos} : PS X (.Break pos) (tS G B fun V env vh => V.bk env vh) := ps_break.imp fun D σ H ⟨ρ, env, vh, V, R, vd, w⟩ => vd.bk _ _ _ _ _ R w
theorem rs_cont {pos : Pos} : PS X (.Continue pos) (tS G B fun V env vh => V.ct env vh) := ps_continue.imp fun D σ H ⟨ρ, env, vh, V, R, vd, w⟩ => vd.ct _ _ _ _ _ R w
theorem rs_never {st : Stmt} : PS X st (tS G B fun V env vh => False) := ps_never.imp fun D σ H ⟨ρ, env, vh, V, R, vd, w⟩ => w.elim
theorem rs_retN {pos : Pos} : PS X (.Return none pos) (tS G B fun V env vh => V.rt (.v .non) vh) := ps_retN.imp fun D σ H ⟨ρ, env, vh, V, R, vd, w⟩ => vd.rt (.v .non) _ ρ _ _ ⟨R.ret, rfl⟩ w
theorem rs_ret {e : Expr} {pos : Pos} {we : VE → VH → QE → Prop} (me : ∀ env vh (Q Q' : QE), (∀ x e h, Q x e h → Q' x e h) → we env vh Q → we env vh Q') (h : PE X e (tD G B we)) :
    PS X (.Return (some e) pos) (tS G B fun V env vh => we env vh fun x e1 h1 => V.rt x h1) :=
  (ps_ret h).imp fun D σ H ⟨ρ, env, vh, V, R, vd, w⟩ => ⟨[], ρ, env, vh, R, me _ _ _ _ (fun x e1 h1 z ρ' v H' r => vd.rt _ _ _ _ _ r.ret z) w⟩
theorem rs_retO {e : Expr} {pos : Pos} {i : Nat} (h : PE X e (tVar i)) :
    PS X (.Return (some e) pos) (tS G B fun V env vh => match env[i]? with
      | some (.own ds) => V.rt (.fr ds) vh
      | _ => False) :=
  (ps_ret h).imp fun D σ H ⟨ρ, env, vh, V, R, vd, w⟩ => by
    dsimp only at w
    split at w
    · rename_i ds e
      obtain ⟨a, vs, h1, h2, S, h3⟩ := R.take e
      exact ⟨_, h1, vd.rt (.fr ds) _ _ _ _ ⟨a, vs, rfl, h2, S.ret, Rel.ret_ds h3⟩ w⟩
    · exact w.elim
theorem rs_expr {e : Expr} {pos : Pos} {we : VE → VH → QE → Prop} (me : ∀ env vh (Q Q' : QE), (∀ x e h, Q x e h → Q' x e h) → we env vh Q → we env vh Q') (h : PE X e (tD G B we)) (hs : swapsWith e none pos.line X.env = pure false) :
    PS X (.Expr e pos) (tS G B fun V env vh => we env vh fun x e1 h1 => V.nx e1 h1) :=
  (ps_expr h hs).imp fun D σ H ⟨ρ, env, vh, V, R, vd, w⟩ => ⟨[], ρ, env, vh, R, me _ _ _ _ (fun x e1 h1 z ρ' v H' r => vd.nx _ _ _ _ _ r.d.2.1 z) w⟩

/-! ### stores -/
abbrev PAs (X : Cx) (G : Wd) (B : Base) (st : Stmt) (i : Nat) (we : VE → VH → QE → Prop) : Prop := PS X st (tAsg (tD G B we) (gName i))
theorem rs_set {st : Stmt} {i : Nat} {we : VE → VH → QE → Prop} (me : ∀ env vh (Q Q' : QE), (∀ x e h, Q x e h → Q' x e h) → we env vh Q → we env vh Q') (h : PAs X G B st i we) :
    PS X st (tS G B fun V env vh => we env vh fun x e1 h1 => V.nx (e1.set i (.val x.d)) h1) :=
  h.imp fun D σ H ⟨ρ, env, vh, V, R, vd, w⟩ => ⟨[], ρ, env, vh, R, me _ _ _ _ (fun x e1 h1 z ρ' v H' r => by
    obtain ⟨m, R', hv⟩ := r.d
    exact vd.nx _ _ _ _ _ (R'.setVal hv) z) w⟩
theorem rs_setO {st : Stmt} {i : Nat} {we : VE → VH → QE → Prop} (me : ∀ env vh (Q Q' : QE), (∀ x e h, Q x e h → Q' x e h) → we env vh Q → we env vh Q') (h : PAs X G B st i we) :
    PS X st (tS G B fun V env vh => we env vh fun x e1 h1 => match x with
      | .fr ds => V.nx (e1.set i (.own ds)) h1
      | .v _ => False) :=
  h.imp fun D σ H ⟨ρ, env, vh, V, R, vd, w⟩ => ⟨[], ρ, env, vh, R, me _ _ _ _ (fun x e1 h1 z ρ' v H' r => by
    cases x with
    | v d => exact z.elim
    | fr ds =>
      obtain ⟨a, vs, rfl, h1, m, R', hv⟩ := r
      exact vd.nx _ _ _ _ _ (R'.setOwn h1 hv) z) w⟩
theorem rs_setS {st : Stmt} {i : Nat} {we : VE → VH → QE → Prop} (me : ∀ env vh (Q Q' : QE), (∀ x e h, Q x e h → Q' x e h) → we env vh Q → we env vh Q') (h : PAs X G B st i we) :
    PS X st (tS G B fun V env vh => we env vh fun x e1 h1 => match x with
      | .fr ds => V.nx (e1.set i (.val (.ref h1.length))) (h1 ++ [.lst ds])
      | .v _ => False) :=
  h.imp fun D σ H ⟨ρ, env, vh, V, R, vd, w⟩ => ⟨[], ρ, env, vh, R, me _ _ _ _ (fun x e1 h1 z ρ' v H' r => by
    cases x with
    | v d => exact z.elim
    | fr ds =>
      obtain ⟨a, vs, rfl, h2, m, R', hv⟩ := r
      have S := R'.share (o := .lst ds) ⟨vs, h2, hv⟩
      have ha : (ρ' ++ [a])[h1.length]? = some a := by rw [R'.vl]; simp
      exact vd.nx _ _ _ _ _ (S.setVal (d := .ref h1.length) ⟨a, ha, rfl⟩) z) w⟩
theorem pas_set (o : SOk X G B K Φ Γ fs) {i : Nat} {x : Str} {e : Expr} {pos pos' : Pos} {we : VE → VH → QE → Prop} (hi : X.N[i]? = some x) (hx : Loc X.env.scope x) (he : PE X e (tD G B we)) (hs : swapsWith e (some (.Name x pos')) pos.line X.env = pure false) :
    PAs X G B (.Assign [.Name x pos'] e pos) i we := ps_set o.nd hi hx he hs (.inl (o.fnT x))
theorem rs_par (o : SOk X G B K Φ Γ fs) (hc : hotN ∉ fs) {i j : Nat} {x y : Str} {a b : Expr} {px py pt : Pos} {kt k2 : Nat} {pt2 pos : Pos} {ws : VE → VH → (List R.D → VE → VH → Prop) → Prop} (m : ∀ env vh (Q Q' : List R.D → VE → VH → Prop), (∀ x e h, Q x e h → Q' x e h) → ws env vh Q → ws env vh Q')
    (hi : X.N[i]? = some x) (hj : X.N[j]? = some y) (hij : i ≠ j) (hx : X.env.scope.names.lookup x = some .local) (hy : X.env.scope.names.lookup y = some .local) (ha : PA X [a, b] (tL G B ws))
    (hw : swappedStores [.Tuple [.Name x px, .Name y py] kt pt] (.Tuple [a, b] k2 pt2) X.env = pure (some [x, y])) (hs : swapsWithSole [.Tuple [.Name x px, .Name y py] kt pt] (.Tuple [a, b] k2 pt2) pos.line X.env = pure false) :
    PS X (.Assign [.Tuple [.Name x px, .Name y py] kt pt] (.Tuple [a, b] k2 pt2) pos) (tS G B fun V env vh => ws env vh fun ds e1 h1 => match ds with
      | [x, y] => V.nx ((e1.set i (.val x)).set j (.val y)) h1
      | _ => False) :=
  (ps_par (o.calm hc) o.nd hi hj hij hx hy ha hw hs).imp fun D σ H ⟨ρ, env, vh, V, R, vd, w⟩ => ⟨[], ρ, env, vh, R, m _ _ _ _ (fun ds e1 h1 z ρ' vs H' mv R' hv => by
    match ds, z, hv with
    | [p, q], z, ⟨v, r, e1, hp, w, r2, e2, hq, e3⟩ =>
      cases (show r2 = [] from e3)
      subst e2 e1
      exact ⟨v, w, rfl, vd.nx _ _ _ _ _ ((R'.setVal hp).setVal (RD.move (setValMv R') _ _ hq)) z⟩) w⟩
theorem rs_unp (o : SOk X G B K Φ Γ fs) {is : List Nat} {ts : List Expr} {kt : Nat} {pt pos : Pos} {e : Expr} {we : VE → VH → QE → Prop} (me : ∀ env vh (Q Q' : QE), (∀ x e h, Q x e h → Q' x e h) → we env vh Q → we env vh Q') (he : PE X e (tD G B we))
    (hg : PG X (.Tuple ts kt pt) (gOf G.K (.many is))) (hs : swapsWithSole [.Tuple ts kt pt] e pos.line X.env = pure false) (hw : swappedStores [.Tuple ts kt pt] e X.env = pure none) (h1 : (assignEach [.Tuple ts kt pt] X.env).map (·.2) = [assign (.Tuple ts kt pt) X.env]) :
    PS X (.Assign [.Tuple ts kt pt] e pos) (tS G B fun V env vh => we env vh fun x e1 h1 => ∃ e2, bindT (.many is) x.d e1 = some e2 ∧ V.nx e2 h1) :=
  (ps_asg he hg hs hw h1).imp fun D σ H ⟨ρ, env, vh, V, R, vd, w⟩ => ⟨[], ρ, env, vh, R, me _ _ _ _ (fun x e1 h1 ⟨e2, hb, z⟩ ρ' v H' r => by
    obtain ⟨m, R', hv⟩ := r.d
    exact bind_ok R' hv hb fun σ2 R2 _ _ => vd.nx _ _ _ _ _ R2 z) w⟩
/-- a op= b -/
theorem ip_d (op : Operator) : PIp X op (fun x y H Q => ∃ Z ρ c d, RW G Z ρ H c x ∧ RW G Z ρ H d y ∧ wpAug op c d fun z => ∀ v H', Same H H' → RD G Z ρ H' z v → Q v H') := by
  rintro pins s σ H x y v u Q I r1 r2 ⟨Z, ρ, c, d, hc, hd, q⟩
  unfold wpAug at q
  split at q
  · cases (show x = _ from hc)
    cases (show y = _ from hd)
    exact ip_add pins s σ H _ _ v u Q I r1 r2 ⟨_, _, rfl, rfl, q _ _ (Same.refl _) rfl⟩
  · cases (show x = _ from hc)
    cases (show y = _ from hd)
    exact ip_sub pins s σ H _ _ v u Q I r1 r2 ⟨_, _, rfl, rfl, q _ _ (Same.refl _) rfl⟩
  · exact q.elim
/-- an instance's attribute is stored -/
theorem ins_upd {n : Nat} {c f : Str} {ns : List Str} {xs : List _root_.R.D} {d : _root_.R.D} {y : V} {a : Addr} {C dx : Addr} {ws : List (Str × V)} (R : Rel G B T ρ env vh σ H) (hn : vh[n]? = some (.ins c ns xs)) (ha : ρ[n]? = some a) (hC : G.ci c = some C) (hH : H a = some (.ins C dx ws)) (en : ws.map (·.1) = ns)
    (hv : RDs G (ZZ B.F T ρ env σ) ρ H xs (ws.map (·.2))) (hy : RD G (ZZ B.F T ρ env σ) ρ H d y) : Rel G B T ρ env (vh.set n (.ins c (putN f ns) (putX f d ns xs))) σ (upd H a (.ins C dx (putF f y ws))) := by
  subst en
  have hz : ZZ B.F T ρ env σ a := .inr (.inr (.inl (List.mem_of_getElem? ha)))
  refine R.shUpd hn ha trivial ⟨C, dx, putF f y ws, _, hC, upd_same, putF_names, rfl, RDs.move (Mv.upd hz hH trivial) _ _ (putF_vals hy hv)⟩
theorem rs_fset (o : SOk X G B K Φ Γ fs) {ob e : Expr} {f : Str} {pos pos' : Pos} {wo : VE → VH → (Op → VE → VH → Prop) → Prop} {we : VE → VH → QE → Prop} (mo : ∀ env vh (Q Q' : Op → VE → VH → Prop), (∀ x e h, Q x e h → Q' x e h) → wo env vh Q → wo env vh Q')
    (me : ∀ env vh (Q Q' : QE), (∀ x e h, Q x e h → Q' x e h) → we env vh Q → we env vh Q') (ho : PE X ob (tO G B wo)) (he : PE X e (tD G B we)) (hf : pfN f ∈ fs) (hs : swapsWith e (some (.Attribute ob f pos')) pos.line X.env = pure false) :
    PS X (.Assign [.Attribute ob f pos'] e pos) (tS G B fun V env vh => we env vh fun x e1 h1 => wo e1 h1 fun oo e2 h2 => ∃ n c ns xs, oo.raw e2 = some (.ref n) ∧ h2[n]? = some (.ins c ns xs) ∧ ns.length ≤ 100 ∧ V.nx e2 (h2.set n (.ins c (putN f ns) (putX f x.d ns xs)))) :=
  (ps_fld ho he hs).imp fun D σ H ⟨ρ, env, vh, V, R, vd, w⟩ => ⟨[], ρ, env, vh, R, me _ _ _ _ (fun x e1 h1 z ρ' v H' r => by
    obtain ⟨m, R', hv⟩ := r.d
    refine ⟨[], ρ', e1, h1, R', mo _ _ _ _ (fun oo e2 h2 ⟨n, c, ns, xs, hr, hn, hl, k⟩ ρ2 v2 H2 m2 R2 ov => ?_) z⟩
    obtain ⟨a, C, dx, ws, rfl, ha, hC, hH, en, hx⟩ := op_ins R2 ov hr hn
    obtain ⟨cl, na⟩ := o.ic f hf c C hC
    have hwl : ws.length = ns.length := by rw [← en, List.length_map]
    exact ⟨a, C, dx, ws, rfl, hH, cl, na, by omega, vd.nx _ _ _ _ _ (ins_upd R2 hn ha hC hH en hx (RD.move m2 _ _ hv)) k⟩) w⟩
/-- o.f as a target -/
def gFld (K : PySem.W.Frag) (to : TE) (f : Str) : TG := fun v σ H Q => to σ H fun x H1 => ∃ a C dx fs, x = .ref a ∧ H1 a = some (.ins C dx fs) ∧ Cls K C ∧ NoAttr K C f ∧ fs.length < 1000 ∧ Q σ (upd H1 a (.ins C dx (putF f v fs)))
theorem pg_fld {o : Expr} {f : Str} {to : TE} {pos : Pos} (ho : PE X o to) : PG X (.Attribute o f pos) (gFld X.K to f) := by
  refine ⟨fun pins s σ H v u Q I r h => ?_⟩
  rw [arm_assign_Attribute]
  refine wpAny_bind (wpAny_holding (thn (ho.run pins s σ H _ I h) fun ov s1 ⟨x, H1, I1, rx, a, C, dx, fs, ex, ea, c, n, l, q⟩ => ?_))
  subst ex
  obtain rfl : ov = Value.ref a := rx
  refine wpAny_bind (wpAny_standAt (wpAny_bind (wpAny_holding (setattr_ok I1 ea c n l r fun s3 I3 => ?_))))
  exact wpAny_release ⟨σ, _, I3, q⟩
/-- what a name holds, as an operand -/
def oB (j : Nat) : VE → VH → (Op → VE → VH → Prop) → Prop := fun env vh Q => (∃ s, env[j]? = some s ∧ s.ok) ∧ Q (.slt j) env vh
def gTas (G : Wd) (B : Base) : List Ta → TGs
  | [] => gNil
  | .nm i :: ts => gCons (gName i) (gTas G B ts)
  | .fl j f :: ts => gCons (gFld G.K (tO G B (oB j)) f) (gTas G B ts)
def taF : List Ta → List Str
  | [] => []
  | .nm _ :: ts => taF ts
  | .fl _ f :: ts => f :: taF ts
theorem tas_ok (o : SOk X G B K Φ Γ fs) {N : VE → VH → Prop} {Q : L2.St → Hp → Prop} (k : ∀ ρ env vh σ H, Rel G B [] ρ env vh σ H → N env vh → Q σ H) : ∀ (ts : List Ta) (ds : List _root_.R.D) (vs : List V) (ρ : List Addr) (env : VE) (vh : VH) (σ : L2.St) (H : Hp), (∀ f, f ∈ taF ts → pfN f ∈ fs) → Rel G B [] ρ env vh σ H → RDs G (ZZ B.F [] ρ env σ) ρ H ds vs → bindG ts ds env vh N → gTas G B ts vs σ H Q
  | [], [], vs, ρ, env, vh, σ, H, hp, R, h, e => by
    cases (show vs = [] from h)
    exact ⟨rfl, k _ _ _ _ _ R e⟩
  | .nm i :: ts, d :: ds, vs, ρ, env, vh, σ, H, hp, R, h, e => by
    obtain ⟨v, r, rfl, h1, h2⟩ := h
    exact ⟨v, r, rfl, tas_ok o k ts ds _ _ _ _ _ _ hp (R.setVal h1) (RDs.move (setValMv R) _ _ h2) e⟩
  | .fl j f :: ts, d :: ds, vs, ρ, env, vh, σ, H, hp, R, h, e => by
    obtain ⟨v, r, rfl, h1, h2⟩ := h
    obtain ⟨n, c, ns, xs, hj, hn, hl, e⟩ := e
    refine ⟨v, r, rfl, [], ρ, env, vh, R, ⟨⟨_, hj, trivial⟩, fun ρ2 v2 H2 m2 R2 ov => ?_⟩⟩
    have hr : (Op.slt j).raw env = some (.ref n) := by
      unfold Op.raw
      dsimp only
      rw [hj]
    obtain ⟨a, C, dx, ws, rfl, ha, hC, hH, en, hx⟩ := op_ins R2 ov hr hn
    obtain ⟨cl, na⟩ := o.ic f (hp f (by simp [taF])) c C hC
    have hwl : ws.length = ns.length := by rw [← en, List.length_map]
    have hz : ZZ B.F [] ρ2 env σ a := .inr (.inr (.inl (List.mem_of_getElem? ha)))
    have cl : Cls G.K C := o.hK ▸ cl
    have na : NoAttr G.K C f := o.hK ▸ na
    refine ⟨a, C, dx, ws, rfl, hH, cl, na, by omega, ?_⟩
    exact tas_ok o k ts ds _ _ _ _ _ _ (fun g hg => hp g (by simp [taF, hg])) (ins_upd R2 hn ha hC hH en hx (RD.move m2 _ _ h1)) (RDs.move (m2.trans (Mv.upd hz hH trivial)) _ _ h2) e
  | [], _ :: _, _, _, _, _, _, _, _, _, _, e => e.elim
  | .nm _ :: _, [], _, _, _, _, _, _, _, _, _, e => e.elim
  | .fl _ _ :: _, [], _, _, _, _, _, _, _, _, _, e => e.elim
theorem bindG_len : ∀ (ts : List Ta) (ds : List _root_.R.D) (env : VE) (vh : VH) (N : VE → VH → Prop), bindG ts ds env vh N → ds.length = ts.length
  | [], [], _, _, _, _ => rfl
  | .nm _ :: ts, _ :: ds, _, _, _, e => by rw [List.length_cons, List.length_cons, bindG_len ts ds _ _ _ e]
  | .fl _ _ :: ts, _ :: ds, _, _, _, e => by
    obtain ⟨n, c, ns, xs, hj, hn, hl, e⟩ := e
    rw [List.length_cons, List.length_cons, bindG_len ts ds _ _ _ e]
  | [], _ :: _, _, _, _, e => e.elim
  | .nm _ :: _, [], _, _, _, e => e.elim
  | .fl _ _ :: _, [], _, _, _, e => e.elim
theorem rs_unpG (o : SOk X G B K Φ Γ fs) {ta : List Ta} {ts : List Expr} {kt : Nat} {pt pos : Pos} {e : Expr} {we : VE → VH → QE → Prop} (me : ∀ env vh (Q Q' : QE), (∀ x e h, Q x e h → Q' x e h) → we env vh Q → we env vh Q') (he : PE X e (tD G B we)) (hp : ∀ f, f ∈ taF ta → pfN f ∈ fs)
    (hg : PG X (.Tuple ts kt pt) (gTup G.K ta.length (gTas G B ta))) (hs : swapsWithSole [.Tuple ts kt pt] e pos.line X.env = pure false) (hw : swappedStores [.Tuple ts kt pt] e X.env = pure none) (h1 : (assignEach [.Tuple ts kt pt] X.env).map (·.2) = [assign (.Tuple ts kt pt) X.env]) :
    PS X (.Assign [.Tuple ts kt pt] e pos) (tS G B fun V env vh => we env vh fun x e1 h1 => ∃ ds, x.d = .tup ds ∧ bindG ta ds e1 h1 V.nx) :=
  (ps_asg he hg hs hw h1).imp fun D σ H ⟨ρ, env, vh, V, R, vd, w⟩ => ⟨[], ρ, env, vh, R, me _ _ _ _ (fun x e1 h1 ⟨ds, ed, hb⟩ ρ' v H' r => by
    obtain ⟨m, R', hv⟩ := r.d
    rw [ed] at hv
    obtain ⟨a, vs, rfl, q1, q2⟩ := hv
    exact ⟨a, vs, rfl, q1, by rw [← q2.length]; exact bindG_len _ _ _ _ _ hb, tas_ok o vd.nx _ _ _ _ _ _ _ _ hp R' q2 hb⟩) w⟩
theorem rs_faug (o : SOk X G B K Φ Γ fs) {ob e : Expr} {f : Str} {op : Operator} {pos pos' : Pos} {wo : VE → VH → (Op → VE → VH → Prop) → Prop} {we : VE → VH → QE → Prop} (mo : ∀ env vh (Q Q' : Op → VE → VH → Prop), (∀ x e h, Q x e h → Q' x e h) → wo env vh Q → wo env vh Q')
    (me : ∀ env vh (Q Q' : QE), (∀ x e h, Q x e h → Q' x e h) → we env vh Q → we env vh Q') (ho : PE X ob (tO G B wo)) (he : PE X e (tD G B we)) (hf : pfN f ∈ fs) :
    PS X (.AugAssign (.Attribute ob f pos') op e pos) (tS G B fun V env vh => wo env vh fun oo e1 h1 => ∃ n c ns xs, oo.raw e1 = some (.ref n) ∧ h1[n]? = some (.ins c ns xs) ∧ ∃ y, fldD f ns xs = some y ∧
      we e1 h1 fun z e2 h2 => wpAug op y z.d fun r => ∃ ns2 xs2, h2[n]? = some (.ins c ns2 xs2) ∧ ns2.length ≤ 100 ∧ V.nx e2 (h2.set n (.ins c (putN f ns2) (putX f r ns2 xs2)))) :=
  (ps_fldaug ho he (fun pins s σ H x y u v Q I r1 r2 h => ip_d (G := G) op pins s σ H x y u v Q I r1 r2 h)).imp fun D σ H ⟨ρ, env, vh, V, R, vd, w⟩ => ⟨[], ρ, env, vh, R, mo _ _ _ _ (fun oo e1 h1 ⟨n, c, ns, xs, hr, hn, y, hy, z⟩ ρ1 v1 H1 m1 R1 ov => by
    obtain ⟨a, C, dx, ws, rfl, ha, hC, hH, en, hx⟩ := op_ins R1 ov hr hn
    obtain ⟨cl, na⟩ := o.ic f hf c C hC
    subst en
    obtain ⟨u, lu, hu⟩ := fld_look hx hy
    refine ⟨a, C, dx, ws, u, rfl, hH, cl, na, lu, [], ρ1, e1, h1, R1, me _ _ _ _ (fun zz e2 h2 q ρ2 v2 H2 r => ?_) z⟩
    obtain ⟨m2, R2, hv2⟩ := r.d
    have mono : ∀ {Q Q' : _root_.R.D → Prop}, (∀ x, Q x → Q' x) → wpAug op y zz.d Q → wpAug op y zz.d Q' := fun {Q Q'} f h => by
      unfold wpAug at *
      split at h <;> first | exact f _ h | exact h
    refine ⟨_, ρ2, y, zz.d, (RD.move m2 _ _ hu).w, hv2.w, mono (fun r ⟨ns2, xs2, hn2, hl2, k⟩ v3 H3 sm hr3 => ?_) q⟩
    have R3 := R2.grow sm
    have ha2 := m2.pre n a ha
    obtain ⟨C2, dx2, ws2, vs2, hC2, hH2, en2, ev2, hx2⟩ := R3.ob n _ a hn2 ha2
    have eC : C2 = C := by
      rw [hC] at hC2
      exact (Option.some.inj hC2).symm
    subst eC ev2
    have hwl : ws2.length = ns2.length := by rw [← en2, List.length_map]
    exact ⟨dx2, ws2, hH2, by omega, vd.nx _ _ _ _ _ (ins_upd R3 hn2 ha2 hC hH2 en2 hx2 hr3) k⟩) w⟩
theorem rs_aug (o : SOk X G B K Φ Γ fs) {i : Nat} {x : Str} {e : Expr} {op : Operator} {pos pos' : Pos} {we : VE → VH → QE → Prop} (me : ∀ env vh (Q Q' : QE), (∀ x e h, Q x e h → Q' x e h) → we env vh Q → we env vh Q') (hi : X.N[i]? = some x) (hx : Loc X.env.scope x) (he : PE X e (tD G B we)) :
    PS X (.AugAssign (.Name x pos') op e pos) (tS G B fun V env vh => match env[i]? with
      | some (.val c) => we env vh fun y e1 h1 => wpAug op c y.d fun z => V.nx (e1.set i (.val z)) h1
      | _ => False) :=
  (ps_aug o.nd hi hx he (ip_d (G := G) op) (.inl (o.fnT x))).imp fun D σ H ⟨ρ, env, vh, V, R, vd, w⟩ => by
    dsimp only at w
    split at w
    · rename_i c hc
      obtain ⟨v, e, hv⟩ := R.st i _ hc
      refine ⟨v, e, [], ρ, env, vh, R, me _ _ _ _ (fun y e1 h1 z ρ' u H' r => ?_) w⟩
      obtain ⟨m, R', hu⟩ := r.d
      have mono : ∀ {Q Q' : _root_.R.D → Prop}, (∀ x, Q x → Q' x) → wpAug op c y.d Q → wpAug op c y.d Q' := fun {Q Q'} f h => by
        unfold wpAug at *
        split at h <;> first | exact f _ h | exact h
      exact ⟨_, ρ', c, y.d, (RD.move m _ _ hv).w, hu.w, mono (fun zz q vv H2 sm hz => vd.nx _ _ _ _ _ ((R'.grow sm).setVal hz) q) z⟩
    · exact w.elim
theorem set_sh {n : Nat} {k x : R.D} {Q : VH → Prop} {a kv xv : V} {D : Hp → Prop} (R : Rel G B T ρ env vh σ H) (ha : RD G (ZZ B.F T ρ env σ) ρ H (.ref n) a) (hk : RD G (ZZ B.F T ρ env σ) ρ H k kv) (hx : RD G (ZZ B.F T ρ env σ) ρ H x xv) (w : setSh n k x vh Q)
    (f : ∀ vh' H', Rel G B T ρ env vh' σ H' → Q vh' → D H') : rSetL a kv xv H D := by
  obtain ⟨p, hp, rfl⟩ := ha
  unfold setSh at w
  split at w
  · rename_i xs j hn
    cases (show kv = _ from hk)
    obtain ⟨m, hm, q⟩ := w
    obtain ⟨vs, h1, h2⟩ := R.ob n _ p hn hp
    have hz : ZZ B.F T ρ env σ p := .inr (.inr (.inl (List.mem_of_getElem? hp)))
    have mu : Mv (ZZ B.F T ρ env σ) ρ H (ZZ B.F T ρ env σ) ρ (upd H p (.lst (vs.set m xv))) := Mv.upd hz h1 trivial
    refine ⟨p, vs, j, m, rfl, rfl, h1, by rw [← h2.length]; exact hm, f _ _ (R.shUpd hn hp trivial (o' := .lst (xs.set m x)) ⟨_, upd_same, ?_⟩) q⟩
    exact RDs.set m (RDs.move mu _ _ h2) (RD.move mu _ _ hx)
  · exact w.elim
theorem set_op {oo : Op} {k x : R.D} {Q : VE → VH → Prop} {a kv xv : V} {D : Hp → Prop} (R : Rel G B T ρ env vh σ H) (ha : OpV G (ZZ B.F T ρ env σ) ρ H σ oo a) (hk : RD G (ZZ B.F T ρ env σ) ρ H k kv) (hx : RD G (ZZ B.F T ρ env σ) ρ H x xv) (w : wpSet oo k x env vh Q)
    (f : ∀ env' vh' H', Rel G B T ρ env' vh' σ H' → Q env' vh' → D H') : rSetL a kv xv H D := by
  cases oo with
  | dat d =>
    cases d with
    | ref n => exact set_sh R ha hk hx w fun vh' H' R' q => f _ _ _ R' q
    | _ => exact (show False from w).elim
  | slt i =>
    have ha : σ[i]? = some (some a) := ha
    unfold wpSet at w
    dsimp only at w
    split at w
    · rename_i n hs
      obtain ⟨v, e, hv⟩ := R.st i _ hs
      rw [ha] at e
      cases e
      exact set_sh R hv hk hx w fun vh' H' R' q => f _ _ _ R' q
    · rename_i xs j hs
      cases (show kv = _ from hk)
      obtain ⟨m, hm, q⟩ := w
      obtain ⟨p, vs, e, h1, h2⟩ := R.st i _ hs
      rw [ha] at e
      cases e
      have hz : ZZ B.F T ρ env σ p := .inr (.inr (.inr ⟨i, _, hs, ha⟩))
      have mu : Mv (ZZ B.F T ρ env σ) ρ H (ZZ B.F T ρ env σ) ρ (upd H p (.lst (vs.set m xv))) := Mv.upd hz h1 trivial
      exact ⟨p, vs, j, m, rfl, rfl, h1, by rw [← h2.length]; exact hm, f _ _ _ (R.ownUpd hs ha h1 (RDs.set m h2 hx)) q⟩
    · exact w.elim
theorem rs_sidx (o : SOk X G B K Φ Γ fs) {a i e : Expr} {tpos pos : Pos} {wo : VE → VH → (Op → VE → VH → Prop) → Prop} {wi we : VE → VH → QE → Prop} (mo : ∀ env vh (Q Q' : Op → VE → VH → Prop), (∀ x e h, Q x e h → Q' x e h) → wo env vh Q → wo env vh Q')
    (mi : ∀ env vh (Q Q' : QE), (∀ x e h, Q x e h → Q' x e h) → wi env vh Q → wi env vh Q') (me : ∀ env vh (Q Q' : QE), (∀ x e h, Q x e h → Q' x e h) → we env vh Q → we env vh Q')
    (ho : PE X a (tO G B wo)) (hi : PE X i (tD G B wi)) (he : PE X e (tD G B we))
    (ha : ∀ v, assign (.Subscript a i tpos) X.env v = (do
      let ov ← holding [v] (eval a X.env)
      let iv ← holding [v, ov] (eval i X.env)
      standAt tpos
      holding [v, ov, iv] (setItem ov iv v)
      release [v, ov, iv] []))
    (hs : swapsWithSole [.Subscript a i tpos] e pos.line X.env = pure false) (hw : swappedStores [.Subscript a i tpos] e X.env = pure none) (h1 : (assignEach [.Subscript a i tpos] X.env).map (·.2) = [assign (.Subscript a i tpos) X.env]) :
    PS X (.Assign [.Subscript a i tpos] e pos) (tS G B fun V env vh => we env vh fun x e1 h1 => wo e1 h1 fun oo e2 h2 => wi e2 h2 fun ix e3 h3 => wpSet oo ix.d x.d e3 h3 V.nx) :=
  (ps_asg he (pg_sub ho hi set_list ha) hs hw h1).imp fun D σ H ⟨ρ, env, vh, V, R, vd, w⟩ => ⟨[], ρ, env, vh, R, me _ _ _ _ (fun x e1 h1 z ρ' v H' r => by
    obtain ⟨m, R', hv⟩ := r.d
    refine ⟨[], ρ', e1, h1, R', mo _ _ _ _ (fun oo e2 h2 z ρ2 a H2 m2 R2 hoo => ?_) z⟩
    refine ⟨[], ρ2, e2, h2, R2, mi _ _ _ _ (fun ix e3 h3 z ρ3 iv H3 r3 => ?_) z⟩
    obtain ⟨m3, R3, hi⟩ := r3.d
    exact set_op R3 (hoo.move m3) hi (RD.move (m2.trans m3) _ _ hv) z fun env' vh' H' R' q => vd.nx _ _ _ _ _ R' q) w⟩

/-! ### append -/
theorem is_ls {oo : Op} {a : V} (R : Rel G B T ρ env vh σ H) (ha : OpV G (ZZ B.F T ρ env σ) ρ H σ oo a) (w : isLs oo env vh) : tyV X.K "list" a H := by
  have sh : ∀ {n : Nat} {a : V}, RD G (ZZ B.F T ρ env σ) ρ H (.ref n) a → (∃ xs, vh[n]? = some (.lst xs)) → tyV X.K "list" a H := fun {n a} h ⟨xs, hn⟩ => by
    obtain ⟨p, hp, rfl⟩ := h
    obtain ⟨vs, h1, h2⟩ := R.ob n _ p hn hp
    exact .inl ⟨rfl, vs, .of h1⟩
  cases oo with
  | dat d =>
    cases d with
    | ref n => exact sh ha w
    | _ => exact (show False from w).elim
  | slt i =>
    have ha : σ[i]? = some (some a) := ha
    unfold isLs at w
    dsimp only at w
    split at w
    · rename_i n hs
      obtain ⟨v, e, hv⟩ := R.st i _ hs
      rw [ha] at e
      cases e
      exact sh hv w
    · rename_i xs hs
      obtain ⟨p, vs, e, h1, h2⟩ := R.st i _ hs
      rw [ha] at e
      cases e
      exact .inl ⟨rfl, vs, .of h1⟩
    · exact w.elim
theorem app_sh {n : Nat} {x : R.D} {Q : VH → Prop} {a xv : V} {D : VK} (R : Rel G B T ρ env vh σ H) (ha : RD G (ZZ B.F T ρ env σ) ρ H (.ref n) a) (hx : RD G (ZZ B.F T ρ env σ) ρ H x xv) (w : appSh n x vh Q)
    (f : ∀ vh' H', Rel G B T ρ env vh' σ H' → Q vh' → D .non H') : rAppend a [xv] H D := by
  obtain ⟨p, hp, rfl⟩ := ha
  unfold appSh at w
  split at w
  · rename_i xs hn
    obtain ⟨hl, q⟩ := w
    obtain ⟨vs, h1, h2⟩ := R.ob n _ p hn hp
    have hz : ZZ B.F T ρ env σ p := .inr (.inr (.inl (List.mem_of_getElem? hp)))
    have mu : Mv (ZZ B.F T ρ env σ) ρ H (ZZ B.F T ρ env σ) ρ (upd H p (.lst (vs ++ [xv]))) := Mv.upd hz h1 trivial
    refine ⟨p, vs, xv, rfl, rfl, h1, by rw [sizeLine_eq, ← h2.length]; exact hl, f _ _ (R.shUpd hn hp trivial (o' := .lst (xs ++ [x])) ⟨_, upd_same, ?_⟩) q⟩
    exact RDs.append (RDs.move mu _ _ h2) (.one (RD.move mu _ _ hx))
  · exact w.elim
theorem app_op {oo : Op} {x : R.D} {Q : VE → VH → Prop} {a xv : V} {D : VK} (R : Rel G B T ρ env vh σ H) (ha : OpV G (ZZ B.F T ρ env σ) ρ H σ oo a) (hx : RD G (ZZ B.F T ρ env σ) ρ H x xv) (w : wpApp oo x env vh Q)
    (f : ∀ env' vh' H', Rel G B T ρ env' vh' σ H' → Q env' vh' → D .non H') : rAppend a [xv] H D := by
  cases oo with
  | dat d =>
    cases d with
    | ref n => exact app_sh R ha hx w fun vh' H' R' q => f _ _ _ R' q
    | _ => exact (show False from w).elim
  | slt i =>
    have ha : σ[i]? = some (some a) := ha
    unfold wpApp at w
    dsimp only at w
    split at w
    · rename_i n hs
      obtain ⟨v, e, hv⟩ := R.st i _ hs
      rw [ha] at e
      cases e
      exact app_sh R hv hx w fun vh' H' R' q => f _ _ _ R' q
    · rename_i xs hs
      obtain ⟨hl, q⟩ := w
      obtain ⟨p, vs, e, h1, h2⟩ := R.st i _ hs
      rw [ha] at e
      cases e
      exact ⟨p, vs, xv, rfl, rfl, h1, by rw [sizeLine_eq, ← h2.length]; exact hl, f _ _ _ (R.ownUpd hs ha h1 (RDs.append h2 (.one hx))) q⟩
    · exact w.elim
theorem rs_app (o : SOk X G B K Φ Γ fs) {a e : Expr} {apos cpos pos : Pos} {wo : VE → VH → (Op → VE → VH → Prop) → Prop} {we : VE → VH → QE → Prop} (mo : ∀ env vh (Q Q' : Op → VE → VH → Prop), (∀ x e h, Q x e h → Q' x e h) → wo env vh Q → wo env vh Q')
    (me : ∀ env vh (Q Q' : QE), (∀ x e h, Q x e h → Q' x e h) → we env vh Q → we env vh Q') (ho : PE X a (tO G B wo)) (he : PE X e (tD G B we))
    (hbase : attributeBase a "append" X.env (eval a X.env) = eval a X.env) (hline : (apos.endLine == cpos.line) = true) (hs1 : starEach [e] X.env = (false, eval e X.env) :: starEach [] X.env) :
    PS X (.Expr (.Call (.Attribute a "append" apos) [e] [] cpos) pos) (tS G B fun V env vh => wo env vh fun oo e1 h1 => isLs oo e1 h1 ∧ we e1 h1 fun x e2 h2 => wpApp oo x.d e2 h2 V.nx) := by
  have pe := pe_bm PySem.F.plainAttrs_list PySem.F.slot_list_append PySem.F.type_list_append mt_append ho (pa_cons he pa_nil hs1) hbase (by rw [hs1]; rfl) hline hs1 rfl
  refine (ps_expr pe rfl).imp fun D σ H ⟨ρ, env, vh, V, R, vd, w⟩ => ⟨[], ρ, env, vh, R, mo _ _ _ _ (fun oo e1 h1 ⟨il, z⟩ ρ1 a H1 m1 R1 hoo => ?_) w⟩
  refine ⟨is_ls R1 hoo il, [], ρ1, e1, h1, R1, me _ _ _ _ (fun x e2 h2 z ρ2 v H2 r2 => ?_) z⟩
  obtain ⟨m2, R2, hv⟩ := r2.d
  exact app_op (D := fun _ H => D.nx σ H) R2 (hoo.move m2) hv z fun env' vh' H' R' q => vd.nx _ _ _ _ _ R' q

/-! ### pop(0) -/
theorem pop_sh {n : Nat} {Q : VH → Prop} {a : V} {D : VK} (R : Rel G B T ρ env vh σ H) (ha : RD G (ZZ B.F T ρ env σ) ρ H (.ref n) a) (w : popSh n vh Q) (f : ∀ v vh' H', Rel G B T ρ env vh' σ H' → Q vh' → D v H') : rPopAt a [.int 0] H D := by
  obtain ⟨p, hp, rfl⟩ := ha
  unfold popSh at w
  split at w
  · rename_i x xs hn
    obtain ⟨vs, h1, h2⟩ := R.ob n _ p hn hp
    obtain ⟨v, r, rfl, h3, h4⟩ := h2
    have hz : ZZ B.F T ρ env σ p := .inr (.inr (.inl (List.mem_of_getElem? hp)))
    have mu : Mv (ZZ B.F T ρ env σ) ρ H (ZZ B.F T ρ env σ) ρ (upd H p (.lst r)) := Mv.upd hz h1 trivial
    exact ⟨p, v :: r, 0, 0, v, rfl, rfl, h1, by decide, by decide, by unfold seqIndex?; simp, rfl, f _ _ _ (R.shUpd hn hp trivial (o' := .lst xs) ⟨r, upd_same, RDs.move mu _ _ h4⟩) w⟩
  · exact w.elim
theorem pop_op {oo : Op} {Q : VE → VH → Prop} {a : V} {D : VK} (R : Rel G B T ρ env vh σ H) (ha : OpV G (ZZ B.F T ρ env σ) ρ H σ oo a) (w : wpPop oo env vh Q) (f : ∀ v env' vh' H', Rel G B T ρ env' vh' σ H' → Q env' vh' → D v H') : rPopAt a [.int 0] H D := by
  cases oo with
  | dat d =>
    cases d with
    | ref n => exact pop_sh R ha w fun v vh' H' R' q => f _ _ _ _ R' q
    | _ => exact (show False from w).elim
  | slt i =>
    have ha : σ[i]? = some (some a) := ha
    unfold wpPop at w
    dsimp only at w
    split at w
    · rename_i n hs
      obtain ⟨v, e, hv⟩ := R.st i _ hs
      rw [ha] at e
      cases e
      exact pop_sh R hv w fun v vh' H' R' q => f _ _ _ _ R' q
    · rename_i x xs hs
      obtain ⟨p, vs, e, h1, h2⟩ := R.st i _ hs
      rw [ha] at e
      cases e
      obtain ⟨v, r, rfl, h3, h4⟩ := h2
      exact ⟨p, v :: r, 0, 0, v, rfl, rfl, h1, by decide, by decide, by unfold seqIndex?; simp, rfl, f _ _ _ _ (R.ownUpd hs ha h1 h4) w⟩
    · exact w.elim
theorem rs_pop (o : SOk X G B K Φ Γ fs) {a e : Expr} {apos cpos pos : Pos} {wo : VE → VH → (Op → VE → VH → Prop) → Prop} (mo : ∀ env vh (Q Q' : Op → VE → VH → Prop), (∀ x e h, Q x e h → Q' x e h) → wo env vh Q → wo env vh Q') (ho : PE X a (tO G B wo)) (he : PE X e (tD G B (wpE Φ Γ (.int 0) K false)))
    (hbase : attributeBase a "pop" X.env (eval a X.env) = eval a X.env) (hline : (apos.endLine == cpos.line) = true) (hs1 : starEach [e] X.env = (false, eval e X.env) :: starEach [] X.env) :
    PS X (.Expr (.Call (.Attribute a "pop" apos) [e] [] cpos) pos) (tS G B fun V env vh => wo env vh fun oo e1 h1 => isLs oo e1 h1 ∧ wpPop oo e1 h1 V.nx) := by
  have pe := pe_bm PySem.F.plainAttrs_list PySem.F.slot_list_pop PySem.F.type_list_pop mt_popAt ho (pa_cons he pa_nil hs1) hbase (by rw [hs1]; rfl) hline hs1 rfl
  refine (ps_expr pe rfl).imp fun D σ H ⟨ρ, env, vh, V, R, vd, w⟩ => ⟨[], ρ, env, vh, R, mo _ _ _ _ (fun oo e1 h1 ⟨il, z⟩ ρ1 a H1 m1 R1 hoo => ?_) w⟩
  refine ⟨is_ls R1 hoo il, [], ρ1, e1, h1, R1, ?_⟩
  show fin false (.v (.int 0)) e1 h1 _
  intro ρ2 v H2 r2
  obtain ⟨m2, R2, hv⟩ := r2.d
  cases (show v = .int 0 from hv)
  exact pop_op (D := fun _ H => D.nx σ H) R2 (hoo.move m2) z fun v env' vh' H' R' q => vd.nx _ _ _ _ _ R' q
/-! ### o[a:] = ys -/
theorem sas_sh {n : Nat} {a : Int} {ys : List R.D} {Q : VH → Prop} {b : Addr} {zs : List V} {v : V} {D : Addr → List V → Hp → Prop} (R : Rel G B T ρ env vh σ H) (hv : RD G (ZZ B.F T ρ env σ) ρ H (.ref n) v) (hb : H b = some (.lst zs)) (hn : ¬ ZZ B.F T ρ env σ b) (hx : RDs G (ZZ B.F T ρ env σ) ρ H ys zs) (w : sasSh n a ys vh Q)
    (f : ∀ vh' H', Rel G B T ρ env vh' σ H' → Q vh' → ∀ p xs, v = .ref p → H p = some (.lst xs) → p ≠ b → 0 ≤ a → a ≤ xs.length → xs.length + zs.length ≤ sizeLine → H' = upd H p (.lst (xs.take a.toNat ++ zs)) → D p xs H') : ∃ p xs, v = .ref p ∧ H p = some (.lst xs) ∧ p ≠ b ∧ 0 ≤ a ∧ a ≤ xs.length ∧ xs.length + zs.length ≤ sizeLine ∧ D p xs (upd H p (.lst (xs.take a.toNat ++ zs))) := by
  obtain ⟨p, hp, rfl⟩ := hv
  unfold sasSh at w
  split at w
  · rename_i xs hm
    obtain ⟨h0, ha, hl, q⟩ := w
    obtain ⟨vs, h1, h2⟩ := R.ob n _ p hm hp
    have hz : ZZ B.F T ρ env σ p := .inr (.inr (.inl (List.mem_of_getElem? hp)))
    have hne : p ≠ b := fun e => hn (e ▸ hz)
    have mu : Mv (ZZ B.F T ρ env σ) ρ H (ZZ B.F T ρ env σ) ρ (upd H p (.lst (vs.take a.toNat ++ zs))) := Mv.upd hz h1 trivial
    have e1 := h2.length
    have e2 := hx.length
    have h3 : a ≤ vs.length := by omega
    have h4 : vs.length + zs.length ≤ sizeLine := by rw [sizeLine_eq]; omega
    refine ⟨p, vs, rfl, h1, hne, h0, h3, h4, f _ _ (R.shUpd hm hp (u := .lst (vs.take a.toNat ++ zs)) trivial (o' := .lst (xs.take a.toNat ++ ys)) ⟨_, upd_same, ?_⟩) q p vs rfl h1 hne h0 h3 h4 rfl⟩
    exact RDs.append (RDs.take a.toNat (RDs.move mu _ _ h2)) (RDs.move mu _ _ hx)
  · exact w.elim
theorem rs_sasg (o : SOk X G B K Φ Γ fs) {a lo e : Expr} {tpos p2 pos : Pos} {wo : VE → VH → (Op → VE → VH → Prop) → Prop} {wl we : VE → VH → QE → Prop} (mo : ∀ env vh (Q Q' : Op → VE → VH → Prop), (∀ x e h, Q x e h → Q' x e h) → wo env vh Q → wo env vh Q')
    (ml : ∀ env vh (Q Q' : QE), (∀ x e h, Q x e h → Q' x e h) → wl env vh Q → wl env vh Q') (me : ∀ env vh (Q Q' : QE), (∀ x e h, Q x e h → Q' x e h) → we env vh Q → we env vh Q')
    (ho : PE X a (tO G B wo)) (hl : PE X lo (tD G B wl)) (he : PE X e (tD G B we))
    (hs : swapsWithSole [.Subscript a (.Slice (some lo) none none p2) tpos] e pos.line X.env = pure false) (hw : swappedStores [.Subscript a (.Slice (some lo) none none p2) tpos] e X.env = pure none) :
    PS X (.Assign [.Subscript a (.Slice (some lo) none none p2) tpos] e pos) (tS G B fun V env vh => we env vh fun x e1 h1 => wo e1 h1 fun oo e2 h2 => wl e2 h2 fun ix e3 h3 => wpSas oo ix.d x.d e3 h3 V.nx) :=
  (ps_asg he (pg_up ho (ro_part hl)) hs hw rfl).imp fun D σ H ⟨ρ, env, vh, V, R, vd, w⟩ => ⟨[], ρ, env, vh, R, me _ _ _ _ (fun x e1 h1 z ρ' v H' r => by
    obtain ⟨m, R', hv⟩ := r.d
    refine ⟨[], ρ', e1, h1, R', mo _ _ _ _ (fun oo e2 h2 z ρ2 ov H2 m2 R2 hoo => ?_) z⟩
    refine ⟨[], ρ2, e2, h2, R2, ml _ _ _ _ (fun ix e3 h3 z ρ3 iv H3 r3 => ?_) z⟩
    obtain ⟨m3, R3, hi⟩ := r3.d
    have hv3 := RD.move (m2.trans m3) _ _ hv
    have hoo3 := hoo.move m3
    unfold wpSas at z
    split at z
    · rename_i ai ys ei ex
      rw [ei] at hi
      cases (show iv = .int ai from hi)
      rw [ex] at hv3
      obtain ⟨b, zs, rfl, hn, hb, hys⟩ := hv3
      refine ⟨ai, rfl, ?_⟩
      split at z
      · rename_i n
        obtain ⟨p, xs, e1, e2, e3, e4, e5, e6, q⟩ := sas_sh (D := fun p xs H' => D.nx σ H') R3 hoo3 hb hn hys z fun vh' H' R' q p xs _ _ _ _ _ _ _ => vd.nx _ _ _ _ _ R' q
        exact ⟨p, b, xs, zs, ai, e1, rfl, rfl, e2, hb, e3, e4, e5, e6, q⟩
      · exact z.elim
      · rename_i i _
        have hoo3 : σ[i]? = some (some ov) := hoo3
        split at z
        · rename_i n hsl
          obtain ⟨v', e', hv'⟩ := R3.st i _ hsl
          rw [hoo3] at e'
          cases e'
          obtain ⟨p, xs, e1, e2, e3, e4, e5, e6, q⟩ := sas_sh (D := fun p xs H' => D.nx σ H') R3 hv' hb hn hys z fun vh' H' R' q p xs _ _ _ _ _ _ _ => vd.nx _ _ _ _ _ R' q
          exact ⟨p, b, xs, zs, ai, e1, rfl, rfl, e2, hb, e3, e4, e5, e6, q⟩
        · exact z.elim
    · exact z.elim) w⟩
/-- a new list, appended to and let go -/
theorem rs_appF (o : SOk X G B K Φ Γ fs) {a : Expr} {k : Int} {k1 : Nat} {p1 p3 : Pos} {kc : Nat} {apos cpos pos : Pos} {wa : VE → VH → QE → Prop} (ma : ∀ env vh (Q Q' : QE), (∀ x e h, Q x e h → Q' x e h) → wa env vh Q → wa env vh Q') (ha : PE X a (tD G B wa))
    (hbase : attributeBase a "append" X.env (eval a X.env) = eval a X.env) (hline : (apos.endLine == cpos.line) = true) :
    PS X (.Expr (.Call (.Attribute a "append" apos) [.Tuple [.Constant (.int k) kc p1] k1 p3] [] cpos) pos) (tS G B fun V env vh => wa env vh fun x e1 h1 => ∃ xs, x = .fr xs ∧ xs.length < 16777216 ∧ V.nx e1 h1) := by
  have pe := pe_bm (e := .Tuple [.Constant (.int k) kc p1] k1 p3) (cpos := cpos) PySem.F.plainAttrs_list PySem.F.slot_list_append PySem.F.type_list_append mt_append ha (pa_cons (pe_tup (pa_cons (pe_int (i := k)) pa_nil rfl)) pa_nil rfl) hbase rfl hline rfl rfl
  refine (ps_expr pe rfl).imp fun D σ H ⟨ρ, env, vh, V, R, vd, w⟩ => ⟨[], ρ, env, vh, R, ma _ _ _ _ (fun x e1 h1 ⟨xs, ex, hl, z⟩ ρ1 v H1 r => ?_) w⟩
  subst ex
  obtain ⟨l, vs, rfl, h2, m, R1, h3⟩ := r
  refine ⟨.inl ⟨rfl, vs, .of h2⟩, ?_⟩
  have e1 := h3.length
  refine ⟨by rw [sizeLine_eq, List.length_singleton]; omega, fun p hp => ?_⟩
  have sm := same_new (o := .tup [L2.V.int k]) hp
  have R2 := R1.grow sm
  have h4 : upd H1 p (.tup [L2.V.int k]) l = some (.lst vs) := by
    rw [upd_ne (fun e => by rw [← e, h2] at hp; cases hp)]
    exact h2
  have R3 := R2.tmpUpd (u := .lst (vs ++ [.ref p])) trivial
  refine ⟨l, vs, .ref p, rfl, rfl, h4, by rw [sizeLine_eq]; omega, ?_⟩
  exact vd.nx _ _ _ _ _ R3.dropT z
/-! ### extend -/
def rExtA (K : PySem.W.Frag) : V → List V → Hp → VK → Prop := fun x vs H Q => ∃ l b xs zs, x = .ref l ∧ vs = [.ref b] ∧ H l = some (.lst xs) ∧ (SqT K H b zs ∨ H b = some (.lst zs)) ∧ xs.length + zs.length ≤ sizeLine ∧ Q .non (upd H l (.lst (xs ++ zs)))
theorem mt_extA {X : Cx} : MtM X "list.extend" (rExtA X.K) := by
  intro pins s σ H x vs v us Q I rx rv h
  obtain ⟨l, b, xs, zs, rfl, rfl, hH, hB | hB, hz, q⟩ := h
  · cases rx
    obtain ⟨u, rfl, ru⟩ := rv.one
    cases ru
    obtain ⟨z, its, n, r, hl, e⟩ := I.lstM hH
    obtain ⟨its2, r2, ⟨⟨cls, dd, data, sl⟩, ho, hc, n2, hd⟩, hzz⟩ := I.tuple hB
    simp only at hc hd
    subst hc hd
    have hl2 : its2.length = zs.length := (Vals.length r2).symm
    have hsz : its.toArray.size + its2.toArray.size ≤ sizeLine := by rw [List.size_toArray, List.size_toArray]; omega
    have hlong : ¬ (!its.toArray.isEmpty && Builtin.List.listTooLong (its.toArray.size + its2.toArray.size)) = true := by
      rw [notLongL hsz, Bool.and_false]
      exact Bool.false_ne_true
    refine call_meets F.slot_list_extend ⟨_, e, rfl⟩ F.entry_list_extend (F.args_list_extend_2 _ _)
      (list_extend_tup l its.toArray n b its2.toArray n2 dd sl hlong (by rw [List.size_toArray]; omega) (by omega)) ⟨e, ho, ?_⟩
    refine ⟨.non, _, I.lset (its' := its ++ its2) hH e (by simp) (r.append r2) ?_, rfl, q⟩
    rw [List.length_append]
    omega
  · exact mt_extend pins s σ H _ _ v us Q I rx rv ⟨l, b, xs, zs, rfl, rfl, hH, hB, hz, q⟩
theorem ext_seq {K : PySem.W.Frag} (hK : K = G.K) {x : R.D} {ys : List R.D} {v : V} {Z : Addr → Prop} (hx : RD G Z ρ H x v) (e : seqD x = some ys) : ∃ b zs, v = .ref b ∧ (SqT K H b zs ∨ H b = some (.lst zs)) ∧ RDs G Z ρ H ys zs := by
  cases x with
  | tup xs =>
    cases e
    obtain ⟨a, vs, rfl, h1, h2⟩ := hx
    exact ⟨a, vs, rfl, .inl (by rw [hK]; exact h1), h2⟩
  | lst xs =>
    cases e
    obtain ⟨a, vs, rfl, _, h1, h2⟩ := hx
    exact ⟨a, vs, rfl, .inr h1, h2⟩
  | _ => cases e
theorem ext_sh {K : PySem.W.Frag} {n : Nat} {ys : List R.D} {Q : VH → Prop} {a : V} {b : Addr} {zs : List V} {D : VK} (R : Rel G B T ρ env vh σ H) (ha : RD G (ZZ B.F T ρ env σ) ρ H (.ref n) a) (hb : SqT K H b zs ∨ H b = some (.lst zs)) (hx : RDs G (ZZ B.F T ρ env σ) ρ H ys zs) (w : extSh n ys vh Q)
    (f : ∀ vh' H', Rel G B T ρ env vh' σ H' → Q vh' → D .non H') : rExtA K a [.ref b] H D := by
  obtain ⟨p, hp, rfl⟩ := ha
  unfold extSh at w
  split at w
  · rename_i xs hn
    obtain ⟨hl, q⟩ := w
    obtain ⟨vs, h1, h2⟩ := R.ob n _ p hn hp
    have hz : ZZ B.F T ρ env σ p := .inr (.inr (.inl (List.mem_of_getElem? hp)))
    have mu : Mv (ZZ B.F T ρ env σ) ρ H (ZZ B.F T ρ env σ) ρ (upd H p (.lst (vs ++ zs))) := Mv.upd hz h1 trivial
    refine ⟨p, b, vs, zs, rfl, rfl, h1, hb, by rw [sizeLine_eq, ← h2.length, ← hx.length]; exact hl, f _ _ (R.shUpd hn hp trivial (o' := .lst (xs ++ ys)) ⟨_, upd_same, ?_⟩) q⟩
    exact RDs.append (RDs.move mu _ _ h2) (RDs.move mu _ _ hx)
  · exact w.elim
theorem ext_op {K : PySem.W.Frag} {oo : Op} {ys : List R.D} {Q : VE → VH → Prop} {a : V} {b : Addr} {zs : List V} {D : VK} (R : Rel G B T ρ env vh σ H) (ha : OpV G (ZZ B.F T ρ env σ) ρ H σ oo a) (hb : SqT K H b zs ∨ H b = some (.lst zs)) (hx : RDs G (ZZ B.F T ρ env σ) ρ H ys zs) (w : wpExt oo ys env vh Q)
    (f : ∀ env' vh' H', Rel G B T ρ env' vh' σ H' → Q env' vh' → D .non H') : rExtA K a [.ref b] H D := by
  cases oo with
  | dat d =>
    cases d with
    | ref n => exact ext_sh R ha hb hx w fun vh' H' R' q => f _ _ _ R' q
    | _ => exact (show False from w).elim
  | slt i =>
    have ha : σ[i]? = some (some a) := ha
    unfold wpExt at w
    dsimp only at w
    split at w
    · rename_i n hs
      obtain ⟨v, e, hv⟩ := R.st i _ hs
      rw [ha] at e
      cases e
      exact ext_sh R hv hb hx w fun vh' H' R' q => f _ _ _ R' q
    · rename_i xs hs
      obtain ⟨hl, q⟩ := w
      obtain ⟨p, vs, e, h1, h2⟩ := R.st i _ hs
      rw [ha] at e
      cases e
      exact ⟨p, b, vs, zs, rfl, rfl, h1, hb, by rw [sizeLine_eq, ← h2.length, ← hx.length]; exact hl, f _ _ _ (R.ownUpd hs ha h1 (RDs.append h2 hx)) q⟩
    · exact w.elim
theorem rs_ext (o : SOk X G B K Φ Γ fs) {a e : Expr} {apos cpos pos : Pos} {wo : VE → VH → (Op → VE → VH → Prop) → Prop} {we : VE → VH → QE → Prop} (mo : ∀ env vh (Q Q' : Op → VE → VH → Prop), (∀ x e h, Q x e h → Q' x e h) → wo env vh Q → wo env vh Q')
    (me : ∀ env vh (Q Q' : QE), (∀ x e h, Q x e h → Q' x e h) → we env vh Q → we env vh Q') (ho : PE X a (tO G B wo)) (he : PE X e (tD G B we))
    (hbase : attributeBase a "extend" X.env (eval a X.env) = eval a X.env) (hline : (apos.endLine == cpos.line) = true) (hs1 : starEach [e] X.env = (false, eval e X.env) :: starEach [] X.env) :
    PS X (.Expr (.Call (.Attribute a "extend" apos) [e] [] cpos) pos) (tS G B fun V env vh => wo env vh fun oo e1 h1 => isLs oo e1 h1 ∧ we e1 h1 fun x e2 h2 => ∃ ys, seqD x.d = some ys ∧ wpExt oo ys e2 h2 V.nx) := by
  have pe := pe_bm PySem.F.plainAttrs_list PySem.F.slot_list_extend PySem.F.type_list_extend mt_extA ho (pa_cons he pa_nil hs1) hbase (by rw [hs1]; rfl) hline hs1 rfl
  refine (ps_expr pe rfl).imp fun D σ H ⟨ρ, env, vh, V, R, vd, w⟩ => ⟨[], ρ, env, vh, R, mo _ _ _ _ (fun oo e1 h1 ⟨il, z⟩ ρ1 a H1 m1 R1 hoo => ?_) w⟩
  refine ⟨is_ls R1 hoo il, [], ρ1, e1, h1, R1, me _ _ _ _ (fun x e2 h2 ⟨ys, ey, z⟩ ρ2 v H2 r2 => ?_) z⟩
  obtain ⟨m2, R2, hv⟩ := r2.d
  obtain ⟨b, zs, rfl, hb, hys⟩ := ext_seq (K := X.K) o.hK hv ey
  exact ext_op (D := fun _ H => D.nx σ H) R2 (hoo.move m2) hb hys z fun env' vh' H' R' q => vd.nx _ _ _ _ _ R' q

/-! ### if, for, while -/
theorem rs_cond {c : Expr} {a b : List Stmt} {pos : Pos} {wc : VE → VH → QE → Prop} {wa wb : VEnds → VE → VH → Prop} (mc : ∀ env vh (Q Q' : QE), (∀ x e h, Q x e h → Q' x e h) → wc env vh Q → wc env vh Q') (hc : PT X c (tB G B wc)) (ha : PSs X a (tS G B wa)) (hb : PSs X b (tS G B wb)) :
    PS X (.If c a b pos) (tS G B fun V env vh => wc env vh fun x e1 h1 => match x with
      | .v (.bl k) => ifP k (wa V e1 h1) (wb V e1 h1)
      | _ => False) :=
  (ps_if hc ha hb).imp fun D σ H ⟨ρ, env, vh, V, R, vd, w⟩ => ⟨[], ρ, env, vh, R, mc _ _ _ _ (fun x e1 h1 z => by
    split at z
    · rename_i k
      refine ⟨k, rfl, fun ρ' H' m R' => ?_⟩
      cases k with
      | true => exact L2.iteT ⟨ρ', e1, h1, V, R', vd, z⟩
      | false => exact L2.iteF ⟨ρ', e1, h1, V, R', vd, z⟩
    · exact z.elim) w⟩
theorem rs_for (o : SOk X G B K Φ Γ fs) (hc : hotN ∉ fs) {tg iter : Expr} {body : List Stmt} {pos : Pos} {tgI : Tg} {wi : VE → VH → (List R.D → (VH → Prop) → VE → VH → Prop) → Prop} {wb : VEnds → VE → VH → Prop}
    (mi : ∀ env vh (Q Q' : List R.D → (VH → Prop) → VE → VH → Prop), (∀ x s e h, Q x s e h → Q' x s e h) → wi env vh Q → wi env vh Q')
    (hi : PI X tg iter (iD G B wi)) (hg : PG X tg (gOf G.K tgI)) (hb : ∀ B, SOk X G B K Φ Γ fs → PSs X body (tS G B wb)) (hs : ∀ x, foldedSetIterable iter X.env x = pure x) :
    PS X (.For tg iter body [] pos) (tS G B fun V env vh => wi env vh fun items st e1 h1 => forGo (fun d N e h => st h ∧ ∃ e2, bindT tgI d e = some e2 ∧ wb { V with nx := N, ct := N, bk := V.nx } e2 h) items e1 h1 fun e h => st h ∧ V.nx e h) := by
  have hb' : PSs X body (fun D σ H => ∃ B', SOk X G B' K Φ Γ fs ∧ tS G B' wb D σ H) := ⟨fun pins s σ H D I ⟨B', o', z⟩ => (hb B' o').run pins s σ H D I z⟩
  refine (ps_for o.po (o.calm hc) hi hg hb' hs).imp ?_
  rintro D σ H ⟨ρ, env, vh, V, R, vd, w⟩
  refine ⟨[], ρ, env, vh, R, mi _ _ _ _ (fun items st e1 h1 go ρ1 H1 J m1 R1 wk => ?_) w⟩
  generalize hturn : (fun (d : _root_.R.D) (N : VE → VH → Prop) (e : VE) (h : VH) => st h ∧ ∃ e2, bindT tgI d e = some e2 ∧ wb { V with nx := N, ct := N, bk := V.nx } e2 h) = turn at go
  let Pv : Nat → L2.St → Hp → Prop := fun i σ' H' => ∃ ρ' e h, Rel G (B.now [] ρ1 e1 σ H1) [] ρ' e h σ' H' ∧ forGo turn (items.drop i) e h fun e h => st h ∧ V.nx e h
  refine ⟨fun i m σ' H' => m = items.length - i ∧ i ≤ items.length ∧ Pv i σ' H', ⟨items.length, by simp, Nat.zero_le _, ρ1, e1, h1, R1.rebase, go⟩, ?_⟩
  rintro i m σ' H' ⟨rfl, hil, ρ', e, h, S, go'⟩
  have m' := R1.moved S
  by_cases hlt : i < items.length
  · have hdrop0 : items.drop i = items[i] :: items.drop (i + 1) := List.drop_eq_getElem_cons hlt
    have hst : st h := by
      rw [hdrop0] at go'
      subst hturn
      exact go'.1
    refine .inr ⟨wk.go i _ ρ' H' h m' S.ob hst hlt, Pv (i + 1), fun σ'' H'' p' => ⟨items.length - (i + 1), by omega, rfl, hlt, p'⟩, fun x H2 y => ?_⟩
    obtain ⟨d, hd, sm, hx⟩ := wk.yld i _ ρ' H' h x H2 m' S.ob hst hlt y
    have hdrop : items.drop i = d :: items.drop (i + 1) := by
      rw [List.drop_eq_getElem_cons hlt]
      rw [List.getElem?_eq_getElem hlt] at hd
      rw [Option.some.inj hd]
    rw [hdrop] at go'
    subst hturn
    obtain ⟨_, e2, hbd, wbd⟩ := go'
    refine bind_ok (S.grow sm) hx hbd fun σ2 R2 _ _ => ⟨_, o.now hc R1, ρ', e2, h, { V with nx := fun e h => forGo _ (items.drop (i + 1)) e h fun e h => st h ∧ V.nx e h, ct := fun e h => forGo _ (items.drop (i + 1)) e h fun e h => st h ∧ V.nx e h, bk := V.nx }, R2, ⟨fun ρ3 e3 h3 σ3 H3 R3 z => ⟨ρ3, e3, h3, R3, z⟩, fun x v ρ3 h3 H3 r z => vd.rt _ _ _ _ _ (ResF.unbase R1 r) z, fun ρ3 e3 h3 σ3 H3 R3 z => vd.nx _ _ _ _ _ (R1.unbase R3) z, fun ρ3 e3 h3 σ3 H3 R3 z => ⟨ρ3, e3, h3, R3, z⟩⟩, wbd⟩
  · have ee : i = items.length := by omega
    subst ee
    rw [List.drop_length] at go'
    exact .inl ⟨wk.stop _ ρ' H' h m' S.ob go'.1, vd.nx _ _ _ _ _ (R1.unbase S) go'.2⟩
theorem rs_whl (o : SOk X G B K Φ Γ fs) {c : Expr} {body : List Stmt} {pos : Pos} {wc : VE → VH → QE → Prop} {wb : VEnds → VE → VH → Prop} (mc : ∀ env vh (Q Q' : QE), (∀ x e h, Q x e h → Q' x e h) → wc env vh Q → wc env vh Q') (hc : PT X c (tB G B wc)) (hb : PSs X body (tS G B wb)) :
    PS X (.While c body [] pos) (tS G B fun V env vh => ∃ I : Nat → VE → VH → Prop, (∃ n, I n env vh) ∧ ∀ n env vh, I n env vh → wc env vh fun x e1 h1 => match x with
      | .v (.bl k) => ifP k (wb { V with nx := fun e h => ∃ m, m < n ∧ I m e h, ct := fun e h => ∃ m, m < n ∧ I m e h, bk := V.nx } e1 h1) (V.nx e1 h1)
      | _ => False) :=
  (ps_while o.po hc hb).imp fun D σ H ⟨ρ, env, vh, V, R, vd, I, ⟨n0, i0⟩, step⟩ => by
    refine ⟨fun m σ H => ∃ ρ e h, Rel G B [] ρ e h σ H ∧ I m e h, ⟨n0, ρ, env, vh, R, i0⟩, ?_⟩
    rintro m σ H ⟨ρ, e, h, R, hi⟩
    refine ⟨[], ρ, e, h, R, mc _ _ _ _ (fun x e1 h1 z => ?_) (step m e h hi)⟩
    split at z
    · rename_i k
      refine ⟨k, rfl, fun ρ' H' mv R' => ?_⟩
      cases k with
      | true =>
        refine L2.iteT ⟨fun σ' H' => ∃ ρ e h, Rel G B [] ρ e h σ' H' ∧ ∃ m', m' < m ∧ I m' e h, fun σ' H' ⟨ρ, e, h, R, m', l, i⟩ => ⟨m', l, ρ, e, h, R, i⟩, ?_⟩
        exact ⟨ρ', e1, h1, { V with nx := fun e h => ∃ m', m' < m ∧ I m' e h, ct := fun e h => ∃ m', m' < m ∧ I m' e h, bk := V.nx }, R', ⟨fun ρ3 e3 h3 σ3 H3 R3 z => ⟨ρ3, e3, h3, R3, z⟩, vd.rt, vd.nx, fun ρ3 e3 h3 σ3 H3 R3 z => ⟨ρ3, e3, h3, R3, z⟩⟩, z⟩
      | false => exact L2.iteF (vd.nx _ _ _ _ _ R' z)
    · exact z.elim

/-! ### raise, try -/
theorem XF.moveX {Z Z' : Addr → Prop} {ρ' : List Addr} {H' : Hp} {ns : List Str} {d : Option Addr} {xs : List _root_.R.D} (h : XF G Z ρ H ns d xs) (m : Mv Z ρ H Z' ρ' H') (e : ∀ a u, d = some a → H a = some u → H' a = some u) : XF G Z' ρ' H' ns d xs := by
  cases d with
  | none => exact h
  | some a =>
    obtain ⟨nn, ws, vs, h1, h0, h2, h3⟩ := h
    exact ⟨nn, ws, vs, e a _ rfl h1, h0, h2, RDs.move m _ _ h3⟩
theorem rs_raise0 (o : SOk X G B K Φ Γ fs) (hc : hotN ∉ fs) {c : Str} {C : Addr} {p pos pos' : Pos} (hg : Gl X c) (hC : G.cl c = some C) (hf : G.fl c = []) (T : Ex0 X.K X.mg c C) :
    PS X (.Raise (some (.Call (.Name c p) [] [] pos)) none pos') (tS G B fun V env vh => wpS Φ Γ (.raise c []) K V env vh) :=
  (ps_raise (o.calm hc) o.tk (pmk_own0 T hg)).imp fun D σ H ⟨ρ, env, vh, V, R, vd, w⟩ => ⟨c, C, [], [], ρ, env, vh, hC, rfl, R, ⟨rfl, hf⟩, w⟩
theorem rs_raise1 (o : SOk X G B K Φ Γ fs) (hc : hotN ∉ fs) {c f : Str} {C fI : Addr} {p pos pos' : Pos} {e : Expr} {ir : E} (hg : Gl X c) (hC : G.cl c = some C) (hf : G.fl c = [f]) (T : Ex1 X.K X.mg c f C fI)
    (m : ∀ env vh (Q Q' : List _root_.R.D → VE → VH → Prop), (∀ x e h, Q x e h → Q' x e h) → wpEs Φ Γ [ir] K env vh Q → wpEs Φ Γ [ir] K env vh Q') (ha : PA X [e] (tL G B (wpEs Φ Γ [ir] K)))
    (he : starEach [e] X.env = (false, eval e X.env) :: starEach [] X.env) :
    PS X (.Raise (some (.Call (.Name c p) [e] [] pos)) none pos') (tS G B fun V env vh => wpS Φ Γ (.raise c [ir]) K V env vh) := by
  refine (ps_raise (o.calm hc) o.tk (pmk_low T (o.rm hc) ha hg he rfl)).imp ?_
  rintro D σ H ⟨ρ, env, vh, V, R, vd, w⟩
  refine ⟨[], ρ, env, vh, R, wpE_mono ir K false env vh _ _ (fun x e1 h1 z ρ' vs H' mv R' hv => ?_) (show wpE Φ Γ ir K false env vh fun x e1 h1 => K c [x.d] e1 h1 from w)⟩
  obtain ⟨v, r, rfl, h1', hr⟩ := hv
  cases (show r = [] from hr)
  refine ⟨v, rfl, fun d hd => ?_⟩
  have sm : Same H' (upd H' d (.xd [(f, v)])) := same_new hd
  exact ⟨c, C, [x.d], [], ρ', e1, h1, hC, rfl, R'.grow sm, ⟨by rw [hf]; simp, [(f, v)], [v], upd_same, by rw [hf]; rfl, rfl, ⟨v, [], rfl, RD.move (Mv.same sm) _ _ h1', rfl⟩⟩, z⟩

/-- a slot of which nothing is known -/
theorem Rel.setNo {i : Nat} {o : Option V} (R : Rel G B T ρ env vh σ H) : Rel G B T ρ (env.set i .no) vh (σ.set i o) H := by
  have hO : ∀ j a, Own (env.set i .no) (σ.set i o) a j → Own env σ a j := fun j a z => by
    rcases Own.of_set z with ⟨_, ds, e, _⟩ | ⟨_, q⟩
    · cases e
    · exact q
  have m : Mv (ZZ B.F T ρ env σ) ρ H (ZZ B.F T ρ (env.set i .no) (σ.set i o)) ρ H := Mv.less fun a z => by
    rcases z with z | z | z | ⟨j, z⟩
    · exact .inl z
    · exact .inr (.inl z)
    · exact .inr (.inr (.inl z))
    · exact .inr (.inr (.inr ⟨j, hO j a z⟩))
  refine R.weak (fun _ h => h) R.tn hO (by simpa using R.sl) fun j s hj => ?_
  rcases set_getE hj with ⟨e, e2⟩ | ⟨ne, q⟩
  · subst e2
    trivial
  · rw [List.getElem?_set_ne (Ne.symm ne)]
    exact (R.st j s q).move m fun _ _ _ _ => rfl
theorem Rel.dropAll (R : Rel G B T ρ env vh σ H) : Rel G B [] ρ env vh σ H :=
  R.weak (fun _ h => by cases h) List.nodup_nil (fun _ _ h => h) R.sl fun i s h => (R.st i s h).move (Mv.less fun b z => by
    rcases z with z | z | z
    · exact .inl z
    · cases z
    · exact .inr (.inr z)) fun _ _ _ _ => rfl
theorem dropAMv : Mv (ZZ B.F T ρ env σ) ρ H (ZZ B.F [] ρ env σ) ρ H := Mv.less fun b z => by
  rcases z with z | z | z
  · exact .inl z
  · cases z
  · exact .inr (.inr z)
theorem VD.off {V : VEnds} {D : Ends} {o : Option Nat} (vd : VD G B V D) : VD G B (offV o V) (dGone o D) := by
  cases o with
  | none => exact vd
  | some i => exact ⟨fun ρ env vh σ H R z => vd.nx _ _ _ _ _ R.setNo z, vd.rt, fun ρ env vh σ H R z => vd.bk _ _ _ _ _ R.setNo z, fun ρ env vh σ H R z => vd.ct _ _ _ _ _ R.setNo z⟩
/-- what is so when a suite begins -/
def tSu (G : Wd) (B : Base) (Φ : Fns) (Γ : Cns) (tb : List (Str × List Str × List Str)) (o : Option Nat) (su : List S) : Addr → Value → Option Addr → TS := fun a cls d D σ H =>
  ∃ c C ns anc xs ρ env vh V, G.cl c = some C ∧ cls = .ref C ∧ tb.lookup c = some (ns, anc) ∧ ns = G.fl c ∧ Rel G B [] ρ (onE o a env) vh σ H ∧ XF G (ZZ B.F [] ρ (onE o a env) σ) ρ H ns d xs ∧ VD G B (offV o V) D ∧
    wpB Φ (errG Γ ns anc xs a) su noX (offV o V) (onE o a env) vh
/-- a clause -/
inductive HsOk (X : Cx) (G : Wd) (B : Base) (Φ : Fns) (Γ : Cns) (tb : List (Str × List Str × List Str)) : List ExceptHandler → List (Str × Option Nat) → List (List S) → Prop
  | nil : HsOk X G B Φ Γ tb [] [] []
  | plain {x : Str} {b₀ : Stmt} {suite : List Stmt} {np pos' : Pos} {hds : List ExceptHandler} {cs : List (Str × Option Nat)} {su : List S} {sus : List (List S)} (hg : Gl X x) (hx : HdX G X.K X.mg tb x)
      (hsu : ∀ (a : Addr) (oe : Obj) (cls : Value) (d : Option Addr) (pn : List (Addr × Obj)), Zc cls d oe → (∃ vs, oe.data = .fields vs) → PSs (X.suite a ((a, oe) :: pn)) (b₀ :: suite) (tSu G B Φ Γ tb none su a cls d)) (r : HsOk X G B Φ Γ tb hds cs sus) :
      HsOk X G B Φ Γ tb (.ExceptHandler (some (.Name x np)) none (b₀ :: suite) pos' :: hds) ((x, none) :: cs) (su :: sus)
  | named {x n : Str} {i : Nat} {b₀ : Stmt} {suite : List Stmt} {np pos' : Pos} {hds : List ExceptHandler} {cs : List (Str × Option Nat)} {su : List S} {sus : List (List S)} (hi : X.N[i]? = some n) (hln : X.env.kindOf n = some .local) (hg : Gl X x) (hx : HdX G X.K X.mg tb x)
      (hsu : ∀ (a : Addr) (oe : Obj) (cls : Value) (d : Option Addr) (pn : List (Addr × Obj)), Zc cls d oe → (∃ vs, oe.data = .fields vs) → PSs (X.suite a ((a, oe) :: pn)) (b₀ :: suite) (tSu G B Φ Γ tb (some i) su a cls d)) (r : HsOk X G B Φ Γ tb hds cs sus) :
      HsOk X G B Φ Γ tb (.ExceptHandler (some (.Name x np)) (some n) (b₀ :: suite) pos' :: hds) ((x, some i) :: cs) (su :: sus)
/-- the clauses' values and readings -/
theorem hs_gen {tb : List (Str × List Str × List Str)} (hK : X.K = G.K) {hds : List ExceptHandler} {cs : List (Str × Option Nat)} {sus : List (List S)} (h : HsOk X G B Φ Γ tb hds cs sus) :
    ∃ l, HdsG X hds l ∧ ∀ (W : WX) (V : VEnds) (D : Ends) (P : Prop) c C ns anc xs T ρ env vh cls d σ H, VD G B V D → G.cl c = some C → cls = .ref C → tb.lookup c = some (ns, anc) → ns = G.fl c → Rel G B T ρ env vh σ H → XF G (ZZ B.F T ρ env σ) ρ H ns d xs →
      wpH Φ Γ ns anc xs cs sus P V env vh → (P → W cls d σ H) → wGen X.K W D l cls d σ H := by
  induction h with
  | nil => exact ⟨[], .nil, fun W V D P c C ns anc xs T ρ env vh cls d σ H _ _ _ _ _ _ _ w k => k w⟩
  | @plain x b₀ suite np pos' hds cs su sus hg hx hsu r ih =>
    obtain ⟨l, h1, h2⟩ := ih
    obtain ⟨hdb, cv, hm, hex⟩ := hx
    refine ⟨(cv, none, tSu G B Φ Γ tb none su) :: l, .plain ⟨hg, hdb, .inl hm⟩ hsu h1, fun W V D P c C ns anc xs T ρ env vh cls d σ H vd hC ec ht hn R xf w k => ?_⟩
    obtain ⟨_, e2⟩ := hex c C hC ns anc ht
    rw [hK] at h2 ⊢
    subst ec
    have e2' : PySem.W.exmOne G.K (.ref C) cv = some (anc.contains x) := by rw [← hK]; exact e2
    have w' : ifP (anc.contains x) (∀ a, wpB Φ (errG Γ ns anc xs a) su noX (offV none V) (onE none a env) vh) (wpH Φ Γ ns anc xs cs sus P V env vh) := w
    refine ⟨_, e2', fun hb a na => ?_, fun hb => ?_⟩
    · rw [hb] at w'
      exact ⟨c, C, ns, anc, xs, ρ, env, vh, V, hC, rfl, ht, hn, R.dropAll, xf.moveX dropAMv fun _ _ _ h => h, vd.off, w' a⟩
    · rw [hb] at w'
      exact h2 W V D P c C ns anc xs T ρ env vh _ d σ H vd hC rfl ht hn R xf w' k
  | @named x n i b₀ suite np pos' hds cs su sus hi hln hg hx hsu r ih =>
    obtain ⟨l, h1, h2⟩ := ih
    obtain ⟨hdb, cv, hm, hex⟩ := hx
    refine ⟨(cv, some i, tSu G B Φ Γ tb (some i) su) :: l, .named hi hln ⟨hg, hdb, .inl hm⟩ hsu h1, fun W V D P c C ns anc xs T ρ env vh cls d σ H vd hC ec ht hn R xf w k => ?_⟩
    obtain ⟨_, e2⟩ := hex c C hC ns anc ht
    rw [hK] at h2 ⊢
    subst ec
    have e2' : PySem.W.exmOne G.K (.ref C) cv = some (anc.contains x) := by rw [← hK]; exact e2
    have w' : ifP (anc.contains x) (∀ a, wpB Φ (errG Γ ns anc xs a) su noX (offV (some i) V) (onE (some i) a env) vh) (wpH Φ Γ ns anc xs cs sus P V env vh) := w
    refine ⟨_, e2', fun hb a na => ?_, fun hb => ?_⟩
    · rw [hb] at w'
      have R2 : Rel G B [] ρ (env.set i (.val (.adr a))) vh (σ.set i (some (.ref a))) H := (R.dropAll).setVal (d := .adr a) (v := .ref a) rfl
      refine ⟨c, C, ns, anc, xs, ρ, env, vh, V, hC, rfl, ht, hn, R2, xf.moveX (dropAMv.trans (setValMv R.dropAll)) fun _ _ _ h => h, vd.off, w' a⟩
    · rw [hb] at w'
      exact h2 W V D P c C ns anc xs T ρ env vh _ d σ H vd hC rfl ht hn R xf w' k
theorem rs_try (o : SOk X G B K Φ Γ fs) {tb : List (Str × List Str × List Str)} {body : List Stmt} {irs : List S} {h₀ : ExceptHandler} {hds : List ExceptHandler} {cs : List (Str × Option Nat)} {sus : List (List S)} {pos : Pos}
    (htb : ∀ c C, G.cl c = some C → ∀ ns anc, tb.lookup c = some (ns, anc) → ns = G.fl c)
    (hb : ∀ (X' : Cx) (K' : XP), X'.N = X.N → X'.env = X.env → X'.K = X.K → X'.mg = X.mg → SOk X' G B K' Φ Γ fs → PSs X' body (tS G B fun V env vh => wpB Φ Γ irs K' V env vh)) (er : hotN ∉ fs)
    (hh : HsOk X G B Φ Γ tb (h₀ :: hds) cs sus) : PS X (.Try body (h₀ :: hds) [] [] pos) (tS G B fun V env vh => wpS Φ Γ (.tryS tb irs cs sus) K V env vh) := by
  obtain ⟨l, hl, hw⟩ := hs_gen o.hK hh
  let KV : VEnds → XP := fun V c xs e h => match tb.lookup c with
    | some (ns, anc) => wpH Φ Γ ns anc xs cs sus (K c xs e h) V e h
    | none => False
  have key := ps_try_gen (X := X) (body := body) (h₀ := h₀) (hds := hds) (l := l) (pos := pos) (Wout := WK G B K)
    (tb := fun W D σ H => ∃ ρ env vh V, Rel G B [] ρ env vh σ H ∧ VD G B V D ∧ (∀ cls d σ H, WK G B (KV V) cls d σ H → W cls d σ H) ∧ wpB Φ Γ irs (KV V) V env vh)
    o.stk o.frm o.nd o.tk (fun W pn xe tk po => ⟨fun pins s σ H D I ⟨ρ, env, vh, V, R, vd, hW, w⟩ => by
      have o' : SOk (X.tr pn xe) G B (KV V) Φ Γ fs :=
        { hK := o.hK, calm := o.calm, nd := o.nd, hu := o.hu, gu := o.gu, tk := tk.imp hW, fn := o.fn, cn := o.cn, bl := o.bl, mt := o.mt, mkC := o.mkC, ic := o.ic, rm := o.rm, ok := o.ok, er := fun h => absurd h er, po := po, fnT := o.fnT, stk := o.stk, frm := o.frm, exN := o.exN }
      exact (hb (X.tr pn xe) (KV V) rfl rfl rfl rfl o').run pins s σ H D I ⟨ρ, env, vh, V, R, vd, w⟩⟩) hl
  refine key.imp ?_
  rintro D σ H ⟨ρ, env, vh, V, R, vd, w⟩
  refine ⟨ρ, env, vh, V, R, vd, ?_, w⟩
  rintro cls d σ' H' ⟨c, C, xs, T', ρ', env', vh', hC, ec, R', xf, k⟩
  have k : (match tb.lookup c with
    | some (ns, anc) => wpH Φ Γ ns anc xs cs sus (K c xs env' vh') V env' vh'
    | none => False) := k
  cases ht : tb.lookup c with
  | none => rw [ht] at k; exact k.elim
  | some p =>
    obtain ⟨ns, anc⟩ := p
    rw [ht] at k
    have en := htb c C hC ns anc ht
    exact hw (WK G B K) V D (K c xs env' vh') c C ns anc xs T' ρ' env' vh' cls d σ' H' vd hC ec ht en R' (by rw [en]; exact xf) k fun kk => ⟨c, C, xs, T', ρ', env', vh', hC, ec, R', xf, kk⟩
end
end R

set_option autoImplicit false
namespace R
open PySem PySem.Spec PyProof.Rows L2
/-! ## R7: from the text to the small language -/
/-- N: the names of the slots; fs: the defs that may be called -/
structure Tc where
  N : List Str
  fs : List Str
  own : List Str
  sh : List Str
  tb : List (Str × List Str × List Str)
  hs : List Str
  shf : List Str
  nst : Bool
  his : List Str
/-- within an except suite -/
def Tc.hot (c : Tc) : Tc := { c with fs := [hotN], own := [], sh := [] }
def cool (c : Tc) : Bool := !decide (hotN ∈ c.fs)
inductive Md where
  | V | O | T
def visB (sc : Scope) (x : Str) : Bool := match sc.names.lookup x with
  | some .local => true
  | some .cell => true
  | some .free => true
  | _ => false
def glB (sc : Scope) (x : Str) : Bool := decide (sc.names.lookup x = some .globalImplicit)
def okNm (x : Str) : Bool := !(x == ("__debug__" : Str)) && !(x == ("__classdict__" : Str))
/-- the slot of a name that may be read -/
def slotOf (c : Tc) (sc : Scope) (x : Str) : Option Nat := if visB sc x && okNm x then (match c.N.idxOf? x with
  | some i => if decide (c.N[i]? = some x) then some i else none
  | none => none) else none
def plainE : Expr → Bool
  | .Starred _ _ => false
  | _ => true
def plainIx : Expr → Bool
  | .Slice _ _ _ _ => false
  | _ => true
def notSet : Expr → Bool
  | .Set _ _ _ => false
  | _ => true
/-- its test is its value's truth -/
def plainT : Expr → Bool
  | .UnaryOp .Not _ _ => false
  | .BoolOp _ _ _ => false
  | .IfExp _ _ _ _ => false
  | .Compare _ _ _ _ => false
  | _ => true
def trL (f : Expr → Option E) : List Expr → Option (List E)
  | [] => some []
  | e :: es => if plainE e then (match f e, trL f es with
    | some a, some b => some (a :: b)
    | _, _ => none) else none
def bfOf (f : Str) (n : Nat) : Option Bf := match n with
  | 1 => [Bf.len, .int, .bool, .str, .tuple, .list, .abs, .sum, .all, .any, .sorted, .min1, .max1, .repr].find? fun g => decide (bltN g = f)
  | 2 => [Bf.min2, .max2].find? fun g => decide (bltN g = f)
  | _ => none
def tyOf (sc : Scope) : Expr → Option String
  | .Name x _ => match (["int", "bool", "str", "tuple", "list", "dict"] : List String).find? (fun n => decide (Str.ofString n = x)) with
    | some n => if glB sc x && okTy n then some n else none
    | none => none
  | _ => none
def tysOf' (sc : Scope) : List Expr → Option (List String)
  | [] => some []
  | e :: es => match tyOf sc e, tysOf' sc es with
    | some a, some b => some (a :: b)
    | _, _ => none
/-- a finished value's form: fin -/
def finK : E → Bool
  | .non => true
  | .bl _ => true
  | .int _ => true
  | .str _ => true
  | .glo _ => true
  | .tup _ => true
  | .lst _ => true
  | .bin _ _ _ => true
  | .neg _ => true
  | .idx _ _ => true
  | .sli _ _ _ => true
  | .call _ _ => true
  | .blt _ _ => true
  | .isi _ _ => true
  | .lc _ _ _ _ _ _ => true
  | .attr _ _ => true
  | .dct _ _ => true
  | .fld _ _ => true
  | .meth _ _ _ => true
  | .mk _ _ => true
  | .shr _ => true
  | .join _ _ => true
  | .lrg _ _ => true
  | .isc _ _ => true
  | .isx _ _ => true
  | .sset _ => true
  | .bix _ _ => true
  | .eqI _ _ => true
  | _ => false
def noCall : Expr → Bool
  | .Call _ _ _ _ => false
  | _ => true
theorem attr_no {a : Expr} {m : Str} {env : Env} {w : Sem Value} (h : noCall a = true) : attributeBase a m env w = w := by
  cases a <;> first | rfl | cases h
/-- a new list -/
def isNewL : Expr → Bool
  | .List _ _ => true
  | .ListComp _ _ _ _ => true
  | .Call (.Name x _) _ _ _ => decide (x = ("list" : Str))
  | _ => false
def isFresh : Expr → Bool
  | .List _ _ => true
  | .ListComp _ _ _ _ => true
  | .BinOp _ _ _ _ => true
  | .Call _ _ _ _ => true
  | .Subscript _ (.Slice _ _ _ _) _ => true
  | _ => false
def shrIf (b : Bool) (x : Option E) : Option E := match b with
  | true => x.map .shr
  | false => x
/-- an item of a new list: shared if it is a new list -/
def trSh (c : Tc) (f : Expr → Option E) (e : Expr) : Option E := shrIf (c.nst && isNewL e) (f e)
/-- the names of a comprehension's own -/
def ownOf (N : List Str) (scope : Scope) : List (Str × Nat) := scope.names.filterMap fun y => match y.2 with
  | .local => (N.idxOf? y.1).map fun i => (y.1, i)
  | .cell => (N.idxOf? y.1).map fun i => (y.1, i)
  | _ => none
/-- a name that may be written; cl: the cells that are the block's own -/
def wrIx (c : Tc) (sc : Scope) (cl : Str → Bool) (x : Str) : Option Nat := match c.N.idxOf? x with
  | some i => if decide (c.N[i]? = some x) && (decide (sc.names.lookup x = some .local) || (decide (sc.names.lookup x = some .cell) && cl x)) then some i else none
  | none => none
def wrIxs (c : Tc) (sc : Scope) (cl : Str → Bool) : List Expr → Option (List Nat)
  | [] => some []
  | .Name x _ :: es => match wrIx c sc cl x, wrIxs c sc cl es with
    | some i, some is => some (i :: is)
    | _, _ => none
  | _ :: _ => none
def trTg (c : Tc) (sc : Scope) (cl : Str → Bool) : Expr → Option Tg
  | .Name x _ => match wrIx c sc cl x with
    | some i => some (.one i)
    | none => none
  | .Tuple es _ _ => match wrIxs c sc cl es with
    | some is => some (.many is)
    | none => none
  | _ => none
def isBor : E → Bool
  | .bor _ => true
  | _ => false
def noBor (e : Option E) : Option E := match e with
  | some e => if isBor e then none else some e
  | none => none
def guardO {α : Type} (b : Bool) (x : Option α) : Option α := match b with
  | true => x
  | false => none
/-- what is gone through -/
def isTup : Expr → Bool
  | .Tuple _ _ _ => true
  | _ => false
def trRg (f : Expr → Option E) (args : List Expr) : Option (Ik × List E) := match args with
  | [a] => (trL f [a]).map fun es => (.rng1, es)
  | [a, b] => (trL f [a, b]).map fun es => (.rng2, es)
  | [a, b, c] => (trL f [a, b, c]).map fun es => (.rng3, es)
  | _ => none
/-- a name or attribute of a shared list -/
def isSh (c : Tc) : Expr → Bool
  | .Name x _ => c.sh.contains x
  | .Attribute _ m _ => c.shf.contains m && decide (pfN m ∈ c.fs)
  | _ => false
def trZp (c : Tc) (f : Expr → Option E) (args : List Expr) : Option (Ik × List E) := match args with
  | [a, b] => (trL f [a, b]).map fun es => (if isSh c a || isSh c b then .zipS else .zip, es)
  | _ => none
def trEn (f : Expr → Option E) (args : List Expr) : Option (Ik × List E) := match args with
  | [a] => (trL f [a]).map fun es => (.enum, es)
  | _ => none
def trSeq (c : Tc) (f : Expr → Option E) (e : Expr) : Option (Ik × List E) := (f e).map fun x => (if isSh c e then .seqS else .seq, [x])
def trI (c : Tc) (f : Expr → Option E) (sc : Scope) (tg : Expr) : Expr → Option (Ik × List E)
  | .Call (.Name x p) args [] pos => if decide (x = ("range" : Str)) then guardO (glB sc x) (trRg f args)
    else if decide (x = ("enumerate" : Str)) then guardO (glB sc x && isTup tg) (trEn f args)
    else if decide (x = ("zip" : Str)) then guardO (glB sc x && isTup tg) (trZp c f args)
    else trSeq c f (.Call (.Name x p) args [] pos)
  | e => guardO (notSet e) (trSeq c f e)
def o2 {α β γ : Type} (f : α → β → γ) : Option α → Option β → Option γ
  | some a, some b => some (f a b)
  | _, _ => none
def o3 {α β γ δ : Type} (f : α → β → γ → δ) : Option α → Option β → Option γ → Option δ
  | some a, some b, some c => some (f a b c)
  | _, _, _ => none
def trP (f : Expr → Option E) : Option Expr → Option E
  | none => some .skip
  | some e => f e
def trIsi (fO : Expr → Option E) (sc : Scope) (args : List Expr) : Option E := match args with
  | [a, .Tuple es k p] => guardO (plainE a && decide (es.length ≤ 1000)) (o2 .isi (fO a) (tysOf' sc es))
  | [a, t] => guardO (plainE a) (o2 (fun x n => .isi x [n]) (fO a) (tyOf sc t))
  | _ => none
def trBlt (fO : Expr → Option E) (f : Str) (args : List Expr) : Option E := match bfOf f args.length with
  | some g => (trL fO args).map (.blt g)
  | none => none
def trIsc (c : Tc) (fO : Expr → Option E) (sc : Scope) (args : List Expr) : Option E := match args with
  | [a, .Name x _] => guardO (plainE a && (glB sc x && decide (pcN x ∈ c.fs))) ((fO a).map fun u => .isc u x)
  | _ => none
/-- list(range(a, b)) -/
def trLrg (fV : Expr → Option E) (sc : Scope) (args : List Expr) : Option E := match args with
  | [.Call (.Name r _) [a, b] [] _] => guardO (decide (r = ("range" : Str)) && (glB sc r && (plainE a && plainE b))) (o2 .lrg (fV a) (fV b))
  | _ => none
/-- sorted(set(a)) -/
def trSset (fO : Expr → Option E) (sc : Scope) (args : List Expr) : Option E := match args with
  | [.Call (.Name r _) [a] [] _] => guardO (decide (r = ("set" : Str)) && (glB sc r && plainE a)) ((fO a).map .sset)
  | _ => none
/-- isinstance of the error that a suite holds -/
def trIsx (c : Tc) (sc : Scope) (args : List Expr) : Option E := match args with
  | [.Name x _, .Name y _] => guardO (!cool c && (glB sc y && decide (y ∈ c.his))) ((slotOf c sc x).map fun i => .isx i y)
  | _ => none
def orO {α : Type} : Option α → Option α → Option α
  | some x, _ => some x
  | none, y => y
def trCall (c : Tc) (fV fO : Expr → Option E) (sc : Scope) (f : Str) (args : List Expr) : Option E :=
  guardO (glB sc f) (if decide (f ∈ c.fs ∧ okF f = true) then (trL fV args).map (.call f) else if decide (pcN f ∈ c.fs) then (trL fV args).map (.mk f) else if decide (f = ("isinstance" : Str)) then orO (trIsi fO sc args) (orO (trIsc c fO sc args) (trIsx c sc args)) else guardO (cool c) (orO (if decide (f = ("list" : Str)) then trLrg fV sc args else none) (orO (if decide (f = ("sorted" : Str)) then trSset fO sc args else none) (trBlt fO f args))))
def subB (is js : List Nat) : Bool := is.all fun i => decide (i ∈ js)
def trO1 (c : Tc) (f : Md → Scope → Expr → Option E) (sc : Scope) (e : Expr) : Option E := match e with
  | .Name x p => match slotOf c sc x with
    | some i => some (.bor i)
    | none => noBor (f .V sc (.Name x p))
  | e => noBor (f .V sc e)
def trT1 (c : Tc) (f : Md → Scope → Expr → Option E) (sc : Scope) (e : Expr) : Option E := match e with
  | .UnaryOp .Not a _ => (f .T sc a).map .not
  | .BoolOp op [a] _ => f .T sc a
  | .BoolOp .And (a :: b :: rest) pos => o2 .and (f .T sc a) (f .T sc (.BoolOp .And (b :: rest) pos))
  | .BoolOp .Or (a :: b :: rest) pos => o2 .or (f .T sc a) (f .T sc (.BoolOp .Or (b :: rest) pos))
  | .IfExp t a b _ => o3 .ite (f .T sc t) (f .T sc a) (f .T sc b)
  | .Compare a [op] [b] _ => guardO (!behindInMarks op b) (o2 (.cmp op) (f .O sc a) (f .O sc b))
  | .Compare a [op, op'] [b, d] _ => guardO (!lastMarks [op, op'] [b, d]) (o3 (.chain op op') (f .O sc a) (f .O sc b) (f .O sc d))
  | .Name x p => match slotOf c sc x with
    | some i => some (.bor i)
    | none => match f .V sc (.Name x p) with
      | some ir => guardO (finK ir) (some ir)
      | none => none
  | e => guardO (plainT e) (match f .V sc e with
    | some ir => guardO (finK ir) (some ir)
    | none => none)
def trLc (c : Tc) (f : Md → Scope → Expr → Option E) (sc : Scope) (elt : Expr) (gens : List Comprehension) (scope : Scope) : Option E := match gens with
  | [⟨tg, iter, ifs, as⟩] =>
    match trTg c (relS scope sc) (fun x => decide (scope.names.lookup x = some .cell)) tg, trI c (f .V sc) sc tg iter, trSh c (f .V (relS scope sc)) elt, trL (f .T (relS scope sc)) ifs with
    | some tgI, some (k, es), some el, some cs => guardO (cool c && decide (as = 0) && blkC c.N sc scope (ownOf c.N scope) && subB (tgIx tgI) ((ownOf c.N scope).map (·.2)) && decide (cs.length ≤ 1)) (some (.lc el tgI ((ownOf c.N scope).map (·.2)) k es cs))
    | _, _, _, _ => none
  | _ => none
def trAttr (c : Tc) (f : Md → Scope → Expr → Option E) (sc : Scope) (a : Expr) (m : Str) : Option E :=
  if decide (pfN m ∈ c.fs) then guardO (noCall a) ((f .O sc a).map fun x => .fld x m) else match a with
    | .Name x _ => (slotOf c sc x).map fun i => .attr (.bor i) m
    | _ => none
/-- x.join(..) -/
def trJoin (c : Tc) (f : Md → Scope → Expr → Option E) (sc : Scope) (a : Expr) (args : List Expr) (apos pos : Pos) : Option E := match args with
  | [e] => guardO (noCall a && ((apos.endLine == pos.line) && plainE e)) (o2 .join (f .V sc a) (f .O sc e))
  | _ => none
def trMeth0 (c : Tc) (f : Md → Scope → Expr → Option E) (sc : Scope) (a : Expr) (m : Str) (args : List Expr) (apos pos : Pos) : Option E :=
  guardO (decide (pmN m ∈ c.fs) && noCall a && (apos.endLine == pos.line) && decide (args.length ≤ 20)) (o2 (fun x es => .meth x m es) (f .O sc a) (trL (f .V sc) args))
def trBix (f : Md → Scope → Expr → Option E) (sc : Scope) (a : Expr) (k : Bool) (args : List Expr) (apos pos : Pos) : Option E := match args with
  | [.Constant (.bool true) _ _] => guardO (noCall a && (apos.endLine == pos.line)) ((f .O sc a).map (.bix k))
  | _ => none
def trMeth (c : Tc) (f : Md → Scope → Expr → Option E) (sc : Scope) (a : Expr) (m : Str) (args : List Expr) (apos pos : Pos) : Option E :=
  orO (trMeth0 c f sc a m args apos pos) (if decide (m = ("join" : Str)) then trJoin c f sc a args apos pos else if decide (m = ("count" : Str)) then trBix f sc a false args apos pos else if decide (m = ("index" : Str)) then trBix f sc a true args apos pos else none)
/-- C(..) == b, C with an own == -/
def isEqI (c : Tc) (a : Expr) (op : CmpOp) : Bool := match a with
  | .Call (.Name g _) _ _ _ => decide (op = .Eq) && decide (pmN "__eq__" ∈ c.fs) && decide (pcN g ∈ c.fs)
  | _ => false
theorem isEqI_ok {c : Tc} {a : Expr} {op : CmpOp} (h : isEqI c a op = true) : op = .Eq ∧ pmN "__eq__" ∈ c.fs := by
  unfold isEqI at h
  split at h
  · rw [Bool.and_eq_true, Bool.and_eq_true] at h
    exact ⟨of_decide_eq_true h.1.1, of_decide_eq_true h.1.2⟩
  · cases h
def trV1 (c : Tc) (f : Md → Scope → Expr → Option E) (sc : Scope) (e : Expr) : Option E := match e with
  | .Constant .none _ _ => some .non
  | .Constant (.bool b) _ _ => some (.bl b)
  | .Constant (.int i) _ _ => some (.int i)
  | .Constant (.str x) _ _ => some (.str x)
  | .Name x _ => match slotOf c sc x with
    | some i => some (.var i)
    | none => guardO (glB sc x && okG x) (some (.glo x))
  | .Tuple es _ _ => (trL (f .V sc) es).map .tup
  | .List es _ => (trL (trSh c (f .V sc)) es).map .lst
  | .BinOp a op b _ => o2 (.bin op) (f .O sc a) (f .O sc b)
  | .UnaryOp .USub a _ => (f .V sc a).map .neg
  | .UnaryOp .Not a _ => (f .O sc a).map .not
  | .BoolOp op [a] _ => f .V sc a
  | .BoolOp .And (a :: b :: rest) pos => o2 .and (f .V sc a) (f .V sc (.BoolOp .And (b :: rest) pos))
  | .BoolOp .Or (a :: b :: rest) pos => o2 .or (f .V sc a) (f .V sc (.BoolOp .Or (b :: rest) pos))
  | .IfExp t a b _ => o3 .ite (f .T sc t) (f .V sc a) (f .V sc b)
  | .Compare a [op] [b] _ => if isEqI c a op then guardO (!behindInMarks op b) (o2 .eqI (f .O sc a) (f .O sc b)) else guardO (!behindInMarks op b) (o2 (.cmp op) (f .O sc a) (f .O sc b))
  | .Compare a [op, op'] [b, d] _ => guardO (!lastMarks [op, op'] [b, d]) (o3 (.chain op op') (f .O sc a) (f .O sc b) (f .O sc d))
  | .Subscript a (.Slice lo hi none _) _ => o3 .sli (f .O sc a) (trP (f .V sc) lo) (trP (f .V sc) hi)
  | .Subscript a b _ => guardO (plainIx b) (o2 .idx (f .O sc a) (f .O sc b))
  | .Call (.Name g p) args [] pos => trCall c (f .V sc) (f .O sc) sc g args
  | .ListComp elt gens scope pos => trLc c f sc elt gens scope
  | .Attribute a m _ => trAttr c f sc a m
  | .Call (.Attribute a m apos) args [] pos => trMeth c f sc a m args apos pos
  | .Dict keys values _ => guardO (cool c && keys.all (·.isSome) && decide (keys.length = values.length) && decide (keys.length ≤ 15)) (o2 .dct (keysOf keys) (trL (f .V sc) values))
  | _ => none
def tr (c : Tc) : Nat → Md → Scope → Expr → Option E
  | 0, _, _, _ => none
  | n + 1, .O, sc, e => trO1 c (tr c n) sc e
  | n + 1, .T, sc, e => trT1 c (tr c n) sc e
  | n + 1, .V, sc, e => trV1 c (tr c n) sc e
end R

set_option autoImplicit false
namespace R
open PySem PySem.Spec PyProof.Rows L2
/-! ## R8: what the small language says of an expression is so -/
structure Cok (X : Cx) (G : Wd) (B : Base) (K : XP) (Φ : Fns) (Γ : Cns) (c : Tc) (sc : Scope) : Prop where
  o : XOk X G B K Φ Γ c.fs
  hN : X.N = c.N
  hs : X.env.scope = sc
  isx : cool c = false → ∀ x, x ∈ c.his → IsxR X G B Γ x
section
variable {X : Cx} {G : Wd} {B : Base} {K : XP} {Φ : Fns} {Γ : Cns} {c : Tc} {sc : Scope}
theorem slot_ok (k : Cok X G B K Φ Γ c sc) {x : Str} {i : Nat} (h : slotOf c sc x = some i) : X.N[i]? = some x ∧ Vis X.env.scope x ∧ (x == ("__debug__" : Str)) = false ∧ (x == ("__classdict__" : Str)) = false := by
  unfold slotOf at h
  split at h
  · rename_i h1
    rw [Bool.and_eq_true] at h1
    split at h
    · split at h
      · rename_i h2
        cases h
        have h3 := h1.2
        unfold okNm at h3
        rw [Bool.and_eq_true, Bool.not_eq_true', Bool.not_eq_true'] at h3
        refine ⟨by rw [k.hN]; exact of_decide_eq_true h2, ?_, h3.1, h3.2⟩
        rw [k.hs]
        have h4 := h1.1
        unfold visB at h4
        split at h4
        · rename_i e; exact .inl e
        · rename_i e; exact .inr (.inl e)
        · rename_i e; exact .inr (.inr e)
        · cases h4
      · cases h
    · cases h
  · cases h
theorem pe_slot (k : Cok X G B K Φ Γ c sc) {x : Str} {i : Nat} {p : Pos} (h : slotOf c sc x = some i) : PE X (.Name x p) (tVar i) := by
  obtain ⟨h1, h2, h3, h4⟩ := slot_ok k h
  exact pe_var h1 h2 h3 h4
theorem gl_ok (k : Cok X G B K Φ Γ c sc) {x : Str} (h : glB sc x = true) : Gl X x := by
  show X.env.scope.names.lookup x = _
  rw [k.hs]
  exact of_decide_eq_true h
theorem star_cons {e : Expr} {es : List Expr} {env : Env} (h : plainE e = true) : starEach (e :: es) env = (false, eval e env) :: starEach es env := by
  cases e <;> first | rfl | cases h
theorem back_any {env : Env} {pos : Pos} : ∀ {es : List Expr}, es.all plainE = true → (backTo pos (starEach es env)).any (·.1) = false
  | [], _ => rfl
  | e :: es, h => by
    rw [List.all_cons, Bool.and_eq_true] at h
    rw [star_cons h.1]
    show (false || (backTo pos (starEach es env)).any (·.1)) = false
    rw [back_any h.2]
    rfl
theorem fin_eq {ir : E} (h : finK ir = true) {K : XP} {env : VE} {vh : VH} {Q : QE} : wpE Φ Γ ir K true env vh Q = wpE Φ Γ ir K false env vh fun x e h => fin true x e h Q := by
  cases ir <;> first | rfl | cases h
theorem true_eq {e : Expr} (h : plainT e = true) (env : Env) : ∀ whole, isTrue e env whole = (do let v ← whole; standAt e.pos; holding [v] (truthy v)) := by
  intro whole
  cases e with
  | UnaryOp op a p => cases op <;> first | rfl | cases h
  | BoolOp _ _ _ => cases h
  | IfExp _ _ _ _ => cases h
  | Compare _ _ _ _ => cases h
  | _ => rfl
theorem plainIx_ok {b : Expr} (h : plainIx b = true) : PlainIx b := by
  intro o i
  cases b <;> first | rfl | cases h
theorem notSet_ok {e : Expr} (h : notSet e = true) (env : Env) : ∀ x, foldedSetIterable e env x = pure x := by
  intro x
  cases e <;> first | rfl | cases h
theorem mE (ir : E) (K : XP) (t : Bool) : ∀ env vh (Q Q' : QE), (∀ x e h, Q x e h → Q' x e h) → wpE Φ Γ ir K t env vh Q → wpE Φ Γ ir K t env vh Q' := wpE_mono ir K t
theorem mO (ir : E) (K : XP) : ∀ env vh (Q Q' : Op → VE → VH → Prop), (∀ x e h, Q x e h → Q' x e h) → asO ir (wpE Φ Γ ir) K env vh Q → asO ir (wpE Φ Γ ir) K env vh Q' := fun env vh Q Q' => asO_mono (wpE_mono ir K false env vh)
theorem mEs (irs : List E) (K : XP) : ∀ env vh (Q Q' : List D → VE → VH → Prop), (∀ x e h, Q x e h → Q' x e h) → wpEs Φ Γ irs K env vh Q → wpEs Φ Γ irs K env vh Q' := wpEs_mono irs K
theorem mOs (irs : List E) (K : XP) : ∀ env vh (Q Q' : List Op → VE → VH → Prop), (∀ x e h, Q x e h → Q' x e h) → wpOs Φ Γ irs K env vh Q → wpOs Φ Γ irs K env vh Q' := wpOs_mono irs K
abbrev OkV (X : Cx) (G : Wd) (B : Base) (K : XP) (Φ : Fns) (Γ : Cns) (e : Expr) (ir : E) : Prop := PE X e (tD G B (wpE Φ Γ ir K false))
abbrev OkO (X : Cx) (G : Wd) (B : Base) (K : XP) (Φ : Fns) (Γ : Cns) (e : Expr) (ir : E) : Prop := PE X e (tO G B (asO ir (wpE Φ Γ ir) K))
abbrev OkT (X : Cx) (G : Wd) (B : Base) (K : XP) (Φ : Fns) (Γ : Cns) (e : Expr) (ir : E) : Prop := PT X e (tB G B (wpE Φ Γ ir K true)) ∧ ∀ op vs pos, e = .BoolOp op vs pos → PW X e (tB G B (wpE Φ Γ ir K true))
theorem asO_no {ir : E} (h : isBor ir = false) {w : XP → Bool → VE → VH → QE → Prop} {K : XP} : asO ir w K = fun env vh Q => w K false env vh fun x e1 h1 => Q (.dat x.d) e1 h1 := by
  cases ir <;> first | rfl | cases h
theorem okO_of {e : Expr} {ir : E} (h : OkV X G B K Φ Γ e ir) (hb : isBor ir = false) : OkO X G B K Φ Γ e ir := by
  unfold OkO
  rw [asO_no hb]
  exact ro_val h (mE ir K false)
theorem noBor_ok {o : Option E} {ir : E} (h : noBor o = some ir) : o = some ir ∧ isBor ir = false := by
  unfold noBor at h
  split at h
  · split at h
    · cases h
    · rename_i e hb
      cases h
      exact ⟨rfl, by simpa using hb⟩
  · cases h
theorem o2_ok {α β γ : Type} {f : α → β → γ} {a : Option α} {b : Option β} {r : γ} (h : o2 f a b = some r) : ∃ x y, a = some x ∧ b = some y ∧ r = f x y := by
  cases a <;> cases b <;> first | (cases h; done) | (cases h; exact ⟨_, _, rfl, rfl, rfl⟩)
theorem o3_ok {α β γ δ : Type} {f : α → β → γ → δ} {a : Option α} {b : Option β} {c : Option γ} {r : δ} (h : o3 f a b c = some r) : ∃ x y z, a = some x ∧ b = some y ∧ c = some z ∧ r = f x y z := by
  cases a <;> cases b <;> cases c <;> first | (cases h; done) | (cases h; exact ⟨_, _, _, rfl, rfl, rfl, rfl⟩)
theorem guard_ok {α : Type} {b : Bool} {x : Option α} {r : α} (h : guardO b x = some r) : b = true ∧ x = some r := by
  cases b
  · cases h
  · exact ⟨rfl, h⟩
theorem map_ok {α β : Type} {f : α → β} {a : Option α} {r : β} (h : a.map f = some r) : ∃ x, a = some x ∧ r = f x := by
  cases a
  · cases h
  · cases h; exact ⟨_, rfl, rfl⟩
theorem trL_cons {f : Expr → Option E} {e : Expr} {es : List Expr} {irs : List E} (h : trL f (e :: es) = some irs) : ∃ a b, irs = a :: b ∧ plainE e = true ∧ f e = some a ∧ trL f es = some b := by
  have h : (if plainE e then (match f e, trL f es with
    | some a, some b => some (a :: b)
    | _, _ => none) else none) = some irs := h
  split at h
  · rename_i hp
    split at h
    · rename_i a b h1 h2
      cases h
      exact ⟨a, b, rfl, hp, h1, h2⟩
    · cases h
  · cases h
theorem trL_plain {f : Expr → Option E} : ∀ {es : List Expr} {irs : List E}, trL f es = some irs → es.all plainE = true
  | [], _, _ => rfl
  | e :: es, irs, h => by
    obtain ⟨a, b, _, h1, _, h3⟩ := trL_cons h
    rw [List.all_cons, h1, trL_plain h3]
    rfl
theorem trL_V {f : Expr → Option E} (hf : ∀ e ir, f e = some ir → OkV X G B K Φ Γ e ir) : ∀ {es : List Expr} {irs : List E}, trL f es = some irs → PA X es (tL G B (wpEs Φ Γ irs K))
  | [], irs, h => by
    cases h
    exact ra_nil
  | e :: es, irs, h => by
    obtain ⟨a, b, rfl, h1, h2, h3⟩ := trL_cons h
    exact ra_cons (mE a K false) (mEs b K) (hf e a h2) (trL_V hf h3) (star_cons h1)
theorem trL_O {f : Expr → Option E} (hf : ∀ e ir, f e = some ir → OkO X G B K Φ Γ e ir) : ∀ {es : List Expr} {irs : List E}, trL f es = some irs → PA X es (tOs G B (wpOs Φ Γ irs K))
  | [], irs, h => by
    cases h
    exact ros_nil
  | e :: es, irs, h => by
    obtain ⟨a, b, rfl, h1, h2, h3⟩ := trL_cons h
    exact ros_cons (mO a K) (mOs b K) (hf e a h2) (trL_O hf h3) (star_cons h1)
theorem trL_P {f : Expr → Option E} {R : Expr → E → Prop} (hf : ∀ e ir, f e = some ir → R e ir) : ∀ {es : List Expr} {irs : List E}, trL f es = some irs → Paired R es irs
  | [], irs, h => by
    cases h
    exact .nil
  | e :: es, irs, h => by
    obtain ⟨a, b, rfl, h1, h2, h3⟩ := trL_cons h
    exact .cons (hf e a h2) (trL_P hf h3)
theorem keysOf_len : ∀ {keys : List (Option Expr)} {ks : List Key}, keysOf keys = some ks → ks.length = keys.length
  | [], ks, h => by
    cases h
    rfl
  | k :: keys, ks, h => by
    unfold keysOf at h
    split at h
    · rename_i e; cases e
    · rename_i e0 r e
      cases e
      split at h
      · rename_i k' ks' h0 h1
        cases h
        rw [List.length_cons, List.length_cons, keysOf_len h1]
      · cases h
    · cases h
theorem tyOf_ok (k : Cok X G B K Φ Γ c sc) {e : Expr} {n : String} (h : tyOf sc e = some n) : ∃ p, e = .Name (Str.ofString n) p ∧ okTy n = true ∧ Gl X (Str.ofString n) := by
  unfold tyOf at h
  split at h
  · rename_i x p
    split at h
    · rename_i n' hn
      split at h
      · rename_i hg
        cases h
        rw [Bool.and_eq_true] at hg
        have e := List.find?_some hn
        have e : Str.ofString n = x := of_decide_eq_true e
        subst e
        exact ⟨p, rfl, hg.2, gl_ok k hg.1⟩
      · cases h
    · cases h
  · cases h
theorem tysOf_ok (k : Cok X G B K Φ Γ c sc) : ∀ {es : List Expr} {ns : List String}, tysOf' sc es = some ns → Paired (fun n e => ∃ p, e = Expr.Name (Str.ofString n) p ∧ okTy n = true ∧ Gl X (Str.ofString n)) ns es
  | [], ns, h => by
    cases h
    exact .nil
  | e :: es, ns, h => by
    unfold tysOf' at h
    split at h
    · rename_i a b h1 h2
      cases h
      exact .cons (tyOf_ok k h1) (tysOf_ok k h2)
    · cases h
theorem bf_ok {f : Str} {n : Nat} {g : Bf} (h : bfOf f n = some g) : f = bltN g := by
  unfold bfOf at h
  split at h
  · have e := List.find?_some h
    exact (of_decide_eq_true e).symm
  · have e := List.find?_some h
    exact (of_decide_eq_true e).symm
  · cases h
theorem pairLen {α β : Type} {r : α → β → Prop} {as : List α} {bs : List β} (h : Paired r as bs) : as.length = bs.length := by
  induction h with
  | nil => rfl
  | cons _ _ ih => rw [List.length_cons, List.length_cons, ih]
theorem trIsi_ok (k : Cok X G B K Φ Γ c sc) {fO : Expr → Option E} {args : List Expr} {ir : E} {p pos : Pos} (hO : ∀ e ir, fO e = some ir → OkO X G B K Φ Γ e ir) (hg : Gl X ("isinstance" : Str))
    (h : trIsi fO sc args = some ir) : OkV X G B K Φ Γ (.Call (.Name "isinstance" p) args [] pos) ir := by
  unfold trIsi at h
  split at h
  · rename_i a es kk p2
    obtain ⟨hp, h⟩ := guard_ok h
    rw [Bool.and_eq_true] at hp
    obtain ⟨x, ns, h1, h2, rfl⟩ := o2_ok h
    have ht := tysOf_ok k h2
    have hl : ns.length ≤ 1000 := by
      rw [pairLen ht]
      exact of_decide_eq_true hp.2
    exact re_isiT k.o (mO x K) (hO _ _ h1) hg ht hl (star_cons hp.1)
  · rename_i a t _
    obtain ⟨hp, h⟩ := guard_ok h
    obtain ⟨x, n, h1, h2, rfl⟩ := o2_ok h
    obtain ⟨p2, rfl, h3, h4⟩ := tyOf_ok k h2
    exact re_isi1 k.o (mO x K) (hO _ _ h1) hg h4 h3 (star_cons hp)
  · cases h
theorem cool_ok {c : Tc} (h : cool c = true) : hotN ∉ c.fs := by
  unfold cool at h
  simpa using h
theorem plain_star : ∀ {es : List Expr}, es.all plainE = true → es.all (fun e => match e with
      | .Starred _ _ => false
      | _ => true) = true
  | [], _ => rfl
  | e :: es, h => by
    rw [List.all_cons, Bool.and_eq_true] at h ⊢
    refine ⟨?_, plain_star h.2⟩
    have := h.1
    cases e <;> first | rfl | cases this
theorem shrIf_ok {b : Bool} {e : Expr} {o : Option E} {ir : E} (hV : ∀ ir, o = some ir → OkV X G B K Φ Γ e ir) (h : shrIf b o = some ir) : OkV X G B K Φ Γ e ir := by
  unfold shrIf at h
  split at h
  · obtain ⟨u, h1, rfl⟩ := map_ok h
    exact re_shr (mE u K false) (hV _ h1)
  · exact hV _ h
theorem trSh_ok {c : Tc} {f : Expr → Option E} (hV : ∀ e ir, f e = some ir → OkV X G B K Φ Γ e ir) (e : Expr) (ir : E) (h : trSh c f e = some ir) : OkV X G B K Φ Γ e ir := shrIf_ok (hV e) h
theorem orO_ok {α : Type} {a b : Option α} {x : α} (h : orO a b = some x) : a = some x ∨ b = some x := by
  cases a with
  | none => exact .inr h
  | some y => exact .inl h
theorem trIsc_ok (k : Cok X G B K Φ Γ c sc) {fO : Expr → Option E} {args : List Expr} {ir : E} {p pos : Pos} (hO : ∀ e ir, fO e = some ir → OkO X G B K Φ Γ e ir) (hg : Gl X ("isinstance" : Str))
    (h : trIsc c fO sc args = some ir) : OkV X G B K Φ Γ (.Call (.Name "isinstance" p) args [] pos) ir := by
  unfold trIsc at h
  split at h
  · obtain ⟨hp, h⟩ := guard_ok h
    rw [Bool.and_eq_true, Bool.and_eq_true] at hp
    obtain ⟨u, h1, rfl⟩ := map_ok h
    exact re_isc k.o (mO u K) (hO _ _ h1) (of_decide_eq_true hp.2.2) hg (gl_ok k hp.2.1) (star_cons hp.1)
  · cases h
theorem trLrg_ok (k : Cok X G B K Φ Γ c sc) (hc : hotN ∉ c.fs) {fV : Expr → Option E} {args : List Expr} {ir : E} {p pos : Pos} (hV : ∀ e ir, fV e = some ir → OkV X G B K Φ Γ e ir) (hg : Gl X ("list" : Str))
    (h : trLrg fV sc args = some ir) : OkV X G B K Φ Γ (.Call (.Name "list" p) args [] pos) ir := by
  unfold trLrg at h
  split at h
  · obtain ⟨hp, h9⟩ := guard_ok h
    clear h
    rw [Bool.and_eq_true, Bool.and_eq_true, Bool.and_eq_true] at hp
    obtain ⟨h1, h2, h3, h4⟩ := hp
    have h5 := of_decide_eq_true h1
    clear h1
    subst h5
    obtain ⟨x, y, q1, q2, rfl⟩ := o2_ok h9
    exact re_lrg k.o hc (mE x K false) (mE y K false) (hV _ _ q1) (hV _ _ q2) hg (gl_ok k h2) (star_cons h3) (star_cons h4) (by rw [star_cons h4]; rfl)
  · cases h
theorem trSset_ok (k : Cok X G B K Φ Γ c sc) (hc : hotN ∉ c.fs) {fO : Expr → Option E} {args : List Expr} {ir : E} {p pos : Pos} (hO : ∀ e ir, fO e = some ir → OkO X G B K Φ Γ e ir) (hg : Gl X ("sorted" : Str))
    (h : trSset fO sc args = some ir) : OkV X G B K Φ Γ (.Call (.Name "sorted" p) args [] pos) ir := by
  unfold trSset at h
  split at h
  · obtain ⟨hp, h9⟩ := guard_ok h
    clear h
    rw [Bool.and_eq_true, Bool.and_eq_true] at hp
    obtain ⟨h1, h2, h3⟩ := hp
    have h5 := of_decide_eq_true h1
    clear h1
    subst h5
    obtain ⟨x, q1, rfl⟩ := map_ok h9
    exact re_sset k.o hc (mO x K) (hO _ _ q1) hg (gl_ok k h2) (star_cons h3)
  · cases h
theorem trIsx_ok (k : Cok X G B K Φ Γ c sc) {args : List Expr} {ir : E} {p pos : Pos} (hg : Gl X ("isinstance" : Str)) (h : trIsx c sc args = some ir) : OkV X G B K Φ Γ (.Call (.Name "isinstance" p) args [] pos) ir := by
  unfold trIsx at h
  split at h
  · obtain ⟨hp, h9⟩ := guard_ok h
    clear h
    rw [Bool.and_eq_true, Bool.and_eq_true] at hp
    obtain ⟨h1, h2, h3⟩ := hp
    have h1 : cool c = false := by simpa using h1
    obtain ⟨i, q1, rfl⟩ := map_ok h9
    exact k.isx h1 _ (of_decide_eq_true h3) i _ _ _ _ (pe_slot k q1) hg (gl_ok k h2) rfl
  · cases h
theorem trCall_ok (k : Cok X G B K Φ Γ c sc) {fV fO : Expr → Option E} {f : Str} {args : List Expr} {ir : E} {p pos : Pos} (hV : ∀ e ir, fV e = some ir → OkV X G B K Φ Γ e ir) (hO : ∀ e ir, fO e = some ir → OkO X G B K Φ Γ e ir)
    (h : trCall c fV fO sc f args = some ir) : OkV X G B K Φ Γ (.Call (.Name f p) args [] pos) ir := by
  unfold trCall at h
  obtain ⟨hg, h'⟩ := guard_ok h
  clear h
  have hg := gl_ok k hg
  split at h'
  · rename_i hf
    obtain ⟨hf, hn⟩ := of_decide_eq_true hf
    obtain ⟨irs, h1, rfl⟩ := map_ok h'
    cases args with
    | nil =>
      cases h1
      exact re_call0 k.o hf hn hg
    | cons e es =>
      have hp := trL_plain h1
      rw [List.all_cons, Bool.and_eq_true] at hp
      exact re_call k.o (mEs irs K) (trL_V hV h1) hf hn hg (star_cons hp.1) (back_any hp.2)
  · split at h'
    · rename_i hf
      have hf := of_decide_eq_true hf
      obtain ⟨irs, h1, rfl⟩ := map_ok h'
      cases args with
      | nil =>
        cases h1
        exact re_mk0 k.o hf hg
      | cons e es =>
        have hp := trL_plain h1
        rw [List.all_cons, Bool.and_eq_true] at hp
        exact re_mk k.o (mEs irs K) (trL_V hV h1) hf hg (star_cons hp.1) (back_any hp.2)
    split at h'
    · rename_i hi
      have hi : f = ("isinstance" : Str) := of_decide_eq_true hi
      subst hi
      rcases orO_ok h' with h' | h'
      · exact trIsi_ok k hO hg h'
      rcases orO_ok h' with h' | h'
      · exact trIsc_ok k hO hg h'
      · exact trIsx_ok k hg h'
    · obtain ⟨hc, h2⟩ := guard_ok h'
      clear h'
      have h' := h2
      clear h2
      have hc := cool_ok hc
      have h6 := orO_ok h'
      clear h'
      rcases h6 with h' | h'
      · split at h'
        · rename_i h7 hl
          have hl : f = ("list" : Str) := of_decide_eq_true hl
          subst hl
          exact trLrg_ok k hc hV hg h'
        · cases h'
      have h6 := orO_ok h'
      clear h'
      rcases h6 with h' | h'
      · split at h'
        · rename_i h7 hl
          have hl : f = ("sorted" : Str) := of_decide_eq_true hl
          subst hl
          exact trSset_ok k hc hO hg h'
        · cases h'
      unfold trBlt at h'
      split at h'
      · rename_i g hb
        obtain ⟨irs, h1, rfl⟩ := map_ok h'
        cases args with
        | nil => cases hb
        | cons e es =>
          have hp := trL_plain h1
          rw [List.all_cons, Bool.and_eq_true] at hp
          exact re_blt k.o hc (mOs irs K) (trL_O hO h1) (bf_ok hb) hg (star_cons hp.1) (back_any hp.2)
      · cases h'

/-! ### targets, iterators -/
theorem wr_ok {cl : Str → Bool} (hN : X.N = c.N) (hs : X.env.scope = sc) (hcl : ∀ x, cl x = true → X.fn x = true) {x : Str} {i : Nat} (h : wrIx c sc cl x = some i) : X.N[i]? = some x ∧ Loc X.env.scope x ∧ (X.fn x = true ∨ X.env.scope.names.lookup x = some .local) := by
  unfold wrIx at h
  split at h
  · split at h
    · rename_i h1
      cases h
      rw [Bool.and_eq_true, Bool.or_eq_true, Bool.and_eq_true] at h1
      rw [hN, hs]
      refine ⟨of_decide_eq_true h1.1, ?_⟩
      rcases h1.2 with q | q
      · exact ⟨.inl (of_decide_eq_true q), .inr (of_decide_eq_true q)⟩
      · exact ⟨.inr (of_decide_eq_true q.1), .inl (hcl x q.2)⟩
    · cases h
  · cases h
theorem wrs_ok {cl : Str → Bool} (nd : X.N.Nodup) (hN : X.N = c.N) (hs : X.env.scope = sc) (hcl : ∀ x, cl x = true → X.fn x = true) : ∀ {es : List Expr} {is : List Nat}, wrIxs c sc cl es = some is →
    PGs X es (gNames is) ∧ (assignEach es X.env).length = is.length ∧ (assignEach es X.env).findIdx? (·.1) = none
  | [], is, h => by
    cases h
    exact ⟨pgs_nil, rfl, rfl⟩
  | .Name x p :: es, is, h => by
    unfold wrIxs at h
    split at h
    · rename_i i is h1 h2
      cases h
      obtain ⟨q1, q2, q3⟩ := wr_ok hN hs hcl h1
      obtain ⟨r1, r2, r3⟩ := wrs_ok nd hN hs hcl h2
      refine ⟨pgs_cons (pg_name nd q1 q2 q3) r1 rfl, ?_, ?_⟩
      · show (assignEach es X.env).length + 1 = _
        rw [r2]
        rfl
      · show List.findIdx? (·.1) ((false, assign (.Name x p) X.env) :: assignEach es X.env) = none
        rw [List.findIdx?_cons, r3]
        rfl
    · cases h
theorem trTg_ok {cl : Str → Bool} (calm : X.calm = true) (hK : X.K = G.K) (nd : X.N.Nodup) (hN : X.N = c.N) (hs : X.env.scope = sc) (hcl : ∀ x, cl x = true → X.fn x = true) {tg : Expr} {t : Tg} (h : trTg c sc cl tg = some t) : PG X tg (gOf G.K t) := by
  unfold trTg at h
  split at h
  · split at h
    · rename_i i h1
      cases h
      obtain ⟨q1, q2, q3⟩ := wr_ok hN hs hcl h1
      exact pg_name nd q1 q2 q3
    · cases h
  · split at h
    · rename_i is h1
      cases h
      obtain ⟨r1, r2, r3⟩ := wrs_ok nd hN hs hcl h1
      show PG X _ (gTup G.K is.length (gNames is))
      rw [← hK]
      exact pg_tup calm r1 r2 r3
    · cases h
  · cases h
/-- what a loop goes through -/
abbrev wI (Φ : Fns) (Γ : Cns) (k : Ik) (es : List E) (K : XP) : VE → VH → (List D → (VH → Prop) → VE → VH → Prop) → Prop := fun env vh Q => wpEs Φ Γ es K env vh fun ds e1 h1 => ∃ items, itemsV k h1 ds = some items ∧ Q items (stl k ds h1) e1 h1
theorem mI (k : Ik) (es : List E) (K : XP) : ∀ env vh (Q Q' : List D → (VH → Prop) → VE → VH → Prop), (∀ x s e h, Q x s e h → Q' x s e h) → wI Φ Γ k es K env vh Q → wI Φ Γ k es K env vh Q' := fun env vh Q Q' f h => wpEs_mono es K env vh _ _ (fun ds e1 h1 ⟨items, p, q⟩ => ⟨items, p, f _ _ _ _ q⟩) h
theorem trI_ok (k : Cok X G B K Φ Γ c sc) {f : Expr → Option E} (hf : ∀ e ir, f e = some ir → OkV X G B K Φ Γ e ir) {tg iter : Expr} {ik : Ik} {es : List E} (h : trI c f sc tg iter = some (ik, es)) :
    PI X tg iter (iD G B (wI Φ Γ ik es K)) ∧ ∀ x, foldedSetIterable iter X.env x = pure x := by
  have seq : ∀ {e : Expr} {ik : Ik} {es : List E}, trSeq c f e = some (ik, es) → PI X tg e (iD G B (wI Φ Γ ik es K)) := fun {e ik es} h => by
    obtain ⟨x, h1, h2⟩ := map_ok h
    cases h2
    cases isSh c e
    · exact ri_seq k.o.hK (mE x K false) (hf e x h1)
    · exact ri_seqS k.o.hK (mE x K false) (hf e x h1)
  unfold trI at h
  split at h
  · rename_i x p args pos
    refine ⟨?_, fun _ => rfl⟩
    split at h
    · rename_i hx
      have hx : x = ("range" : Str) := of_decide_eq_true hx
      subst hx
      obtain ⟨hg, h'⟩ := guard_ok h
      clear h
      have hm : X.mg "range" = none := k.o.bl _ (by decide +kernel)
      unfold trRg at h'
      split at h'
      · obtain ⟨es', h1, h2⟩ := map_ok h'
        cases h2
        obtain ⟨_, _, _, hp, _, _⟩ := trL_cons h1
        exact ri_rng1 (mEs es K) (trL_V hf h1) (gl_ok k hg) hm (star_cons hp)
      · obtain ⟨es', h1, h2⟩ := map_ok h'
        cases h2
        obtain ⟨_, _, _, hp, _, h2⟩ := trL_cons h1
        obtain ⟨_, _, _, hp2, _, h3⟩ := trL_cons h2
        exact ri_rng2 (mEs es K) (trL_V hf h1) (gl_ok k hg) hm (by rw [star_cons hp, star_cons hp2]; rfl) (star_cons hp2)
      · obtain ⟨es', h1, h2⟩ := map_ok h'
        cases h2
        have hp := trL_plain h1
        rw [List.all_cons, Bool.and_eq_true] at hp
        exact ri_rng3 (mEs es K) (trL_V hf h1) (gl_ok k hg) hm (star_cons hp.1) (back_any hp.2)
      · cases h'
    split at h
    · rename_i hx
      have hx : x = ("enumerate" : Str) := of_decide_eq_true hx
      subst hx
      obtain ⟨hg, h'⟩ := guard_ok h
      clear h
      rw [Bool.and_eq_true] at hg
      have hm : X.mg "enumerate" = none := k.o.bl _ (by decide +kernel)
      unfold trEn at h'
      split at h'
      · obtain ⟨es', h1, h2⟩ := map_ok h'
        cases h2
        obtain ⟨_, _, _, hp, _, _⟩ := trL_cons h1
        cases tg with
        | Tuple elts kk tpos => exact ri_enum k.o.hK (mEs es K) (trL_V hf h1) (gl_ok k hg.1) hm (star_cons hp)
        | _ => cases hg.2
      · cases h'
    · split at h
      · rename_i hx
        have hx : x = ("zip" : Str) := of_decide_eq_true hx
        subst hx
        obtain ⟨hg, h'⟩ := guard_ok h
        clear h
        rw [Bool.and_eq_true] at hg
        have hm : X.mg "zip" = none := k.o.bl _ (by decide +kernel)
        unfold trZp at h'
        split at h'
        · obtain ⟨es', h1, h2⟩ := map_ok h'
          cases h2
          have hp := trL_plain h1
          rw [List.all_cons, Bool.and_eq_true] at hp
          cases tg with
          | Tuple elts kk tpos =>
            rename_i a b
            cases isSh c a || isSh c b
            · exact ri_zip k.o.hK (mEs es K) (trL_V hf h1) (gl_ok k hg.1) hm (star_cons hp.1) (back_any hp.2)
            · exact ri_zipS k.o.hK (mEs es K) (trL_V hf h1) (gl_ok k hg.1) hm (star_cons hp.1) (back_any hp.2)
          | _ => cases hg.2
        · cases h'
      · exact seq h
  · obtain ⟨hn, h⟩ := guard_ok h
    exact ⟨seq h, notSet_ok hn X.env⟩
end

/-! ### all expressions -/
def Ok (X : Cx) (G : Wd) (B : Base) (K : XP) (Φ : Fns) (Γ : Cns) : Md → Expr → E → Prop
  | .V => OkV X G B K Φ Γ
  | .O => OkO X G B K Φ Γ
  | .T => OkT X G B K Φ Γ
theorem trLc_cool {c : Tc} {f : Md → Scope → Expr → Option E} {sc : Scope} {elt : Expr} {gens : List Comprehension} {scope : Scope} {ir : E} (h : trLc c f sc elt gens scope = some ir) : hotN ∉ c.fs := by
  unfold trLc at h
  split at h
  · split at h
    · obtain ⟨hc, h⟩ := guard_ok h
      rw [Bool.and_eq_true, Bool.and_eq_true, Bool.and_eq_true, Bool.and_eq_true] at hc
      exact cool_ok hc.1.1.1.1
    · cases h
  · cases h
theorem lc_parts {X : Cx} {G : Wd} {B : Base} {K : XP} {Φ : Fns} {Γ : Cns} {c : Tc} {sc : Scope} (k : Cok X G B K Φ Γ c sc) {f : Md → Scope → Expr → Option E} {elt : Expr} {gens : List Comprehension} {scope : Scope} {ir : E}
    (hV : ∀ e ir, f .V sc e = some ir → OkV X G B K Φ Γ e ir) (hB : ∀ (m : Md) (e : Expr) (ir : E) (X' : Cx) (B' : Base), Cok X' G B' (fun _ _ _ _ => False) Φ Γ c (relS scope sc) → f m (relS scope sc) e = some ir → Ok X' G B' (fun _ _ _ _ => False) Φ Γ m e ir)
    (h : trLc c f sc elt gens scope = some ir) :
    ∃ (tg iter : Expr) (ifs : List Expr) (own : List (Str × Nat)) (wi : TI) (g : TG) (tt : TT) (te : TE), gens = [⟨tg, iter, ifs, 0⟩] ∧ PI X tg iter wi ∧ BlkOk X.N X.env.scope scope own ∧
      (∀ (s : Shared) (H : Hp) (C : Addr) (cl : List (Str × Addr)) (fp : List Addr), PG (X.blk s H scope (compEnvC scope cl C X.env) fp) tg g) ∧ (∀ (s : Shared) (H : Hp) (C : Addr) (cl : List (Str × Addr)) (fp : List Addr), PTs (X.blk s H scope (compEnvC scope cl C X.env) fp) ifs tt) ∧
      (∀ (s : Shared) (H : Hp) (C : Addr) (cl : List (Str × Addr)) (fp : List Addr), PE (X.blk s H scope (compEnvC scope cl C X.env) fp) elt te) ∧ (∀ x, foldedSetIterable iter X.env x = pure x) ∧
      ∀ σ H Q, tD G B (wpE Φ Γ ir K false) σ H Q → tLc wi g tt te (own.map (·.2)) σ H Q := by
  unfold trLc at h
  split at h
  · rename_i tg iter ifs as
    split at h
    · rename_i tgI ik es el cs g1 g2 g3 g4
      obtain ⟨hc, h⟩ := guard_ok h
      cases h
      rw [Bool.and_eq_true, Bool.and_eq_true, Bool.and_eq_true, Bool.and_eq_true] at hc
      obtain ⟨⟨⟨⟨c0, c1⟩, c2⟩, c3⟩, c4⟩ := hc
      have c0 := cool_ok c0
      have c1 : as = 0 := of_decide_eq_true c1
      subst c1
      have c4 : cs.length ≤ 1 := of_decide_eq_true c4
      have hsub : ∀ i, i ∈ tgIx tgI → i ∈ (ownOf c.N scope).map (·.2) := fun i hi => by
        unfold subB at c3
        rw [List.all_eq_true] at c3
        exact of_decide_eq_true (c3 i hi)
      have ok : BlkOk X.N X.env.scope scope (ownOf c.N scope) := by rw [k.hN, k.hs]; exact blkOk_by c2
      obtain ⟨hi, hfs⟩ := trI_ok (tg := tg) k hV g2
      have kb : ∀ (B' : Base) (s : Shared) (H : Hp) (C : Addr) (cl : List (Str × Addr)) (fp : List Addr), Cok (X.blk s H scope (compEnvC scope cl C X.env) fp) G B' (fun _ _ _ _ => False) Φ Γ c (relS scope sc) := fun B' s H C cl fp =>
        ⟨k.o.blk c0 B' s H scope _ fp, k.hN, by
          show relS scope X.env.scope = _
          rw [k.hs], fun z => absurd c0 (by unfold cool at z; simpa using z)⟩
      have ht : ∀ (s : Shared) (H : Hp) (C : Addr) (cl : List (Str × Addr)) (fp : List Addr), PTs (X.blk s H scope (compEnvC scope cl C X.env) fp) ifs (tW G (wpTs Φ Γ cs)) := fun s H C cl fp => by
        cases ifs with
        | nil =>
          cases g4
          exact pts_w0
        | cons t ts =>
          obtain ⟨a, b, rfl, p1, p2, p3⟩ := trL_cons g4
          cases ts with
          | nil =>
            cases p3
            exact pts_w1 (mE a _ true) fun B' => (hB .T _ _ _ B' (kb B' s H C cl fp) p2).1
          | cons t2 ts =>
            obtain ⟨a2, b2, rfl, _, _, _⟩ := trL_cons p3
            simp at c4
      refine ⟨tg, iter, ifs, _, _, _, _, _, rfl, hi, ok, fun s H C cl fp => trTg_ok (X := X.blk s H scope (compEnvC scope cl C X.env) fp) (k.o.calm c0) k.o.hK k.o.nd k.hN (by show relS scope X.env.scope = _; rw [k.hs]) (fun x hx => by
          show (scope.names.lookup x == some .cell) = true
          rw [of_decide_eq_true hx]
          rfl) g1, ht, fun s H C cl fp => pe_all fun B' => trSh_ok (fun e ir h => hB .V e ir _ B' (kb B' s H C cl fp) h) _ _ g3, hfs, ?_⟩
      exact lc_sound (mI ik es K) (fun env vh Q Q' f h => wpTs_mono cs env vh Q Q' f h) (mE el _ false) hsub
    · cases h
  · cases h
theorem bor_noV {c : Tc} : ∀ {n : Nat} {sc : Scope} {e : Expr} {ir : E}, tr c n .V sc e = some ir → True := fun _ => trivial
theorem tr_ok {G : Wd} {Φ : Fns} {Γ : Cns} {c : Tc} : ∀ (n : Nat) (m : Md) (sc : Scope) (e : Expr) (ir : E) (X : Cx) (B : Base) (K : XP), Cok X G B K Φ Γ c sc → tr c n m sc e = some ir → Ok X G B K Φ Γ m e ir
  | 0, m, sc, e, ir, X, B, K, k, h => by
    cases m <;> cases h
  | n + 1, .O, sc, e, ir, X, B, K, k, h => by
    have ih := tr_ok (G := G) (Φ := Φ) (Γ := Γ) (c := c) n
    have hV : ∀ e ir, tr c n .V sc e = some ir → OkV X G B K Φ Γ e ir := fun e ir h => ih .V sc e ir X B K k h
    replace h : trO1 c (tr c n) sc e = some ir := h
    unfold trO1 at h
    split at h
    · split at h
      · rename_i x p i hs
        cases h
        exact ro_bor (pe_slot k hs)
      · obtain ⟨h1, h2⟩ := noBor_ok h
        exact okO_of (hV _ _ h1) h2
    · obtain ⟨h1, h2⟩ := noBor_ok h
      exact okO_of (hV _ _ h1) h2
  | n + 1, .T, sc, e, ir, X, B, K, k, h => by
    have ih := tr_ok (G := G) (Φ := Φ) (Γ := Γ) (c := c) n
    have hV : ∀ e ir, tr c n .V sc e = some ir → OkV X G B K Φ Γ e ir := fun e ir h => ih .V sc e ir X B K k h
    have hO : ∀ e ir, tr c n .O sc e = some ir → OkO X G B K Φ Γ e ir := fun e ir h => ih .O sc e ir X B K k h
    have hT : ∀ e ir, tr c n .T sc e = some ir → OkT X G B K Φ Γ e ir := fun e ir h => ih .T sc e ir X B K k h
    replace h : trT1 c (tr c n) sc e = some ir := h
    unfold trT1 at h
    split at h
    · obtain ⟨a, h1, rfl⟩ := map_ok h
      exact ⟨rt_not (mE a K true) (hT _ _ h1).1, fun op vs pos e => by cases e⟩
    · rename_i op a pos
      have q := (hT _ _ h).1
      have w : PW X (.BoolOp op [a] pos) (tB G B (wpE Φ Γ ir K true)) := by
        cases op
        · exact pw_and1 q
        · exact pw_or1 q
      exact ⟨w.pt, fun op' vs pos' e => w⟩
    · obtain ⟨a, b, h1, h2, rfl⟩ := o2_ok h
      have w := rt_and (mE a K true) (mE b K true) (hT _ _ h1).1 ((hT _ _ h2).2 _ _ _ rfl)
      exact ⟨w.pt, fun op' vs pos' e => w⟩
    · obtain ⟨a, b, h1, h2, rfl⟩ := o2_ok h
      have w := rt_or (mE a K true) (mE b K true) (hT _ _ h1).1 ((hT _ _ h2).2 _ _ _ rfl)
      exact ⟨w.pt, fun op' vs pos' e => w⟩
    · obtain ⟨t, a, b, h1, h2, h3, rfl⟩ := o3_ok h
      exact ⟨rt_ite (mE t K true) (mE a K true) (mE b K true) (hT _ _ h1).1 (hT _ _ h2).1 (hT _ _ h3).1, fun op vs pos e => by cases e⟩
    · obtain ⟨hm, h⟩ := guard_ok h
      obtain ⟨a, b, h1, h2, rfl⟩ := o2_ok h
      exact ⟨rt_cmp k.o (mO a K) (mO b K) (hO _ _ h1) (hO _ _ h2) (by simpa using hm), fun op vs pos e => by cases e⟩
    · obtain ⟨hm, h⟩ := guard_ok h
      obtain ⟨a, b, d, h1, h2, h3, rfl⟩ := o3_ok h
      exact ⟨rt_chain k.o (mO a K) (mO b K) (mO d K) (hO _ _ h1) (hO _ _ h2) (hO _ _ h3) (by simpa using hm), fun op vs pos e => by cases e⟩
    · split at h
      · rename_i x p i hs
        cases h
        exact ⟨rt_bor k.o (pe_slot k hs) (true_eq rfl X.env), fun op vs pos e => by cases e⟩
      · split at h
        · rename_i x p _ ir' h1
          obtain ⟨hf, h⟩ := guard_ok h
          cases h
          refine ⟨tB_of (rt_truth k.o (hV _ _ h1) (mE ir K false) (true_eq rfl X.env)) fun env vh Q q => ?_, fun op vs pos e => by cases e⟩
          rw [fin_eq hf] at q
          exact q
        · cases h
    · obtain ⟨hp, h⟩ := guard_ok h
      split at h
      · rename_i ir' h1
        obtain ⟨hf, h⟩ := guard_ok h
        cases h
        refine ⟨tB_of (rt_truth k.o (hV _ _ h1) (mE ir K false) (true_eq hp X.env)) fun env vh Q q => ?_, fun op vs pos e => by subst e; cases hp⟩
        rw [fin_eq hf] at q
        exact q
      · cases h
  | n + 1, .V, sc, e, ir, X, B, K, k, h => by
    have ih := tr_ok (G := G) (Φ := Φ) (Γ := Γ) (c := c) n
    have hV : ∀ e ir, tr c n .V sc e = some ir → OkV X G B K Φ Γ e ir := fun e ir h => ih .V sc e ir X B K k h
    have hO : ∀ e ir, tr c n .O sc e = some ir → OkO X G B K Φ Γ e ir := fun e ir h => ih .O sc e ir X B K k h
    have hT : ∀ e ir, tr c n .T sc e = some ir → OkT X G B K Φ Γ e ir := fun e ir h => ih .T sc e ir X B K k h
    show OkV X G B K Φ Γ e ir
    replace h : trV1 c (tr c n) sc e = some ir := h
    unfold trV1 at h
    split at h
    · cases h; exact re_flat pe_non fun _ _ _ => rfl
    · cases h; exact re_flat pe_bl fun _ _ _ => rfl
    · cases h; exact re_flat pe_int fun _ _ _ => rfl
    · cases h; exact re_flat pe_str fun _ _ _ => rfl
    · split at h
      · rename_i x p i hs
        cases h
        exact re_var (pe_slot k hs)
      · obtain ⟨hg, h⟩ := guard_ok h
        cases h
        rw [Bool.and_eq_true] at hg
        exact re_glo k.o hg.2 (gl_ok k hg.1)
    · obtain ⟨irs, h1, rfl⟩ := map_ok h
      exact re_tup (mEs irs K) (trL_V hV h1)
    · obtain ⟨irs, h1, rfl⟩ := map_ok h
      exact re_lst (mEs irs K) (trL_V (trSh_ok hV) h1)
    · obtain ⟨a, b, h1, h2, rfl⟩ := o2_ok h
      exact re_bin k.o (mO a K) (mO b K) (hO _ _ h1) (hO _ _ h2)
    · obtain ⟨a, h1, rfl⟩ := map_ok h
      exact re_neg (mE a K false) (hV _ _ h1)
    · obtain ⟨a, h1, rfl⟩ := map_ok h
      exact re_not k.o (mO a K) (hO _ _ h1)
    · exact pe_one (hV _ _ h)
    · obtain ⟨a, b, h1, h2, rfl⟩ := o2_ok h
      exact re_and k.o (mE a K false) (mE b K false) (hV _ _ h1) (hV _ _ h2)
    · obtain ⟨a, b, h1, h2, rfl⟩ := o2_ok h
      exact re_or k.o (mE a K false) (mE b K false) (hV _ _ h1) (hV _ _ h2)
    · obtain ⟨t, a, b, h1, h2, h3, rfl⟩ := o3_ok h
      exact re_ite (mE t K true) (mE a K false) (mE b K false) (hT _ _ h1).1 (hV _ _ h2) (hV _ _ h3)
    · split at h
      · rename_i hq
        obtain ⟨rfl, hf⟩ := isEqI_ok hq
        obtain ⟨hm, h⟩ := guard_ok h
        obtain ⟨a, b, h1, h2, rfl⟩ := o2_ok h
        exact re_eqI k.o (mO a K) (mO b K) (hO _ _ h1) (hO _ _ h2) hf (by simpa using hm)
      · obtain ⟨hm, h⟩ := guard_ok h
        obtain ⟨a, b, h1, h2, rfl⟩ := o2_ok h
        exact re_cmp k.o (mO a K) (mO b K) (hO _ _ h1) (hO _ _ h2) (by simpa using hm)
    · obtain ⟨hm, h⟩ := guard_ok h
      obtain ⟨a, b, d, h1, h2, h3, rfl⟩ := o3_ok h
      exact re_chain k.o (mO a K) (mO b K) (mO d K) (hO _ _ h1) (hO _ _ h2) (hO _ _ h3) (by simpa using hm)
    · rename_i a lo hi p2 pos
      obtain ⟨x, l, u, h1, h2, h3, rfl⟩ := o3_ok h
      have part : ∀ {q : Option Expr} {l : E}, trP (tr c n .V sc) q = some l → ((q = none ∧ ∀ env vh (Q : QE), wpE Φ Γ l K false env vh Q → Q (.v .non) env vh) ∨ ∃ e, q = some e ∧ PE X e (tD G B (wpE Φ Γ l K false))) := fun {q l} h => by
        cases q with
        | none => cases h; exact .inl ⟨rfl, fun _ _ _ z => z⟩
        | some e => exact .inr ⟨e, rfl, hV e l h⟩
      exact re_sli k.o (mO x K) (mE l K false) (mE u K false) (hO _ _ h1) (part h2) (part h3)
    · obtain ⟨hp, h⟩ := guard_ok h
      obtain ⟨a, b, h1, h2, rfl⟩ := o2_ok h
      exact re_idx k.o (mO a K) (mO b K) (hO _ _ h1) (hO _ _ h2) (plainIx_ok hp)
    · exact trCall_ok k hV hO h
    · obtain ⟨tg, iter, ifs, own, wi, g, tt, te, rfl, hi, ok, hg, ht, he, hs, im⟩ := lc_parts k hV (fun m e ir X' B' k' h' => ih m _ e ir X' B' _ k' h') h
      exact (pe_lc (k.o.calm (trLc_cool h)) k.o.nd hi ok hg ht he hs).imp im
    · rename_i a m2 pos
      replace h : trAttr c (tr c n) sc a m2 = some ir := h
      unfold trAttr at h
      split at h
      · rename_i hf
        obtain ⟨hn, h⟩ := guard_ok h
        obtain ⟨u, h1, rfl⟩ := map_ok h
        exact re_fld k.o (mO u K) (hO _ _ h1) (attr_no hn) (of_decide_eq_true hf)
      · split at h
        · obtain ⟨i, h1, rfl⟩ := map_ok h
          exact re_attr k.o (pe_slot k h1) fun _ => rfl
        · cases h
    · rename_i a m2 apos args pos
      replace h : trMeth c (tr c n) sc a m2 args apos pos = some ir := h
      unfold trMeth at h
      have h6 := orO_ok h
      clear h
      rcases h6 with h | h
      rotate_left
      · split at h
        · rename_i hm
          have hm : m2 = ("join" : Str) := of_decide_eq_true hm
          subst hm
          unfold trJoin at h
          split at h
          · obtain ⟨hg, h9⟩ := guard_ok h
            rw [Bool.and_eq_true, Bool.and_eq_true] at hg
            obtain ⟨u, v, h1, h2, rfl⟩ := o2_ok h9
            exact re_join (mE u K false) (mO v K) (hV _ _ h1) (hO _ _ h2) (star_cons hg.2.2) (attr_no hg.1) hg.2.1
          · cases h
        · have bx : ∀ kk : Bool, (m2 = if kk then ("index" : Str) else ("count" : Str)) → trBix (tr c n) sc a kk args apos pos = some ir → OkV X G B K Φ Γ (.Call (.Attribute a m2 apos) args [] pos) ir := by
            intro kk em h
            unfold trBix at h
            split at h
            · obtain ⟨hg, h⟩ := guard_ok h
              rw [Bool.and_eq_true] at hg
              obtain ⟨u, h1, rfl⟩ := map_ok h
              exact re_bix k.o kk em (mO u K) (hO _ _ h1) (re_flat pe_bl fun _ _ _ => rfl) (attr_no hg.1) hg.2 rfl
            · cases h
          split at h
          · rename_i hm
            exact bx false (of_decide_eq_true hm) h
          · split at h
            · rename_i hm
              exact bx true (of_decide_eq_true hm) h
            · cases h
      unfold trMeth0 at h
      obtain ⟨hg, h⟩ := guard_ok h
      simp only [Bool.and_eq_true] at hg
      obtain ⟨⟨⟨g1, g2⟩, g3⟩, g4⟩ := hg
      obtain ⟨u, irs, h1, h2, rfl⟩ := o2_ok h
      have hp := trL_plain h2
      have ht := meth_tree (o := a) (m := m2) (apos := apos) (pos := pos) (es := args) (env := X.env) (attr_no g2) (plain_star hp) (of_decide_eq_true g4) g3
      cases args with
      | nil =>
        cases h2
        exact re_meth0 k.o (mO u K) (hO _ _ h1) (of_decide_eq_true g1) ht
      | cons e es =>
        rw [List.all_cons, Bool.and_eq_true] at hp
        exact re_meth k.o (mO u K) (mEs irs K) (hO _ _ h1) (trL_V hV h2) (of_decide_eq_true g1) (star_cons hp.1) (back_any hp.2) ht
    · obtain ⟨hg, h⟩ := guard_ok h
      rw [Bool.and_eq_true, Bool.and_eq_true, Bool.and_eq_true] at hg
      obtain ⟨⟨⟨g1, g2⟩, g3⟩, g4⟩ := hg
      obtain ⟨ks, irs, h1, h2, rfl⟩ := o2_ok h
      have pr := trL_P (R := fun e ir => ∀ B', PE X e (tD G B' (wpE Φ Γ ir noK false))) (fun e ir h' B' => ih .V sc e ir X B' _ ⟨k.o.any (cool_ok g1) B', k.hN, k.hs, fun z => absurd z (by rw [g1]; exact Bool.noConfusion)⟩ h') h2
      exact re_dct h1 pr g2 (of_decide_eq_true g3) ((keysOf_len h1).trans ((of_decide_eq_true g3 : _ = _).trans (pairLen pr))) (of_decide_eq_true g4)
    · cases h
end R

set_option autoImplicit false
namespace R
open PySem PySem.Spec PyProof.Rows L2
/-! ## R9: statements, from the text -/
def notLc : Expr → Bool
  | .ListComp _ _ _ _ => false
  | .SetComp _ _ _ _ => false
  | .DictComp _ _ _ _ _ => false
  | _ => true
def notTup : Expr → Bool
  | .Tuple _ _ _ => false
  | _ => true
def stOf (c : Tc) (x : Str) (i : Nat) (e : E) : S := if c.own.contains x then .setO i e else if c.sh.contains x then .setS i e else .set i e
def parB (sc : Scope) (x y : Str) (px py : Pos) (a b : Expr) : Bool := decide (sc.kind = .function) && decide (sc.names.lookup x = some .local) && decide (sc.names.lookup y = some .local) && (py.line == px.line) && !(x == y) && plainE a && plainE b &&
  !([a, b].all (foldedForSure 8)) && !([a, b].all (constantsAlone 8))
def lcB (sc scope : Scope) (x : Str) (p cpos : Pos) : Bool := decide (sc.kind = .function) && decide (sc.names.lookup x = some .local) && (p.line == cpos.line) && !(scope.names.any fun (n, k) => n == x && (k == .local || k == .cell))
def neB (i j : Nat) : Bool := !decide (i = j)
/-- the clauses of a try -/
def trH (c : Tc) (fH : List Stmt → Option (List S)) (sc : Scope) : List ExceptHandler → Option (List (Str × Option Nat) × List (List S))
  | [] => some ([], [])
  | .ExceptHandler (some (.Name x _)) none (b :: bs) _ :: hs => guardO (glB sc x && decide (x ∈ c.hs)) (o2 (fun su r => ((x, none) :: r.1, su :: r.2)) (fH (b :: bs)) (trH c fH sc hs))
  | .ExceptHandler (some (.Name x _)) (some n) (b :: bs) _ :: hs => guardO (glB sc x && decide (x ∈ c.hs) && decide (sc.names.lookup n = some .local)) (match c.N.idxOf? n with
    | some i => guardO (decide (c.N[i]? = some n)) (o2 (fun su r => ((x, some i) :: r.1, su :: r.2)) (fH (b :: bs)) (trH c fH sc hs))
    | none => none)
  | _ => none
def trR (c : Tc) (f : Md → Scope → Expr → Option E) (sc : Scope) (x : Str) (args : List Expr) : Option S := match c.tb.lookup x, args with
  | some ([], _), [] => some (.raise x [])
  | some ([_], _), [e] => guardO (plainE e) ((f .V sc e).map fun u => .raise x [u])
  | _, _ => none
/-- no stores are swapped -/
def noSwp (ts : List Expr) : Expr → Bool
  | .Tuple vs _ _ => vs.all (foldedForSure 8) || !(ts.length == 2 || ts.length == 3)
  | _ => true
def trUnp (c : Tc) (sc : Scope) (f : Md → Scope → Expr → Option E) (ts : List Expr) (e : Expr) : Option S := guardO (notLc e && noSwp ts e) (o2 .unp (wrIxs c sc (fun _ => true) ts) (f .V sc e))
/-- names and attributes of what names hold -/
def trTas (c : Tc) (sc : Scope) (f : Md → Scope → Expr → Option E) : List Expr → Option (List Ta)
  | [] => some []
  | .Name x _ :: es => match wrIx c sc (fun _ => true) x, trTas c sc f es with
    | some i, some ts => some (.nm i :: ts)
    | _, _ => none
  | .Attribute (.Name x p) m _ :: es => match f .O sc (.Name x p), trTas c sc f es with
    | some (.bor j), some ts => if decide (pfN m ∈ c.fs) then some (.fl j m :: ts) else none
    | _, _ => none
  | _ :: _ => none
def trUnpG (c : Tc) (sc : Scope) (f : Md → Scope → Expr → Option E) (ts : List Expr) (e : Expr) : Option S := match trUnp c sc f ts e with
  | some s => some s
  | none => guardO (notLc e && noSwp ts e) (o2 .unpG (trTas c sc f ts) (f .V sc e))
def trPop : Option E → Option E → Option S
  | some o, some (.int 0) => some (.pop o)
  | _, _ => none
def isCallA : Expr → Bool
  | .Call (.Attribute _ _ _) _ _ _ => true
  | _ => false
theorem attr_callA {a : Expr} {m : Str} {env : Env} {w : Sem Value} (h : isCallA a = true) : attributeBase a m env w = w := by
  cases a with
  | Call f xs ks p => cases f <;> first | rfl | cases h
  | _ => cases h
def trAppF (o : Option E) (e : Expr) (l : Bool) : Option S := match e with
  | .Tuple [.Constant (.int k) _ _] _ _ => guardO l (o.map fun u => .appF u k)
  | _ => none
def trS1 (c : Tc) (fB fH : List Stmt → Option (List S)) (f : Md → Scope → Expr → Option E) (sc : Scope) (st : Stmt) : Option S := match st with
  | .Pass _ => some .pass
  | .Break _ => some .brk
  | .Continue _ => some .cont
  | .Raise (some (.Call (.Name x _) args [] _)) none _ => guardO (cool c && glB sc x) (trR c f sc x args)
  | .Try body (h :: hs) [] [] _ => guardO (cool c) (o2 (fun b r => .tryS c.tb b r.1 r.2) (fB body) (trH c fH sc (h :: hs)))
  | .Return none _ => some .retN
  | .Return (some (.Name x p)) _ => if c.own.contains x then (slotOf c sc x).map .retO else (f .V sc (.Name x p)).map .ret
  | .Return (some e) _ => (f .V sc e).map .ret
  | .Expr (.Constant (.str _) _ _) _ => some .pass
  | .Expr (.Call (.Attribute a m apos) [e] [] cpos) _ => if decide (pmN m ∈ c.fs) then (f .V sc (.Call (.Attribute a m apos) [e] [] cpos)).map .expr else if isCallA a && decide (m = ("append" : Str)) then trAppF (f .V sc a) e (apos.endLine == cpos.line) else guardO ((decide (m = ("append" : Str)) || decide (m = ("extend" : Str)) || decide (m = ("pop" : Str))) && plainE e && noCall a && (apos.endLine == cpos.line)) (if decide (m = ("pop" : Str)) then trPop (f .O sc a) (f .V sc e) else o2 (if decide (m = ("append" : Str)) then .app else .ext) (f .O sc a) (f .V sc e))
  | .Expr e _ => guardO (notLc e) ((f .V sc e).map .expr)
  | .Assign [.Name x p] (.ListComp elt gens scope cpos) _ => guardO (lcB sc scope x p cpos) (o2 (stOf c x) (wrIx c sc (fun _ => true) x) (trLc c f sc elt gens scope))
  | .Assign [.Name x p] e _ => guardO (notLc e) (o2 (stOf c x) (wrIx c sc (fun _ => true) x) (f .V sc e))
  | .Assign [.Tuple [.Name x px, .Name y py] kt pt] (.Tuple [a, b] k2 pt2) _ => guardO (cool c) (if parB sc x y px py a b then (match wrIx c sc (fun _ => true) x, wrIx c sc (fun _ => true) y, shrIf (c.sh.contains x && isFresh a) (f .V sc a), shrIf (c.sh.contains y && isFresh b) (f .V sc b) with
    | some i, some j, some u, some v => guardO (neB i j) (some (.par i j u v))
    | _, _, _, _ => none) else trUnp c sc f [.Name x px, .Name y py] (.Tuple [a, b] k2 pt2))
  | .Assign [.Tuple ts kt pt] e _ => guardO (cool c) (trUnpG c sc f ts e)
  | .Assign [.Subscript a (.Slice (some lo) none none _) _] e _ => o3 .sasg (f .O sc a) (f .V sc lo) (f .V sc e)
  | .Assign [.Subscript a i _] e _ => guardO (plainIx i) (o3 .sidx (f .O sc a) (f .V sc i) (f .V sc e))
  | .Assign [.Attribute a m _] e _ => guardO (decide (pfN m ∈ c.fs)) (o2 (fun x y => .fset x m y) (f .O sc a) (shrIf (c.shf.contains m && isFresh e) (f .V sc e)))
  | .AugAssign (.Attribute a m _) op e _ => guardO (decide (pfN m ∈ c.fs)) (o2 (fun x y => .faug x m op y) (f .O sc a) (f .V sc e))
  | .AugAssign (.Name x _) op e _ => o2 (fun i e => .aug i op e) (wrIx c sc (fun _ => true) x) (f .V sc e)
  | .If t a b _ => o3 .cond (f .T sc t) (fB a) (fB b)
  | .For tg iter body [] _ => guardO (cool c) (match trTg c sc (fun _ => true) tg, trI c (f .V sc) sc tg iter, fB body with
    | some t, some (k, es), some b => some (.forS t k es b)
    | _, _, _ => none)
  | .While t body [] _ => o2 .whl (f .T sc t) (fB body)
  | _ => none
def trB (c : Tc) (m : Nat) (sc : Scope) : Nat → List Stmt → Option (List S)
  | 0, _ => none
  | _ + 1, [] => some []
  | n + 1, st :: ss => (trB c m sc n ss).map fun r => ((trS1 c (trB c m sc n) (trB c.hot m sc n) (tr c m) sc st).getD .never) :: r

structure Sk (X : Cx) (G : Wd) (B : Base) (K : XP) (Φ : Fns) (Γ : Cns) (c : Tc) (sc : Scope) : Prop where
  o : SOk X G B K Φ Γ c.fs
  hN : X.N = c.N
  hs : X.env.scope = sc
  mkx : ∀ x ns anc, c.tb.lookup x = some (ns, anc) → MkX G X.K X.mg x
  hd : ∀ x, x ∈ c.hs → HdX G X.K X.mg c.tb x
  tk : ∀ x C, G.cl x = some C → ∀ ns anc, c.tb.lookup x = some (ns, anc) → ns = G.fl x
  xf : FdX G X.K
  isd : ∀ x, x ∈ c.his → IsX G X.K X.mg c.tb x
  isx : cool c = false → ∀ x, x ∈ c.his → IsxR X G B Γ x
section
variable {X : Cx} {G : Wd} {B : Base} {K : XP} {Φ : Fns} {Γ : Cns} {c : Tc} {sc : Scope}
theorem Sk.cok (k : Sk X G B K Φ Γ c sc) : Cok X G B K Φ Γ c sc := ⟨k.o.toXOk, k.hN, k.hs, k.isx⟩
theorem swaps_no {e : Expr} (h : notLc e = true) (t : Option Expr) (l : Nat) (env : Env) : swapsWith e t l env = pure false := by
  cases e <;> first | rfl | cases h
theorem stOf_ok {we : E} {x : Str} {i : Nat} {st : Stmt} (h : PAs X G B st i (wpE Φ Γ we K false)) : PS X st (tS G B fun V env vh => wpS Φ Γ (stOf c x i we) K V env vh) := by
  unfold stOf
  split
  · exact rs_setO (mE we K false) h
  · split
    · exact rs_setS (mE we K false) h
    · exact rs_set (mE we K false) h
theorem par_ok {x y : Str} {px py pt pt2 : Pos} {kt k2 : Nat} {a b : Expr} (hs : X.env.scope = sc) (h : parB sc x y px py a b = true) : swappedStores [.Tuple [.Name x px, .Name y py] kt pt] (.Tuple [a, b] k2 pt2) X.env = pure (some [x, y]) := by
  unfold parB at h
  simp only [Bool.and_eq_true, Bool.not_eq_true', decide_eq_true_eq] at h
  obtain ⟨⟨⟨⟨⟨⟨⟨⟨h1, h2⟩, h3⟩, h4⟩, h5⟩, h6⟩, h7⟩, h8⟩, h9⟩ := h
  have kx : X.env.kindOf x = some .local := by show X.env.scope.names.lookup x = _; rw [hs]; exact h2
  have ky : X.env.kindOf y = some .local := by show X.env.scope.names.lookup y = _; rw [hs]; exact h3
  have hb : X.env.blockKind = .function := by unfold Env.blockKind; rw [hs, h1]; rfl
  have ne : ([x, y] : List Str).eraseDups.length = 2 := by
    have hxy : (y == x) = false := by
      cases q : y == x with
      | false => rfl
      | true =>
        have e := eq_of_beq q
        subst e
        simp at h5
    simp [List.eraseDups_cons, hxy]
  have p1 : (X.env.kindOf x == some NameKind.local && px.line == px.line) = true := by rw [kx]; simp
  have p2 : (X.env.kindOf y == some NameKind.local && py.line == px.line) = true := by rw [ky, h4]; rfl
  unfold swappedStores
  simp only [List.length_cons, List.length_nil, hb, List.head?_cons, Option.map_some, Option.getD_some, Expr.pos, List.filterMap_cons, List.filterMap_nil, p1, p2, if_true, ne, h8, h9]
  rw [if_neg (by decide), if_neg]
  · rfl
  · intro hz
    rw [List.any_cons, List.any_cons, List.any_nil, Bool.or_false, Bool.or_eq_true] at hz
    rcases hz with hz | hz
    · cases a <;> first | exact absurd hz Bool.false_ne_true | cases h6
    · cases b <;> first | exact absurd hz Bool.false_ne_true | cases h7
theorem sub_asg {a i : Expr} {tpos : Pos} (h : plainIx i = true) (env : Env) : ∀ v, assign (.Subscript a i tpos) env v = (do
      let ov ← holding [v] (eval a env)
      let iv ← holding [v, ov] (eval i env)
      standAt tpos
      holding [v, ov, iv] (setItem ov iv v)
      release [v, ov, iv] []) := by
  intro v
  cases i <;> first | rfl | cases h
theorem swS_no {t : Expr} {e : Expr} {l : Nat} {env : Env} (h : ∀ x p, t ≠ .Name x p) : swapsWithSole [t] e l env = pure false := by
  show swapsWith e (some t) l env = pure false
  cases e <;> first
    | rfl
    | (cases t <;> first | rfl | exact absurd rfl (h _ _))
theorem swp_sub {a i e : Expr} {p : Pos} {env : Env} : swappedStores [.Subscript a i p] e env = pure none := by
  cases e <;> rfl
theorem swp_no {ts : List Expr} {k : Nat} {p : Pos} {e : Expr} {env : Env} (h : noSwp ts e = true) : swappedStores [.Tuple ts k p] e env = pure none := by
  cases e with
  | Tuple vs k2 p2 =>
    have h : (vs.all (foldedForSure 8) || !(ts.length == 2 || ts.length == 3)) = true := h
    unfold swappedStores
    dsimp only
    by_cases c1 : (!(ts.length == 2 || ts.length == 3) || vs.length != ts.length || env.blockKind != .function) = true
    · rw [if_pos c1]
    · have c2 : (!(ts.length == 2 || ts.length == 3)) = false := by
        cases q : !(ts.length == 2 || ts.length == 3) with
        | false => rfl
        | true => exact absurd (by rw [q]; rfl) c1
      rw [c2, Bool.or_false] at h
      rw [if_neg c1, h]
      simp only [if_true]
      split <;> first
        | rfl
        | (split <;> rfl)
  | _ => rfl
theorem swp_tup {ts : List Expr} {k : Nat} {p : Pos} {e : Expr} {env : Env} (h : notTup e = true) : swappedStores [.Tuple ts k p] e env = pure none := by
  cases e <;> first | rfl | cases h


/-! ### except suites -/
theorem VD.now {V : VEnds} {D : Ends} {T ρ : List Addr} {env : VE} {vh : VH} {σ : L2.St} {H : Hp} (R : Rel G B T ρ env vh σ H) (vd : VD G B V D) : VD G (B.now T ρ env σ H) V D :=
  ⟨fun ρ env vh σ H R' z => vd.nx _ _ _ _ _ (R.unbase R') z, fun x v ρ vh H r z => vd.rt _ _ _ _ _ (r.unbase R) z, fun ρ env vh σ H R' z => vd.bk _ _ _ _ _ (R.unbase R') z, fun ρ env vh σ H R' z => vd.ct _ _ _ _ _ (R.unbase R') z⟩
theorem okG_pc {x : Str} : okG (("%e." : Str) ++ x) = false := by
  unfold okG
  have e : (("%e." : Str) ++ x).cps.toList.head? = some 37 := by
    show ((("%e." : Str).cps ++ x.cps).toList).head? = some 37
    rw [Array.toList_append]
    rfl
  rw [e]
  rfl
theorem eNm_inj {x y : Str} (h : eNm x = eNm y) : x = y := by
  unfold eNm at h
  have h1 : (("%e." : Str) ++ x).cps = (("%e." : Str) ++ y).cps := congrArg Str.cps h
  have h2 : ("%e." : Str).cps ++ x.cps = ("%e." : Str).cps ++ y.cps := h1
  have h3 : x.cps = y.cps := by
    apply Array.toList_inj.mp
    have := congrArg Array.toList h2
    rw [Array.toList_append, Array.toList_append] at this
    exact List.append_cancel_left this
  cases x; cases y
  exact congrArg Str.mk h3
theorem errG_ok {ns anc : List Str} {xs : List D} {a : Addr} {x : Str} (h : okG x = true) : errG Γ ns anc xs a x = Γ x := by
  unfold errG
  rw [if_neg (fun z => by subst z; exact absurd h (by decide +kernel)), if_neg (fun z => by subst z; exact absurd h (by decide +kernel)), if_neg (fun z => by subst z; exact absurd h (by decide +kernel))]
  have e : (ns.zip xs).find? (fun p => decide (eNm p.1 = x)) = none := by
    rw [List.find?_eq_none]
    intro p _ hp
    have e := of_decide_eq_true hp
    rw [← e] at h
    unfold eNm at h
    rw [okG_pc] at h
    cases h
  rw [e]
theorem errG_fld {ns anc : List Str} {xs : List D} {a : Addr} {f : Str} {d : D} (no : Γ (eNm f) = none) (h : errG Γ ns anc xs a (eNm f) = some d) : ∃ p, (ns.zip xs).find? (fun p => decide (eNm p.1 = eNm f)) = some p ∧ p.2 = d := by
  unfold errG at h
  rw [if_neg (fun z => by
    have h1 := congrArg (fun y : Str => y.cps.toList.length) z
    have h2 := congrArg (fun y : Str => y.cps.toList[1]?) z
    unfold eNm at h2
    have e : (("%e." : Str) ++ f).cps.toList[1]? = some 101 := by
      show ((("%e." : Str).cps ++ f.cps).toList)[1]? = _
      rw [Array.toList_append]
      rfl
    rw [e] at h2
    exact absurd h2 (by decide +kernel)), if_neg (fun z => by
    have h2 := congrArg (fun y : Str => y.cps.toList[1]?) z
    unfold eNm at h2
    have e : (("%e." : Str) ++ f).cps.toList[1]? = some 101 := by
      show ((("%e." : Str).cps ++ f.cps).toList)[1]? = _
      rw [Array.toList_append]
      rfl
    rw [e] at h2
    exact absurd h2 (by decide +kernel)), if_neg (fun z => by
    have h2 := congrArg (fun y : Str => y.cps.toList[1]?) z
    unfold eNm at h2
    have e : (("%e." : Str) ++ f).cps.toList[1]? = some 101 := by
      show ((("%e." : Str).cps ++ f.cps).toList)[1]? = _
      rw [Array.toList_append]
      rfl
    rw [e] at h2
    exact absurd h2 (by decide +kernel))] at h
  split at h
  · rename_i p hp
    cases h
    exact ⟨p, hp, rfl⟩
  · rw [no] at h
    cases h
theorem fld_get {Z : Addr → Prop} {ρ : List Addr} {H : Hp} {f : Str} : ∀ {ws : List (Str × V)} {xs : List D} {p : Str × D}, RDs G Z ρ H xs (ws.map (·.2)) → ((ws.map (·.1)).zip xs).find? (fun p => decide (eNm p.1 = eNm f)) = some p → ∃ v, ws.lookup f = some v ∧ RD G Z ρ H p.2 v
  | [], xs, p, h, e => by simp at e
  | w :: ws, [], p, h, e => by simp at e
  | (n, v) :: ws, x :: xs, p, h, e => by
    obtain ⟨v', r, e1, h1, h2⟩ := h
    cases e1
    rw [List.map_cons, List.zip_cons_cons, List.find?_cons] at e
    by_cases q : n = f
    · subst q
      rw [decide_eq_true (show eNm ((n, v).1, x).1 = eNm n from rfl)] at e
      cases e
      exact ⟨v, by simp, h1⟩
    · rw [decide_eq_false (fun z => q (eNm_inj z))] at e
      obtain ⟨u, h3, h4⟩ := fld_get h2 e
      refine ⟨u, ?_, h4⟩
      rw [List.lookup_cons]
      have : (f == n) = false := by simpa using fun z => q z.symm
      rw [this]
      exact h3
theorem strs_inj : ∀ {a b : List Str}, a.map D.str = b.map D.str → a = b
  | [], [], _ => rfl
  | [], _ :: _, h => by cases h
  | _ :: _, [], h => by cases h
  | x :: xs, y :: ys, h => by
    injection h with h1 h2
    injection h1 with h1
    rw [h1, strs_inj h2]
theorem suite_ok {n m : Nat} (hB : ∀ (body : List Stmt) (irs : List S) (X : Cx) (B : Base) (K : XP) (Γ : Cns) (c : Tc), Sk X G B K Φ Γ c sc → trB c m sc n body = some irs → PSs X body (tS G B fun V env vh => wpB Φ Γ irs K V env vh)) (k : Sk X G B K Φ Γ c sc) (hc : hotN ∉ c.fs)
    {body : List Stmt} {su : List S} (h : trB c.hot m sc n body = some su) (o : Option Nat) (a : Addr) (oe : Obj) (cls : Value) (d : Option Addr) (pn : List (Addr × Obj)) (hz : Zc cls d oe) (hf : ∃ vs, oe.data = .fields vs) :
    PSs (X.suite a ((a, oe) :: pn)) body (tSu G B Φ Γ c.tb o su a cls d) := by
  refine ⟨fun pins s σ H D I ⟨x, C, ns, anc, xs, ρ, env, vh, V, hC, ec, ht, hn, R, xf, vd, w⟩ => ?_⟩
  refine (hB body su (X.suite a ((a, oe) :: pn)) (B.now [] ρ (onE o a env) σ H) noX (errG Γ ns anc xs a) c.hot ?_ h).run pins s σ H D I ⟨ρ, onE o a env, vh, offV o V, R.rebase, vd.now R, w⟩
  have noΓ : ∀ y, okG y = false → Γ y = none := fun y hy => by
    cases q : Γ y with
    | none => rfl
    | some d => rw [k.o.ok hc y d q] at hy; cases hy
  refine ⟨{ hK := k.o.hK, calm := fun z => absurd List.mem_cons_self z, nd := k.o.nd, hu := k.o.hu, gu := k.o.gu, tk := ?_, fn := ?_, cn := ?_, bl := k.o.bl, mt := fun m hm => absurd (List.mem_singleton.mp hm) (pm_hot m), mkC := fun c hc => absurd (List.mem_singleton.mp hc) (pc_hot c), ic := fun f hf => absurd (List.mem_singleton.mp hf) (pf_hot f), rm := fun z => absurd List.mem_cons_self z, ok := fun z => absurd List.mem_cons_self z, er := ?_, po := PassesOwn.never, fnT := k.o.fnT, stk := k.o.stk, frm := k.o.frm, exN := k.o.exN }, k.hN, k.hs, k.mkx, k.hd, k.tk, k.xf, k.isd, ?_⟩
  · rintro u s' ⟨a1, B1, sI, pins, σ, H, cls, d, e, I, nb, up, sky, na, os, ag, _, _, _, _, _, _, _, _, _, _, _, kk⟩
    exact kk.elim
  · intro f hf hn
    simp only [Tc.hot, List.mem_cons, List.not_mem_nil, or_false] at hf
    subst hf
    exact absurd hn (by decide)
  · intro x d hx hk
    rw [errG_ok hk] at hx
    exact k.o.cn x d hx hk
  · intro _ i f e pos he hb
    refine ⟨fun pins1 s1 σ1 H1 Q I1 ⟨T1, ρ1, env1, vh1, R1, dd, e1, w1⟩ => ?_⟩
    unfold wpAttr at w1
    split at w1
    · rename_i a'
      obtain ⟨ea, y, hx, fx⟩ := w1
      have ea' : a = a' := by
        have : errG Γ ns anc xs a "%a" = some (.adr a) := by unfold errG; rw [if_pos rfl]
        rw [this] at ea
        exact _root_.R.D.adr.inj (Option.some.inj ea)
      subst ea'
      have hs1 : env1[i]? = some (.val (.adr a)) := by
        unfold Op.raw at e1
        dsimp only at e1
        split at e1
        · rename_i d hd
          cases e1
          exact hd
        · cases e1
      obtain ⟨v1, hv1, rv1⟩ := R1.st i _ hs1
      cases (show v1 = .ref a from rv1)
      obtain ⟨p, hp, rfl⟩ := errG_fld (noΓ _ okG_pc) hx
      have hns : f ∈ ns := by
        have h1 := List.mem_of_find?_eq_some hp
        have h2 := List.find?_some hp
        have h3 : p.1 = f := eNm_inj (of_decide_eq_true h2)
        rw [← h3]
        exact (List.of_mem_zip h1).1
      obtain ⟨xf1, xf2⟩ := k.xf x C hC
      cases d with
      | none =>
        obtain ⟨_, z⟩ := xf
        rw [z] at hns
        cases hns
      | some da =>
        obtain ⟨_, ws, vs, g1, g2, g3, g4⟩ := xf
        subst ec
        subst g3
        rw [← g2] at hp
        have ms := R.moved R1
        obtain ⟨v, q1, q2⟩ := fld_get (RDs.move ms _ _ g4) hp
        have hda : H1 da = some (.xd ws) := R1.kp da _ g1 fun z => by
          obtain ⟨u, z1, z2⟩ := R.tk da (.inr z)
          rw [g1] at z1
          cases z1
          exact z2
        refine (pe_xf xf1 (xf2 f (by rw [← hn]; exact hns)) hz hf he (hb f)).run pins1 s1 σ1 H1 Q I1 ⟨.ref a, hv1, rfl, rfl, da, ws, v, rfl, hda, q1, ?_⟩
        exact fx ρ1 v H1 (R1.res q2)
    · exact w1.elim
  · intro _ x hx i e p p2 pos he hgi hgx hst
    obtain ⟨db, cv, hcv, ans⟩ := k.isd x hx
    obtain ⟨hC1, hC2⟩ := ans _ C hC ns anc ht
    subst ec
    refine ⟨fun pins1 s1 σ1 H1 Q I1 ⟨T1, ρ1, env1, vh1, R1, dd, e1, w1⟩ => ?_⟩
    unfold wpIsx at w1
    split at w1
    · rename_i a'
      obtain ⟨ea, en, anc', ec, fx⟩ := w1
      have g1 : errG Γ ns anc xs a "%a" = some (.adr a) := by unfold errG; rw [if_pos rfl]
      have g2 : errG Γ ns anc xs a "%c" = some (.tup (anc.map .str)) := by unfold errG; rw [if_neg (by decide +kernel), if_pos rfl]
      have g3 : errG Γ ns anc xs a "%n" = some (.int ns.length) := by unfold errG; rw [if_neg (by decide +kernel), if_neg (by decide +kernel), if_pos rfl]
      have ea' : a = a' := by
        rw [g1] at ea
        exact _root_.R.D.adr.inj (Option.some.inj ea)
      subst ea'
      rw [g2] at ec
      rw [g3] at en
      have eanc : anc' = anc := strs_inj (_root_.R.D.tup.inj (Option.some.inj ec)).symm
      subst eanc
      have nl : ns = [] := by
        have := _root_.R.D.int.inj (Option.some.inj en)
        exact List.length_eq_zero_iff.mp (by omega)
      have dn : d = none := by
        cases d with
        | none => rfl
        | some da => exact absurd nl xf.1
      subst dn
      have hs1 : env1[i]? = some (.val (.adr a)) := by
        unfold Op.raw at e1
        dsimp only at e1
        split at e1
        · rename_i d hd
          cases e1
          exact hd
        · cases e1
      obtain ⟨v1, hv1, rv1⟩ := R1.st i _ hs1
      cases (show v1 = .ref a from rv1)
      have hbl : (X.suite a ((a, oe) :: pn)).mg "isinstance" = none := k.o.bl _ (by decide +kernel)
      have fin_ : ∀ (c' : L2.V), (∀ u, RelV c' u → u = cv) → PE (X.suite a ((a, oe) :: pn)) (.Name x p2) (tC c') → wpAny (model X.prog X.w) (X.suite a ((a, oe) :: pn)).A (eval (.Call (.Name "isinstance" p) [e, .Name x p2] [] pos) X.env) (EP (X.suite a ((a, oe) :: pn)) pins1 σ1 Q) (X.suite a ((a, oe) :: pn)).xe s1 := fun c' hc' pc =>
        (pe_callB (call_isE hC1 hz hf) hgi hbl (by decide +kernel) (pa_cons he (pa_cons pc pa_nil rfl) hst) (by decide +kernel) (by decide +kernel) hst rfl).run pins1 s1 σ1 H1 Q I1 ⟨.ref a, hv1, ⟨c', cv, _, rfl, hc', hC2, fx ρ1 _ H1 (R1.res rfl)⟩⟩
      rcases hcv with ⟨hm, A, rfl⟩ | ⟨hm, hb, hn, T', rfl⟩
      · exact fin_ (.ref A) (fun u h => h) (pe_glob hgx hm rfl db)
      · exact fin_ (.ty T') (fun u h => h) (pe_bltn hgx hm hb rfl hn db)
    · exact w1.elim
theorem trH_ok {n m : Nat} (hB : ∀ (body : List Stmt) (irs : List S) (X : Cx) (B : Base) (K : XP) (Γ : Cns) (c : Tc), Sk X G B K Φ Γ c sc → trB c m sc n body = some irs → PSs X body (tS G B fun V env vh => wpB Φ Γ irs K V env vh)) (k : Sk X G B K Φ Γ c sc) (hc : hotN ∉ c.fs) :
    ∀ (hds : List ExceptHandler) (r : List (Str × Option Nat) × List (List S)), trH c (trB c.hot m sc n) sc hds = some r → HsOk X G B Φ Γ c.tb hds r.1 r.2
  | [], r, h => by
    cases h
    exact .nil
  | hd :: hds, r, h => by
    unfold trH at h
    split at h
    · rename_i e
      cases e
    · rename_i x np b bs pos hs e
      cases e
      obtain ⟨hg, h⟩ := guard_ok h
      rw [Bool.and_eq_true] at hg
      obtain ⟨su, r2, h1, h2, rfl⟩ := o2_ok h
      exact .plain (gl_ok k.cok hg.1) (k.hd _ (of_decide_eq_true hg.2)) (fun a oe cls d pn hz hf => suite_ok hB k hc h1 none a oe cls d pn hz hf) (trH_ok hB k hc _ _ h2)
    · rename_i x np n' b bs pos hs e
      cases e
      obtain ⟨hg, h⟩ := guard_ok h
      rw [Bool.and_eq_true, Bool.and_eq_true] at hg
      split at h
      · rename_i i hi
        obtain ⟨hg2, h⟩ := guard_ok h
        obtain ⟨su, r2, h1, h2, rfl⟩ := o2_ok h
        exact .named (by rw [k.hN]; exact of_decide_eq_true hg2) (by show X.env.scope.names.lookup _ = _; rw [k.hs]; exact of_decide_eq_true hg.2) (gl_ok k.cok hg.1.1) (k.hd _ (of_decide_eq_true hg.1.2)) (fun a oe cls d pn hz hf => suite_ok hB k hc h1 (some i) a oe cls d pn hz hf) (trH_ok hB k hc _ _ h2)
      · cases h
    · cases h
theorem unp_ok (k : Sk X G B K Φ Γ c sc) (hc : hotN ∉ c.fs) {f : Md → Scope → Expr → Option E} (hV : ∀ e ir, f .V sc e = some ir → OkV X G B K Φ Γ e ir) {ts : List Expr} {kt : Nat} {pt pos : Pos} {e : Expr} {ir : S} (h : trUnp c sc f ts e = some ir) :
    PS X (.Assign [.Tuple ts kt pt] e pos) (tS G B fun V env vh => wpS Φ Γ ir K V env vh) := by
  unfold trUnp at h
  obtain ⟨hg, h⟩ := guard_ok h
  rw [Bool.and_eq_true] at hg
  obtain ⟨is, ir, h1, h2, rfl⟩ := o2_ok h
  obtain ⟨r1, r2, r3⟩ := wrs_ok k.o.nd k.hN k.hs (fun x _ => k.o.fnT x) h1
  refine rs_unp k.o (mE ir K false) (hV _ _ h2) ?_ (swS_no fun _ _ e => by cases e) (swp_no hg.2) rfl
  show PG X _ (gTup G.K is.length (gNames is))
  rw [← k.o.hK]
  exact pg_tup (k.o.calm hc) r1 r2 r3
theorem tasx_ok (k : Sk X G B K Φ Γ c sc) {f : Md → Scope → Expr → Option E} (hO : ∀ e ir, f .O sc e = some ir → OkO X G B K Φ Γ e ir) : ∀ {es : List Expr} {ts : List Ta}, trTas c sc f es = some ts →
    PGs X es (gTas G B ts) ∧ (assignEach es X.env).length = ts.length ∧ (assignEach es X.env).findIdx? (·.1) = none ∧ ∀ g, g ∈ taF ts → pfN g ∈ c.fs
  | [], ts, h => by
    cases h
    exact ⟨pgs_nil, rfl, rfl, fun g hg => by cases hg⟩
  | .Name x p :: es, ts, h => by
    unfold trTas at h
    split at h
    · rename_i i ts h1 h2
      cases h
      obtain ⟨q1, q2, q3⟩ := wr_ok k.hN k.hs (fun x _ => k.o.fnT x) h1
      obtain ⟨r1, r2, r3, r4⟩ := tasx_ok k hO h2
      refine ⟨pgs_cons (pg_name k.o.nd q1 q2 q3) r1 rfl, ?_, ?_, r4⟩
      · show (assignEach es X.env).length + 1 = _
        rw [r2]
        rfl
      · show List.findIdx? (·.1) ((false, assign (.Name x p) X.env) :: assignEach es X.env) = none
        rw [List.findIdx?_cons]
        simp [r3]
    · cases h
  | .Attribute (.Name x p) m pos :: es, ts, h => by
    unfold trTas at h
    split at h
    · rename_i j ts h1 h2
      split at h
      · rename_i hm
        cases h
        obtain ⟨r1, r2, r3, r4⟩ := tasx_ok k hO h2
        have ho := hO _ _ h1
        refine ⟨pgs_cons (t := gFld G.K (tO G B (oB j)) m) (by rw [← k.o.hK]; exact pg_fld ho) r1 rfl, ?_, ?_, ?_⟩
        · show (assignEach es X.env).length + 1 = _
          rw [r2]
          rfl
        · show List.findIdx? (·.1) ((false, assign (.Attribute (.Name x p) m pos) X.env) :: assignEach es X.env) = none
          rw [List.findIdx?_cons]
          simp [r3]
        · intro g hg
          rcases List.mem_cons.mp hg with rfl | hg
          · exact of_decide_eq_true hm
          · exact r4 g hg
      · cases h
    · cases h
theorem unpG_ok (k : Sk X G B K Φ Γ c sc) (hc : hotN ∉ c.fs) {f : Md → Scope → Expr → Option E} (hV : ∀ e ir, f .V sc e = some ir → OkV X G B K Φ Γ e ir) (hO : ∀ e ir, f .O sc e = some ir → OkO X G B K Φ Γ e ir) {ts : List Expr} {kt : Nat} {pt pos : Pos} {e : Expr} {ir : S} (h : trUnpG c sc f ts e = some ir) :
    PS X (.Assign [.Tuple ts kt pt] e pos) (tS G B fun V env vh => wpS Φ Γ ir K V env vh) := by
  unfold trUnpG at h
  split at h
  · rename_i s hs
    cases h
    exact unp_ok k hc hV hs
  obtain ⟨hg, h⟩ := guard_ok h
  rw [Bool.and_eq_true] at hg
  obtain ⟨ta, ir, h1, h2, rfl⟩ := o2_ok h
  obtain ⟨r1, r2, r3, r4⟩ := tasx_ok k hO h1
  refine rs_unpG k.o (mE ir K false) (hV _ _ h2) r4 ?_ (swS_no fun _ _ e => by cases e) (swp_no hg.2) rfl
  rw [← k.o.hK]
  exact pg_tup (k.o.calm hc) r1 r2 r3
theorem trS_ok {n m : Nat} (hB : ∀ (body : List Stmt) (irs : List S) (X : Cx) (B : Base) (K : XP) (Γ : Cns) (c : Tc), Sk X G B K Φ Γ c sc → trB c m sc n body = some irs → PSs X body (tS G B fun V env vh => wpB Φ Γ irs K V env vh)) (k : Sk X G B K Φ Γ c sc) {st : Stmt} {ir : S}
    (h : trS1 c (trB c m sc n) (trB c.hot m sc n) (tr c m) sc st = some ir) : PS X st (tS G B fun V env vh => wpS Φ Γ ir K V env vh) := by
  have hV : ∀ e ir, tr c m .V sc e = some ir → OkV X G B K Φ Γ e ir := fun e ir h => tr_ok m .V sc e ir X B K k.cok h
  have hO : ∀ e ir, tr c m .O sc e = some ir → OkO X G B K Φ Γ e ir := fun e ir h => tr_ok m .O sc e ir X B K k.cok h
  have hT : ∀ e ir, tr c m .T sc e = some ir → OkT X G B K Φ Γ e ir := fun e ir h => tr_ok m .T sc e ir X B K k.cok h
  have hW : ∀ {x : Str} {i : Nat}, wrIx c sc (fun _ => true) x = some i → X.N[i]? = some x ∧ Loc X.env.scope x := fun {x i} h => by
    obtain ⟨q1, q2, q3⟩ := wr_ok k.hN k.hs (fun x _ => k.o.fnT x) h
    exact ⟨q1, q2⟩
  unfold trS1 at h
  split at h
  · cases h; exact rs_pass
  · cases h; exact rs_break
  · cases h; exact rs_cont
  · rename_i x p args pos pos'
    obtain ⟨hg, h'⟩ := guard_ok h
    clear h
    have h := h'
    clear h'
    rw [Bool.and_eq_true] at hg
    have hc := cool_ok hg.1
    have hgl := gl_ok k.cok hg.2
    replace h : trR c (tr c m) sc x args = some ir := h
    unfold trR at h
    split at h
    · rename_i anc hl
      cases h
      obtain ⟨C, hC, ⟨hf, T⟩ | ⟨f, fI, hf, T⟩⟩ := k.mkx _ _ _ hl
      · exact rs_raise0 k.o hc hgl hC hf T
      · have q := k.tk _ C hC _ _ hl
        rw [hf] at q
        cases q
    · rename_i fd anc e hl
      obtain ⟨hp, h⟩ := guard_ok h
      obtain ⟨u, h1, rfl⟩ := map_ok h
      obtain ⟨C, hC, ⟨hf, T⟩ | ⟨f, fI, hf, T⟩⟩ := k.mkx _ _ _ hl
      · have q := k.tk _ C hC _ _ hl
        rw [hf] at q
        cases q
      · exact rs_raise1 k.o hc hgl hC hf T (mEs [u] K) (ra_cons (mE u K false) (mEs [] K) (hV _ _ h1) ra_nil (star_cons hp)) (star_cons hp)
    · cases h
  · rename_i body hd hds pos
    obtain ⟨hg, h⟩ := guard_ok h
    obtain ⟨b, r, h1, h2, rfl⟩ := o2_ok h
    exact rs_try k.o k.tk (fun X' K' e1 e2 e3 e4 o' => hB _ _ X' B K' Γ c ⟨o', e1.trans k.hN, by rw [e2]; exact k.hs, by rw [e3, e4]; exact k.mkx, by rw [e3, e4]; exact k.hd, k.tk, by rw [e3]; exact k.xf, by rw [e3, e4]; exact k.isd, fun z => absurd (cool_ok hg) (by unfold cool at z; simpa using z)⟩ h1) (cool_ok hg) (trH_ok hB k (cool_ok hg) _ _ h2)
  · cases h; exact rs_retN
  · split at h
    · obtain ⟨i, h1, rfl⟩ := map_ok h
      exact rs_retO (pe_slot k.cok h1)
    · obtain ⟨e, h1, rfl⟩ := map_ok h
      exact rs_ret (mE e K false) (hV _ _ h1)
  · obtain ⟨e, h1, rfl⟩ := map_ok h
    exact rs_ret (mE e K false) (hV _ _ h1)
  · cases h; exact rs_doc
  · rename_i a mm apos e cpos pos
    split at h
    · obtain ⟨e, h1, rfl⟩ := map_ok h
      exact rs_expr (mE e K false) (hV _ _ h1) (swaps_no rfl _ _ _)
    split at h
    · rename_i hx
      rw [Bool.and_eq_true] at hx
      have hm : mm = ("append" : Str) := of_decide_eq_true hx.2
      subst hm
      unfold trAppF at h
      split at h
      · obtain ⟨hg, h⟩ := guard_ok h
        obtain ⟨u, h1, rfl⟩ := map_ok h
        exact rs_appF k.o (mE u K false) (hV _ _ h1) (attr_callA hx.1) hg
      · cases h
    obtain ⟨hg, h'⟩ := guard_ok h
    clear h
    simp only [Bool.and_eq_true] at hg
    obtain ⟨⟨⟨g1, g2⟩, g3⟩, g4⟩ := hg
    by_cases gp : mm = ("pop" : Str)
    · subst gp
      rw [decide_eq_true rfl] at h'
      have h' : trPop (tr c m .O sc a) (tr c m .V sc e) = some ir := h'
      unfold trPop at h'
      split at h'
      · rename_i o h1 h2
        cases h'
        exact rs_pop k.o (mO o K) (hO _ _ h1) (hV _ _ h2) (attr_no g3) g4 (star_cons g2)
      · cases h'
    rw [decide_eq_false gp] at h' g1
    rw [Bool.or_false] at g1
    obtain ⟨u, v, h1, h2, rfl⟩ := o2_ok h'
    by_cases ga : mm = ("append" : Str)
    · subst ga
      exact rs_app k.o (mO u K) (mE v K false) (hO _ _ h1) (hV _ _ h2) (attr_no g3) g4 (star_cons g2)
    · rw [decide_eq_false ga, Bool.false_or] at g1
      have g1 : mm = ("extend" : Str) := of_decide_eq_true g1
      subst g1
      rw [decide_eq_false ga]
      exact rs_ext k.o (mO u K) (mE v K false) (hO _ _ h1) (hV _ _ h2) (attr_no g3) g4 (star_cons g2)
  · obtain ⟨hg, h⟩ := guard_ok h
    obtain ⟨e, h1, rfl⟩ := map_ok h
    exact rs_expr (mE e K false) (hV _ _ h1) (swaps_no hg _ _ _)
  · rename_i x p elt gens scope cpos pos
    obtain ⟨hg, h⟩ := guard_ok h
    obtain ⟨i, e, h1, h2, rfl⟩ := o2_ok h
    unfold lcB at hg
    simp only [Bool.and_eq_true, Bool.not_eq_true', decide_eq_true_eq] at hg
    obtain ⟨⟨⟨g1, g2⟩, g3⟩, g4⟩ := hg
    obtain ⟨q1, q2⟩ := hW h1
    obtain ⟨tg, iter, ifs, own, wi, g, tt, te, rfl, hi, ok, hgg, ht, he, hs, im⟩ := lc_parts k.cok hV (fun m' e ir X' B' k' h' => tr_ok m m' _ e ir X' B' _ k' h') h2
    refine stOf_ok ((ps_setLc (pos := cpos) (spos := pos) (py := p) (k.o.calm (trLc_cool h2)) k.o.nd q1 (by rw [k.hs]; exact g2) (sw_true (by rw [k.hs]; exact g1) (by rw [k.hs]; exact g2) g3 g4) hi ok hgg ht he hs).imp fun D σ H z => im _ _ _ z)
  · rename_i x p e pos _
    obtain ⟨hg, h⟩ := guard_ok h
    obtain ⟨i, ir, h1, h2, rfl⟩ := o2_ok h
    obtain ⟨q1, q2⟩ := hW h1
    exact stOf_ok (pas_set k.o q1 q2 (hV _ _ h2) (swaps_no hg _ _ _))
  · rename_i x px y py kt pt a b k2 pt2 pos
    obtain ⟨hc, h⟩ := guard_ok h
    have hc := cool_ok hc
    split at h
    rotate_left
    · exact unp_ok k hc hV h
    rename_i hg
    split at h
    · rename_i i j u v h1 h2 h3 h4
      obtain ⟨hn, h⟩ := guard_ok h
      cases h
      have hg0 := hg
      unfold parB at hg
      simp only [Bool.and_eq_true, Bool.not_eq_true', decide_eq_true_eq] at hg
      obtain ⟨⟨⟨⟨⟨⟨⟨⟨g1, g2⟩, g3⟩, g4⟩, g5⟩, g6⟩, g7⟩, g8⟩, g9⟩ := hg
      have hij : i ≠ j := by
        unfold neB at hn
        simpa using hn
      exact rs_par k.o hc (mEs [u, v] K) (hW h1).1 (hW h2).1 hij (by rw [k.hs]; exact g2) (by rw [k.hs]; exact g3) (ra_cons (mE u K false) (mEs [v] K) (shrIf_ok (hV a) h3) (ra_cons (mE v K false) (mEs [] K) (shrIf_ok (hV b) h4) ra_nil (star_cons g7)) (star_cons g6)) (par_ok k.hs hg0) (swS_no fun _ _ e => by cases e)
    · cases h
  · rename_i ts kt pt e pos _
    obtain ⟨hc, h⟩ := guard_ok h
    exact unpG_ok k (cool_ok hc) hV hO h
  · rename_i a lo p2 tpos e pos
    obtain ⟨u, v, w, h1, h2, h3, rfl⟩ := o3_ok h
    exact rs_sasg k.o (mO u K) (mE v K false) (mE w K false) (hO _ _ h1) (hV _ _ h2) (hV _ _ h3) (swS_no fun _ _ e => by cases e) swp_sub
  · rename_i a i tpos e pos _
    obtain ⟨hg, h⟩ := guard_ok h
    obtain ⟨u, v, w, h1, h2, h3, rfl⟩ := o3_ok h
    exact rs_sidx k.o (mO u K) (mE v K false) (mE w K false) (hO _ _ h1) (hV _ _ h2) (hV _ _ h3) (sub_asg hg _) (swS_no fun _ _ e => by cases e) swp_sub rfl
  · rename_i a mm pos' e pos
    obtain ⟨hg, h⟩ := guard_ok h
    obtain ⟨u, v, h1, h2, rfl⟩ := o2_ok h
    exact rs_fset k.o (mO u K) (mE v K false) (hO _ _ h1) (shrIf_ok (hV e) h2) (of_decide_eq_true hg) (show swapsWithSole [.Attribute a mm pos'] e pos.line X.env = pure false from swS_no fun _ _ z => by cases z)
  · rename_i a mm pos' op e pos
    obtain ⟨hg, h⟩ := guard_ok h
    obtain ⟨u, v, h1, h2, rfl⟩ := o2_ok h
    exact rs_faug k.o (mO u K) (mE v K false) (hO _ _ h1) (hV _ _ h2) (of_decide_eq_true hg)
  · obtain ⟨i, e, h1, h2, rfl⟩ := o2_ok h
    obtain ⟨q1, q2⟩ := hW h1
    exact rs_aug k.o (mE e K false) q1 q2 (hV _ _ h2)
  · obtain ⟨t, a, b, h1, h2, h3, rfl⟩ := o3_ok h
    exact rs_cond (mE t K true) (hT _ _ h1).1 (hB _ _ _ _ _ _ _ k h2) (hB _ _ _ _ _ _ _ k h3)
  · rename_i tg iter body pos
    obtain ⟨hc, h⟩ := guard_ok h
    have hc := cool_ok hc
    split at h
    · rename_i t ik es b h1 h2 h3
      cases h
      obtain ⟨hi, hfs⟩ := trI_ok (tg := tg) k.cok hV h2
      have key := rs_for k.o hc (mI ik es K) (body := body) (pos := pos) (wb := fun V env vh => wpB Φ Γ b K V env vh) hi (trTg_ok (k.o.calm hc) k.o.hK k.o.nd k.hN k.hs (fun x _ => k.o.fnT x) h1) (fun B' o' => hB _ _ X B' K Γ c ⟨o', k.hN, k.hs, k.mkx, k.hd, k.tk, k.xf, k.isd, fun z => absurd hc (by unfold cool at z; simpa using z)⟩ h3) hfs
      exact key
    · cases h
  · obtain ⟨t, b, h1, h2, rfl⟩ := o2_ok h
    exact rs_whl k.o (mE t K true) (hT _ _ h1).1 (hB _ _ _ _ _ _ _ k h2)
  · cases h
end
section
variable {G : Wd} {Φ : Fns}
theorem trB_ok {m : Nat} {sc : Scope} : ∀ (n : Nat) (body : List Stmt) (irs : List S) (X : Cx) (B : Base) (K : XP) (Γ : Cns) (c : Tc), Sk X G B K Φ Γ c sc → trB c m sc n body = some irs → PSs X body (tS G B fun V env vh => wpB Φ Γ irs K V env vh)
  | 0, _, _, _, _, _, _, _, _, h => by cases h
  | n + 1, [], irs, X, B, K, Γ, c, k, h => by
    cases h
    exact rs_nil
  | n + 1, st :: ss, irs, X, B, K, Γ, c, k, h => by
    obtain ⟨b, h2, rfl⟩ := map_ok (show (trB c m sc n ss).map (fun r => ((trS1 c (trB c m sc n) (trB c.hot m sc n) (tr c m) sc st).getD .never) :: r) = some irs from h)
    cases q : trS1 c (trB c m sc n) (trB c.hot m sc n) (tr c m) sc st with
    | none => exact rs_cons (w1 := fun V env vh => wpS Φ Γ .never K V env vh) (w2 := fun V env vh => wpB Φ Γ b K V env vh) rs_never (trB_ok n ss b X B K Γ c k h2)
    | some a => exact rs_cons (w1 := fun V env vh => wpS Φ Γ a K V env vh) (w2 := fun V env vh => wpB Φ Γ b K V env vh) (trS_ok (fun body irs X B K Γ c => trB_ok n body irs X B K Γ c) k q) (trB_ok n ss b X B K Γ c k h2)
end
end R

set_option autoImplicit false
namespace R
open PySem PySem.Spec PyProof.Rows L2
/-! ## R10: defs -/
def startE (N : List Str) (ds : List D) : VE := ds.map Slot.val ++ List.replicate (N.length - ds.length) Slot.no
/-- the body keeps the promise -/
def Sat (Φ : Fns) (Γ : Cns) (irs : List S) (N ps : List Str) (sp : VSp) : Prop := ∀ ds vh R, sp.run ds vh R → ds.length = ps.length ∧
  wpB Φ Γ irs (fun c xs _ vh => R (.exc c xs) vh) ⟨fun _ vh => R (.ok (.v .non)) vh, fun x vh => R (.ok x) vh, fun _ _ => False, fun _ _ => False⟩ (startE N ds) vh
/-- a def that may be called by its name -/
structure Df (P : Program) (w : World) (K : PySem.W.Frag) (mg : Str → Option Value) (base : Heap) (G : Wd) (k : Nat) (x : Str) (sp : VSp) : Prop where
  ex : ∃ (a : Addr) (fd : FuncData) (ps : List Str), mg x = some (.ref a) ∧ PySem.W.keepIn K (.ref a) = true ∧ Binds K fd ps [] ∧ FnG P w K mg base (L2.CX P w) k a fd ps (spV G sp) ∧ (x == ("__debug__" : Str)) = false
theorem Df.mono {P : Program} {w : World} {K : PySem.W.Frag} {mg : Str → Option Value} {base : Heap} {G : Wd} {j k : Nat} {x : Str} {sp : VSp} (h : Df P w K mg base G j x sp) (l : j ≤ k) : Df P w K mg base G k x sp := by
  obtain ⟨a, fd, ps, h1, h2, h3, h4, h5⟩ := h.ex
  exact ⟨a, fd, ps, h1, h2, h3, h4.mono l, h5⟩
/-- a class's method -/
def MtF (P : Program) (w : World) (K : PySem.W.Frag) (mg : Str → Option Value) (base : Heap) (G : Wd) (k : Nat) (C : Addr) (m : Str) (sp : VSp) : Prop :=
  ∃ (a : Addr) (fd : FuncData) (ps : List Str), Cls K C ∧ Meth K C m a ∧ Binds K fd ps [] ∧ FnG P w K mg base (L2.CX P w) k a fd ps (spV G sp)
/-- a class that is made -/
def MkF (P : Program) (w : World) (K : PySem.W.Frag) (mg : Str → Option Value) (base : Heap) (G : Wd) (k : Nat) (c : Str) (sp : VSp) : Prop :=
  ∃ (C a : Addr) (fd : FuncData) (ps : List Str) (j : Nat), j + 1 ≤ k ∧ G.ci c = some C ∧ mg c = some (.ref C) ∧ Mk K C a ∧ Binds K fd ps [] ∧ FnG P w K mg base (L2.CX P w) j a fd ps (spV G sp) ∧ (c == ("__debug__" : Str)) = false ∧ C8.InsC K C
/-- what a name in the list of names stands for -/
structure DfA (P : Program) (w : World) (K : PySem.W.Frag) (mg : Str → Option Value) (base : Heap) (G : Wd) (k : Nat) (Φ : Fns) (g : Str) : Prop where
  fn : okF g = true → Df P w K mg base G k g (Φ g)
  mt : ∀ m, g = pmN m → ∀ c C, G.ci c = some C → (Φ (mN c m)).ex → MtF P w K mg base G k C m (Φ (mN c m))
  mkC : ∀ c, g = pcN c → MkF P w K mg base G k c (Φ (mN c "__init__"))
  ic : ∀ f, g = pfN f → ∀ c C, G.ci c = some C → Cls K C ∧ NoAttr K C f
section
variable {P : Program} {w : World} {K : PySem.W.Frag} {mg : Str → Option Value} {base : Heap} {G : Wd} {j k : Nat} {Φ : Fns}
theorem MtF.mono {C : Addr} {m : Str} {sp : VSp} (h : MtF P w K mg base G j C m sp) (l : j ≤ k) : MtF P w K mg base G k C m sp := by
  obtain ⟨a, fd, ps, h1, h2, h3, h4⟩ := h
  exact ⟨a, fd, ps, h1, h2, h3, h4.mono l⟩
theorem DfA.of_fn {g : Str} (h : Df P w K mg base G k g (Φ g)) (ok : okF g = true) : DfA P w K mg base G k Φ g :=
  ⟨fun _ => h, fun m e => (by rw [e, ok_pm] at ok; cases ok), fun c e => (by rw [e, ok_pc] at ok; cases ok), fun f e => (by rw [e, ok_pf] at ok; cases ok)⟩
theorem DfA.of_mt {m : Str} (h : ∀ c C, G.ci c = some C → (Φ (mN c m)).ex → MtF P w K mg base G k C m (Φ (mN c m))) : DfA P w K mg base G k Φ (pmN m) :=
  ⟨fun z => (by rw [ok_pm] at z; cases z), fun m' e => (by cases pmN_inj e; exact h), fun c e => (pm_pc _ _ e).elim, fun f e => (pm_pf _ _ e).elim⟩
theorem DfA.of_mk {c : Str} (h : MkF P w K mg base G k c (Φ (mN c "__init__"))) : DfA P w K mg base G k Φ (pcN c) :=
  ⟨fun z => (by rw [ok_pc] at z; cases z), fun m' e => (pm_pc _ _ e.symm).elim, fun c' e => (by cases pcN_inj e; exact h), fun f e => (pc_pf _ _ e).elim⟩
theorem DfA.of_ic {f : Str} (h : ∀ c C, G.ci c = some C → Cls K C ∧ NoAttr K C f) : DfA P w K mg base G k Φ (pfN f) :=
  ⟨fun z => (by rw [ok_pf] at z; cases z), fun m' e => (pm_pf _ _ e.symm).elim, fun c' e => (pc_pf _ _ e.symm).elim, fun f' e => (by cases pfN_inj e; exact h)⟩
end
theorem room65 {k : Nat} {A : Around} (r : Room k A) : A.units + 65 < cLine := by
  have := r.un
  omega
/-- a look at the names of a def -/
def defB (N P : List Str) (sc : Scope) : Bool := decide (sc.kind = .function) && (!sc.isCoroutine && (!sc.isGenerator && (decide N.Nodup && (decide (N.take P.length = P) && (P.all (fun x => decide (sc.names.lookup x = some .local) || decide (sc.names.lookup x = some .cell)) && sc.names.all fun y => !decide (y.2 = .free))))))
theorem defB_ok {N P : List Str} {sc : Scope} (h : defB N P sc = true) : FnScope N P sc := by
  unfold defB at h
  simp only [Bool.and_eq_true, Bool.not_eq_true', decide_eq_true_eq, List.all_eq_true, Bool.or_eq_true, decide_eq_false_iff_not] at h
  exact ⟨h.1, h.2.1, h.2.2.1, h.2.2.2.1, h.2.2.2.2.1, h.2.2.2.2.2.1, h.2.2.2.2.2.2⟩
structure Gnd (K : PySem.W.Frag) (mg : Str → Option Value) (G : Wd) (Γ : Cns) (tb : List (Str × List Str × List Str)) (hs his : List Str) : Prop where
  hK : G.K = K
  ok : ∀ x d, Γ x = some d → okG x = true
  mkx : ∀ x ns anc, tb.lookup x = some (ns, anc) → MkX G K mg x
  hd : ∀ x, x ∈ hs → HdX G K mg tb x
  tk : ∀ x C, G.cl x = some C → ∀ ns anc, tb.lookup x = some (ns, anc) → ns = G.fl x
  xf : FdX G K
  isd : ∀ x, x ∈ his → IsX G K mg tb x
  cn : ∀ x d, Γ x = some d → ∃ u v, mg x = some u ∧ RelV v u ∧ (∀ Z ρ H, RD G Z ρ H d v) ∧ (x == ("__debug__" : Str)) = false
  bl : ∀ x, x ∈ bltNames → mg x = none
section
variable {G : Wd} {B : Base} {ρ : List Addr} {vh : VH} {H : Hp}
theorem startE_length {N : List Str} {ds : List D} (h : ds.length ≤ N.length) : (startE N ds).length = N.length := by
  unfold startE
  rw [List.length_append, List.length_map, List.length_replicate]
  omega
theorem startE_get {N : List Str} {ds : List D} {i : Nat} {s : Slot} (h : (startE N ds)[i]? = some s) : s = .no ∨ ∃ d, s = .val d ∧ ds[i]? = some d := by
  unfold startE at h
  by_cases hi : i < ds.length
  · rw [List.getElem?_append_left (by simpa using hi), List.getElem?_map] at h
    cases e : ds[i]? with
    | none => rw [e] at h; cases h
    | some d => rw [e] at h; cases h; exact .inr ⟨d, rfl, rfl⟩
  · rw [List.getElem?_append_right (by simpa using hi), List.getElem?_replicate] at h
    split at h
    · cases h; exact .inl rfl
    · cases h
theorem Rel.start {N : List Str} {ds : List D} {vs : List V} (R : Rel G B [] ρ [] vh [] H) (h : RDs G (ZZ B.F [] ρ [] []) ρ H ds vs) (hl : ds.length ≤ N.length) : Rel G B [] ρ (startE N ds) vh (L2.start N vs) H := by
  have hO : ∀ i a, Own (startE N ds) (L2.start N vs) a i → False := fun i a ⟨xs, h1, h2⟩ => by
    rcases startE_get h1 with e | ⟨d, e, _⟩ <;> cases e
  refine R.weak (fun _ h => h) R.tn (fun i a z => (hO i a z).elim) ?_ fun i s hs => ?_
  · rw [startE_length hl]
    unfold L2.start
    rw [List.length_append, List.length_map, List.length_replicate, ← h.length]
    omega
  · rcases startE_get hs with rfl | ⟨d, rfl, hd⟩
    · trivial
    · obtain ⟨v, h1, h2⟩ := h.get hd
      refine ⟨v, ?_, RD.move (Mv.less fun b z => ?_) _ _ h2⟩
      · unfold L2.start
        have hi : i < vs.length := (List.getElem?_eq_some_iff.mp h1).1
        rw [List.getElem?_append_left (by simpa using hi), List.getElem?_map, h1]
        rfl
      · rcases z with z | z | z | ⟨j, z⟩
        · exact .inl z
        · exact .inr (.inl z)
        · exact .inr (.inr (.inl z))
        · exact (hO j b z).elim
theorem Rel.leave {T : List Addr} {env : VE} {σ : L2.St} (R : Rel G B T ρ env vh σ H) : Rel G B [] ρ [] vh [] H :=
  R.weak (fun _ h => by cases h) List.nodup_nil (fun i a z => absurd z no_own) rfl fun i s h => by simp at h
theorem leaveMv {T : List Addr} {env : VE} {σ : L2.St} : Mv (ZZ B.F T ρ env σ) ρ H (ZZ B.F [] ρ [] []) ρ H := Mv.less fun b z => by
  rcases z with z | z | z | ⟨j, z⟩
  · exact .inl z
  · cases z
  · exact .inr (.inr (.inl z))
  · exact absurd z no_own
end
section
variable {P : Program} {w : World} {K : PySem.W.Frag} {mg : Str → Option Value} {base : Heap} {G : Wd} {Φ : Fns} {Γ : Cns} {c : Tc} {k m n : Nat}
theorem fn_ok {x qual : Str} {st : Stmt} {f : Addr} {fd : FuncData} {ps : List Str} {irs : List S} {sp : VSp} (F : Fun K x qual st f fd) (hsc : defB c.N ps (defScope st) = true) (ht : eqO (trB c m (defScope st) n (defBody st)) irs = true)
    (hfs : ∀ g, g ∈ c.fs → DfA P w K mg base G k Φ g) (gd : Gnd K mg G Γ c.tb c.hs c.his) (hc : hotN ∉ c.fs) (sat : Sat Φ Γ irs c.N ps sp) : FnG P w K mg base (L2.CX P w) (k + 1) f fd ps (spV G sp) := by
  have S := defB_ok hsc
  refine Fun_G F S (fun vs H Q E h => ?_) fun cdv A outer s H vs Q E hr h => ?_
  · obtain ⟨F0, ρ, vh, ds, R, hds, run⟩ := h
    rw [← hds.length]
    exact (sat _ _ _ run).1
  · obtain ⟨F0, ρ, vh, ds, R, hds, run⟩ := h
    obtain ⟨hl, wp⟩ := sat _ _ _ run
    have hN : ds.length ≤ c.N.length := by
      have := congrArg List.length S.pre
      rw [List.length_take] at this
      omega
    refine ⟨_, trB_ok (Φ := Φ) (sc := defScope st) (m := m) n (defBody st) irs _ ⟨F0, fun a => a ∈ ρ, H, ρ⟩ _ Γ c ⟨?_, rfl, rfl, gd.mkx, gd.hd, gd.tk, gd.xf, gd.isd, fun z => absurd hc (by unfold cool at z; simpa using z)⟩ (eqO_ok ht), ρ, startE c.N ds, vh, _, R.start hds hN, ?_, wp⟩
    · refine { hK := gd.hK.symm, calm := fun _ => rfl, nd := S.nd, hu := ?_, gu := hr.gu, tk := ?_, fn := fun g hg ok => ?_, mt := ?_, mkC := ?_, ic := fun f hf => (hfs _ hf).ic f rfl, cn := fun x d h _ => gd.cn x d h, bl := gd.bl, po := passes_of rfl, fnT := fun _ => rfl, stk := rfl, frm := rfl, exN := rfl, rm := fun _ => (show (A.deeper (envOfC qual (defScope st) s.heap.objs.size f cdv)).depth + 1 < recursionLimit from Nat.lt_of_le_of_lt (by omega) hr.rm.dp), ok := fun _ => gd.ok, er := fun h => absurd h hc }
      · exact room65 hr.rm
      · refine Takes.imp (W := fun cls d _ H => E cls d H) (takes_of rfl rfl rfl rfl) ?_
        rintro cls d σ H' ⟨c', C, xs, T, ρ', env, vh', hc, e, S', xf, kk⟩
        subst e
        exact kk ρ' C d H' hc S'.leave (xf.moveX leaveMv fun a u _ h => h)
      · obtain ⟨a, fd', ps', h1, h2, h3, h4, h5⟩ := ((hfs g hg).fn ok).ex
        exact ⟨a, fd', ps', k, h1, h2, h3, h4, hr, h5⟩
      · intro m hm c' C hC hx
        obtain ⟨a, fd', ps', h1, h2, h3, h4⟩ := (hfs _ hm).mt m rfl c' C hC hx
        exact ⟨a, fd', ps', k, h1, h2, h3, h4, hr⟩
      · intro c' hc'
        obtain ⟨C, a, fd', ps', j, hj, h1, h2, h3, h4, h5, h6, h7⟩ := (hfs _ hc').mkC c' rfl
        exact ⟨C, a, fd', ps', j, h1, h2, h3, h4, h5, hr.less hj, h6, h7⟩
    · exact ⟨fun ρ' env' vh' σ' H' R' z => z ρ' .non H' ⟨R'.leave, rfl⟩, fun x v ρ' vh' H' r z => z ρ' v H' r, fun _ _ _ _ _ _ z => z.elim, fun _ _ _ _ _ _ z => z.elim⟩
theorem df_ok {x : Str} {st : Stmt} {f : Addr} {fd : FuncData} {ps : List Str} {irs : List S} {sp : VSp} (F : Fun K x x st f fd) (hm : mg x = some (.ref f)) (b : Binds K fd ps []) (hdb : (x == ("__debug__" : Str)) = false) (hsc : defB c.N ps (defScope st) = true)
    (ht : eqO (trB c m (defScope st) n (defBody st)) irs = true) (hfs : ∀ g, g ∈ c.fs → DfA P w K mg base G k Φ g) (gd : Gnd K mg G Γ c.tb c.hs c.his) (hc : hotN ∉ c.fs) (sat : Sat Φ Γ irs c.N ps sp) : Df P w K mg base G (k + 1) x sp :=
  ⟨f, fd, ps, hm, F.kp, b, fn_ok F hsc ht hfs gd hc sat, hdb⟩
/-- the law's promise, as the end wants it -/
theorem law_end {sp : VSp} {H : Hp} {a : Addr} {ns : List Int} (ho : Only H) (hs : SqL G.K H a (ns.map V.int)) (h : sp.run [.scr ns] [] fun o _ => o = .ok (.v (.bl true))) : spV G sp [.ref a] H (fun v _ => v = .bl true) fun _ _ _ => False := by
  refine ⟨fun _ => False, [], [], [.scr ns], ⟨rfl, List.nodup_nil, List.nodup_nil, fun a h => (by cases h), fun i a z => absurd z no_own, fun i j a z => absurd z no_own, fun a f => f.elim, fun a z => ?_, fun n o a h1 => (by simp at h1), rfl, fun i s h => (by simp at h), fun _ _ h _ => h, fun _ _ h => h, fun a z => ?_, fun _ _ h => h⟩, ⟨.ref a, [], rfl, ⟨a, rfl, ?_⟩, rfl⟩, sp.mono _ _ _ _ (fun o vh' e => ?_) h⟩
  · rcases z with z | z | z | ⟨i, z⟩
    · exact z.elim
    · cases z
    · cases z
    · exact absurd z no_own
  · rcases z with z | z | ⟨i, z⟩
    · cases z
    · cases z
    · exact absurd z no_own
  · rcases hs with hs | hs
    · refine .inl ⟨?_, hs⟩
      rintro (z | z | z | ⟨i, z⟩)
      · exact z
      · cases z
      · cases z
      · exact absurd z no_own
    · exact .inr hs
  · subst e
    rintro ρ' v H' ⟨_, r⟩
    exact r
end
/-- what a clause's class says of an error's class -/
theorem exm_by {K : PySem.W.Frag} {c : Value} {S : Addr} {b : Bool} (h1 : PySem.W.subIn K (.ref S) (.type "BaseException") = some true) (h2 : PySem.W.isClsIn K S = true) (h3 : PySem.W.typeIn K (.ref S) = some (.type "type")) (h4 : PySem.W.subIn K c (.ref S) = some b) :
    PySem.W.exmOne K c (.ref S) = some b := by
  have e1 : (PySem.W.subIn K (.ref S) (.type "BaseException") == some true) = true := by rw [h1] <;> rfl
  have e2 : ((PySem.W.clsIn K S).isSome && PySem.W.typeIn K (.ref S) == some (.type "type")) = true := by
    have h2' : (PySem.W.clsIn K S).isSome = true := h2
    rw [h2', h3] <;> rfl
  show (if (PySem.W.subIn K (.ref S) (.type "BaseException") == some true) = true then (if ((PySem.W.clsIn K S).isSome && PySem.W.typeIn K (.ref S) == some (.type "type")) = true then PySem.W.subIn K c (.ref S) else none) else none) = some b
  rw [if_pos e1, if_pos e2]
  exact h4
/-- a def that calls itself so deep -/
theorem df_rec {P : Program} {w : World} {K : PySem.W.Frag} {mg : Str → Option Value} {base : Heap} {G : Wd} {x : Str} {k : Nat} {sp : Nat → VSp} (h0 : Df P w K mg base G k x (sp 0)) (hs : ∀ n, Df P w K mg base G (k + n) x (sp n) → Df P w K mg base G (k + n + 1) x (sp (n + 1))) : ∀ n, Df P w K mg base G (k + n) x (sp n)
  | 0 => h0
  | n + 1 => hs n (df_rec h0 hs n)
end R

set_option autoImplicit false
namespace R
open PySem PySem.Spec PyProof.Rows L2
/-! ## R11: steps -/
structure VLe (V V' : VEnds) : Prop where
  nx : ∀ e h, V.nx e h → V'.nx e h
  rt : ∀ x h, V.rt x h → V'.rt x h
  bk : ∀ e h, V.bk e h → V'.bk e h
  ct : ∀ e h, V.ct e h → V'.ct e h
theorem setSh_mono {n : Nat} {k x : D} {vh : VH} {Q Q' : VH → Prop} (f : ∀ h, Q h → Q' h) (h : setSh n k x vh Q) : setSh n k x vh Q' := by
  unfold setSh at *
  split at h <;> first
    | (obtain ⟨m, a, b⟩ := h; exact ⟨m, a, f _ b⟩)
    | exact h
theorem wpSet_mono {o : Op} {k x : D} {env : VE} {vh : VH} {Q Q' : VE → VH → Prop} (f : ∀ e h, Q e h → Q' e h) (h : wpSet o k x env vh Q) : wpSet o k x env vh Q' := by
  unfold wpSet at *
  split at h
  · exact setSh_mono (f _) h
  · exact h
  · split at h
    · exact setSh_mono (f _) h
    · obtain ⟨m, a, b⟩ := h; exact ⟨m, a, f _ _ b⟩
    · exact h
theorem appSh_mono {n : Nat} {x : D} {vh : VH} {Q Q' : VH → Prop} (f : ∀ h, Q h → Q' h) (h : appSh n x vh Q) : appSh n x vh Q' := by
  unfold appSh at *
  split at h
  · exact ⟨h.1, f _ h.2⟩
  · exact h
theorem wpApp_mono {o : Op} {x : D} {env : VE} {vh : VH} {Q Q' : VE → VH → Prop} (f : ∀ e h, Q e h → Q' e h) (h : wpApp o x env vh Q) : wpApp o x env vh Q' := by
  unfold wpApp at *
  split at h
  · exact appSh_mono (f _) h
  · exact h
  · split at h
    · exact appSh_mono (f _) h
    · exact ⟨h.1, f _ _ h.2⟩
    · exact h
theorem extSh_mono {n : Nat} {x : List D} {vh : VH} {Q Q' : VH → Prop} (f : ∀ h, Q h → Q' h) (h : extSh n x vh Q) : extSh n x vh Q' := by
  unfold extSh at *
  split at h
  · exact ⟨h.1, f _ h.2⟩
  · exact h
theorem sasSh_mono {n : Nat} {a : Int} {ys : List D} {vh : VH} {Q Q' : VH → Prop} (f : ∀ h, Q h → Q' h) (h : sasSh n a ys vh Q) : sasSh n a ys vh Q' := by
  unfold sasSh at *
  split at h
  · exact ⟨h.1, h.2.1, h.2.2.1, f _ h.2.2.2⟩
  · exact h
theorem wpSas_mono {o : Op} {k x : D} {env : VE} {vh : VH} {Q Q' : VE → VH → Prop} (f : ∀ e h, Q e h → Q' e h) (h : wpSas o k x env vh Q) : wpSas o k x env vh Q' := by
  unfold wpSas at *
  split at h
  · split at h
    · exact sasSh_mono (f _) h
    · exact h
    · split at h
      · exact sasSh_mono (f _) h
      · exact h
  · exact h
theorem popSh_mono {n : Nat} {vh : VH} {Q Q' : VH → Prop} (f : ∀ h, Q h → Q' h) (h : popSh n vh Q) : popSh n vh Q' := by
  unfold popSh at *
  split at h
  · exact f _ h
  · exact h
theorem wpPop_mono {o : Op} {env : VE} {vh : VH} {Q Q' : VE → VH → Prop} (f : ∀ e h, Q e h → Q' e h) (h : wpPop o env vh Q) : wpPop o env vh Q' := by
  unfold wpPop at *
  split at h
  · exact popSh_mono (f _) h
  · exact h
  · split at h
    · exact popSh_mono (f _) h
    · exact f _ _ h
    · exact h
theorem wpExt_mono {o : Op} {x : List D} {env : VE} {vh : VH} {Q Q' : VE → VH → Prop} (f : ∀ e h, Q e h → Q' e h) (h : wpExt o x env vh Q) : wpExt o x env vh Q' := by
  unfold wpExt at *
  split at h
  · exact extSh_mono (f _) h
  · exact h
  · split at h
    · exact extSh_mono (f _) h
    · exact ⟨h.1, f _ _ h.2⟩
    · exact h
theorem wpAug_mono {op : Operator} {c d : D} {Q Q' : D → Prop} (f : ∀ z, Q z → Q' z) (h : wpAug op c d Q) : wpAug op c d Q' := by
  unfold wpAug at *
  split at h <;> first | exact f _ h | exact h
theorem forGo_mono {t t' : D → (VE → VH → Prop) → VE → VH → Prop} (ht : ∀ d N N' e h, (∀ e h, N e h → N' e h) → t d N e h → t' d N' e h) : ∀ (ds : List D) (e : VE) (h : VH) (Q Q' : VE → VH → Prop), (∀ e h, Q e h → Q' e h) → forGo t ds e h Q → forGo t' ds e h Q'
  | [], e, h, Q, Q', f, x => f _ _ x
  | d :: ds, e, h, Q, Q', f, x => ht d _ _ e h (fun e h => forGo_mono ht ds e h Q Q' f) x
theorem bindG_mono {Q Q' : VE → VH → Prop} (f : ∀ e h, Q e h → Q' e h) : ∀ {ts : List Ta} {ds : List D} {env : VE} {vh : VH}, bindG ts ds env vh Q → bindG ts ds env vh Q'
  | [], [], _, _, h => f _ _ h
  | .nm i :: ts, d :: ds, _, _, h => bindG_mono f (ts := ts) (ds := ds) h
  | .fl j g :: ts, d :: ds, _, _, h => by
    obtain ⟨n, c, ns, xs, h1, h2, h3, h4⟩ := h
    exact ⟨n, c, ns, xs, h1, h2, h3, bindG_mono f (ts := ts) (ds := ds) h4⟩
  | [], _ :: _, _, _, h => h.elim
  | .nm _ :: _, [], _, _, h => h.elim
  | .fl _ _ :: _, [], _, _, h => h.elim
theorem VLe.off {V V' : VEnds} {o : Option Nat} (l : VLe V V') : VLe (offV o V) (offV o V') := ⟨fun _ _ => l.nx _ _, l.rt, fun _ _ => l.bk _ _, fun _ _ => l.ct _ _⟩
section
variable {Φ : Fns}
mutual
theorem wpS_monoK : ∀ (s : S) (Γ : Cns) (K K' : XP) (V V' : VEnds) (env : VE) (vh : VH), KLe K K' → VLe V V' → wpS Φ Γ s K V env vh → wpS Φ Γ s K' V' env vh
  | .pass, Γ, K, K', V, V', env, vh, kl, l, h => l.nx _ _ h
  | .brk, Γ, K, K', V, V', env, vh, kl, l, h => l.bk _ _ h
  | .cont, Γ, K, K', V, V', env, vh, kl, l, h => l.ct _ _ h
  | .retN, Γ, K, K', V, V', env, vh, kl, l, h => l.rt _ _ h
  | .set i e, Γ, K, K', V, V', env, vh, kl, l, h => wpE_monoK e K K' false env vh _ _ kl (fun x e1 h1 => l.nx _ _) h
  | .setO i e, Γ, K, K', V, V', env, vh, kl, l, h => wpE_monoK e K K' false env vh _ _ kl (fun x e1 h1 z => match x, z with
    | .fr ds, z => l.nx _ _ z) h
  | .setS i e, Γ, K, K', V, V', env, vh, kl, l, h => wpE_monoK e K K' false env vh _ _ kl (fun x e1 h1 z => match x, z with
    | .fr ds, z => l.nx _ _ z) h
  | .par i j a b, Γ, K, K', V, V', env, vh, kl, l, h => by
    unfold wpS at *
    exact wpEs_monoK [a, b] K K' env vh _ _ kl (fun ds e1 h1 z => by
      split at z
      · exact l.nx _ _ z
      · exact z) h
  | .unp is e, Γ, K, K', V, V', env, vh, kl, l, h => wpE_monoK e K K' false env vh _ _ kl (fun x e1 h1 ⟨e2, a, b⟩ => ⟨e2, a, l.nx _ _ b⟩) h
  | .unpG ts e, Γ, K, K', V, V', env, vh, kl, l, h => wpE_monoK e K K' false env vh _ _ kl (fun x e1 h1 ⟨ds, a, b⟩ => ⟨ds, a, bindG_mono l.nx b⟩) h
  | .aug i op e, Γ, K, K', V, V', env, vh, kl, l, h => by
    unfold wpS at *
    split at h
    · exact wpE_monoK e K K' false env vh _ _ kl (fun y e1 h1 z => wpAug_mono (fun _ => l.nx _ _) z) h
    · exact h
  | .sidx o i e, Γ, K, K', V, V', env, vh, kl, l, h => wpE_monoK e K K' false env vh _ _ kl (fun x e1 h1 z => asO_monoK (fun Q Q' f => wpE_monoK o K K' false e1 h1 Q Q' kl f) (fun oo e2 h2 z => wpE_monoK i K K' false e2 h2 _ _ kl (fun ix e3 h3 z => wpSet_mono l.nx z) z) z) h
  | .app o e, Γ, K, K', V, V', env, vh, kl, l, h => by
    unfold wpS at *
    exact asO_monoK (fun Q Q' f => wpE_monoK o K K' false env vh Q Q' kl f) (fun oo e1 h1 z => ⟨z.1, wpE_monoK e K K' false e1 h1 _ _ kl (fun x e2 h2 z => wpApp_mono l.nx z) z.2⟩) h
  | .pop o, Γ, K, K', V, V', env, vh, kl, l, h => by
    unfold wpS at *
    exact asO_monoK (fun Q Q' f => wpE_monoK o K K' false env vh Q Q' kl f) (fun oo e1 h1 z => ⟨z.1, wpPop_mono l.nx z.2⟩) h
  | .sasg o lo e, Γ, K, K', V, V', env, vh, kl, l, h => by
    unfold wpS at *
    exact wpE_monoK e K K' false env vh _ _ kl (fun x e1 h1 z => asO_monoK (fun Q Q' f => wpE_monoK o K K' false e1 h1 Q Q' kl f) (fun oo e2 h2 z => wpE_monoK lo K K' false e2 h2 _ _ kl (fun ix e3 h3 z => wpSas_mono l.nx z) z) z) h
  | .appF o k, Γ, K, K', V, V', env, vh, kl, l, h => by
    unfold wpS at *
    exact wpE_monoK o K K' false env vh _ _ kl (fun x e1 h1 ⟨xs, p, q, z⟩ => ⟨xs, p, q, l.nx _ _ z⟩) h
  | .ext o e, Γ, K, K', V, V', env, vh, kl, l, h => by
    unfold wpS at *
    exact asO_monoK (fun Q Q' f => wpE_monoK o K K' false env vh Q Q' kl f) (fun oo e1 h1 z => ⟨z.1, wpE_monoK e K K' false e1 h1 _ _ kl (fun x e2 h2 ⟨ys, ey, z⟩ => ⟨ys, ey, wpExt_mono l.nx z⟩) z.2⟩) h
  | .fset o f e, Γ, K, K', V, V', env, vh, kl, l, h => wpE_monoK e K K' false env vh _ _ kl (fun x e1 h1 z => asO_monoK (fun Q Q' f => wpE_monoK o K K' false e1 h1 Q Q' kl f) (fun oo e2 h2 z => by
      obtain ⟨n, c, ns, xs, p, q, r, z⟩ := z
      exact ⟨n, c, ns, xs, p, q, r, l.nx _ _ z⟩) z) h
  | .faug o f op e, Γ, K, K', V, V', env, vh, kl, l, h => by
    unfold wpS at *
    exact asO_monoK (fun Q Q' f => wpE_monoK o K K' false env vh Q Q' kl f) (fun oo e1 h1 z => by
      obtain ⟨n, c, ns, xs, p, q, y, r, z⟩ := z
      exact ⟨n, c, ns, xs, p, q, y, r, wpE_monoK e K K' false e1 h1 _ _ kl (fun z e2 h2 w => wpAug_mono (fun r w => by
        obtain ⟨ns2, xs2, p, q, w⟩ := w
        exact ⟨ns2, xs2, p, q, l.nx _ _ w⟩) w) z⟩) h
  | .ret e, Γ, K, K', V, V', env, vh, kl, l, h => wpE_monoK e K K' false env vh _ _ kl (fun x e1 h1 => l.rt _ _) h
  | .retO i, Γ, K, K', V, V', env, vh, kl, l, h => by
    unfold wpS at *
    split at h
    · exact l.rt _ _ h
    · exact h
  | .expr e, Γ, K, K', V, V', env, vh, kl, l, h => wpE_monoK e K K' false env vh _ _ kl (fun x e1 h1 => l.nx _ _) h
  | .cond c a b, Γ, K, K', V, V', env, vh, kl, l, h => wpE_monoK c K K' true env vh _ _ kl (fun x e1 h1 z => by
      split at z
      · exact ifP_mono (wpB_monoK a Γ K K' V V' e1 h1 kl l) (wpB_monoK b Γ K K' V V' e1 h1 kl l) z
      · exact z) h
  | .forS tg k es body, Γ, K, K', V, V', env, vh, kl, l, h => wpEs_monoK es K K' env vh _ _ kl (fun ds e1 h1 ⟨items, a, z⟩ => ⟨items, a, forGo_mono (fun d N N' e h f ⟨st, e2, q, z⟩ => ⟨st, e2, q, wpB_monoK body Γ K K' ⟨N, V.rt, V.nx, N⟩ ⟨N', V'.rt, V'.nx, N'⟩ e2 h kl ⟨f, l.rt, l.nx, f⟩ z⟩) items e1 h1 _ _ (fun e h z => ⟨z.1, l.nx e h z.2⟩) z⟩) h
  | .whl c body, Γ, K, K', V, V', env, vh, kl, l, h => by
    obtain ⟨I, h0, hs⟩ := h
    refine ⟨I, h0, fun n env vh i => wpE_monoK c K K' true env vh _ _ kl (fun x e1 h1 z => ?_) (hs n env vh i)⟩
    split at z
    · exact ifP_mono (wpB_monoK body Γ K K' ⟨fun e h => ∃ m, m < n ∧ I m e h, V.rt, V.nx, fun e h => ∃ m, m < n ∧ I m e h⟩ ⟨fun e h => ∃ m, m < n ∧ I m e h, V'.rt, V'.nx, fun e h => ∃ m, m < n ∧ I m e h⟩ e1 h1 kl ⟨fun _ _ => id, l.rt, l.nx, fun _ _ => id⟩) (l.nx _ _) z
    · exact z
  | .raise c es, Γ, K, K', V, V', env, vh, kl, l, h => wpEs_monoK es K K' env vh _ _ kl (fun _ _ _ => kl _ _ _ _) h
  | .tryS tb body cs sus, Γ, K, K', V, V', env, vh, kl, l, h => wpB_monoK body Γ _ _ V V' env vh (fun c xs e h1 z => by
      split at z
      · exact wpH_monoK _ _ _ cs sus Γ _ _ V V' e h1 l (kl _ _ _ _) z
      · exact z) l h
  | .never, Γ, K, K', V, V', env, vh, kl, l, h => h
theorem wpH_monoK (ns anc : List Str) (xs : List D) : ∀ (cs : List (Str × Option Nat)) (sus : List (List S)) (Γ : Cns) (P P' : Prop) (V V' : VEnds) (env : VE) (vh : VH), VLe V V' → (P → P') → wpH Φ Γ ns anc xs cs sus P V env vh → wpH Φ Γ ns anc xs cs sus P' V' env vh
  | [], _, Γ, P, P', V, V', env, vh, l, f, h => by
    unfold wpH at h ⊢
    exact f h
  | _ :: _, [], Γ, P, P', V, V', env, vh, l, f, h => by
    unfold wpH at h
    exact h.elim
  | (c, o) :: cs, su :: sus, Γ, P, P', V, V', env, vh, l, f, h => ifP_mono (fun g a => wpB_monoK su _ _ _ _ _ _ _ (fun _ _ _ _ z => z) (VLe.off l) (g a)) (wpH_monoK ns anc xs cs sus Γ P P' V V' env vh l f) h
theorem wpB_monoK : ∀ (ss : List S) (Γ : Cns) (K K' : XP) (V V' : VEnds) (env : VE) (vh : VH), KLe K K' → VLe V V' → wpB Φ Γ ss K V env vh → wpB Φ Γ ss K' V' env vh
  | [], Γ, K, K', V, V', env, vh, kl, l, h => l.nx _ _ h
  | s :: ss, Γ, K, K', V, V', env, vh, kl, l, h => wpS_monoK s Γ K K' { V with nx := fun e h => wpB Φ Γ ss K V e h } _ env vh kl ⟨fun e h => wpB_monoK ss Γ K K' V V' e h kl l, l.rt, l.bk, l.ct⟩ h
end
end
section
variable {Φ : Fns} {Γ : Cns}
theorem wpS_mono (s : S) (K : XP) (V V' : VEnds) (env : VE) (vh : VH) (l : VLe V V') (h : wpS Φ Γ s K V env vh) : wpS Φ Γ s K V' env vh := wpS_monoK s Γ K K V V' env vh (fun _ _ _ _ z => z) l h
theorem wpB_mono (s : List S) (K : XP) (V V' : VEnds) (env : VE) (vh : VH) (l : VLe V V') (h : wpB Φ Γ s K V env vh) : wpB Φ Γ s K V' env vh := wpB_monoK s Γ K K V V' env vh (fun _ _ _ _ z => z) l h
end
section
variable {Φ : Fns} {Γ : Cns} {K : XP} {env e1 : VE} {vh h1 : VH} {Q : QE} {nx bk ct : VE → VH → Prop} {rt : DV → VH → Prop} {V : VEnds}
/-! ### statements -/
theorem b_nil (h : nx env vh) : wpB Φ Γ [] K ⟨nx, rt, bk, ct⟩ env vh := h
theorem b_cons {s : S} {ss : List S} (he : env = e1) (h : wpS Φ Γ s K ⟨fun e h => wpB Φ Γ ss K ⟨nx, rt, bk, ct⟩ e h, rt, bk, ct⟩ e1 vh) : wpB Φ Γ (s :: ss) K ⟨nx, rt, bk, ct⟩ env vh := by
  subst he
  exact h
/-- a word that no step looks into -/
def Hold (p : Prop) : Prop := p
theorem hold {p : Prop} (h : p) : Hold p := h
/-- a statement by what it is to reach -/
theorem b_cut {s : S} {ss : List S} (P : VE → VH → Prop) (h : wpS Φ Γ s K ⟨fun e h => Hold (P e h), rt, bk, ct⟩ env vh) (k : ∀ e h, P e h → wpB Φ Γ ss K ⟨nx, rt, bk, ct⟩ e h) : wpB Φ Γ (s :: ss) K ⟨nx, rt, bk, ct⟩ env vh :=
  wpS_mono s K ⟨fun e h => Hold (P e h), rt, bk, ct⟩ _ env vh ⟨k, fun _ _ => id, fun _ _ => id, fun _ _ => id⟩ h
/-- what is wished of an error in the body of a try -/
def tryK (Φ : Fns) (Γ : Cns) (tb : List (Str × List Str × List Str)) (cs : List (Str × Option Nat)) (sus : List (List S)) (K : XP) (V : VEnds) : XP := fun c xs e h => match tb.lookup c with
  | some (ns, anc) => wpH Φ Γ ns anc xs cs sus (K c xs e h) V e h
  | none => False
theorem s_try {tb : List (Str × List Str × List Str)} {body : List S} {cs : List (Str × Option Nat)} {sus : List (List S)} (h : wpB Φ Γ body (tryK Φ Γ tb cs sus K ⟨nx, rt, bk, ct⟩) ⟨nx, rt, bk, ct⟩ env vh) : wpS Φ Γ (.tryS tb body cs sus) K ⟨nx, rt, bk, ct⟩ env vh := h
theorem s_raise {c : Str} {es : List E} (h : wpEs Φ Γ es K env vh fun ds e1 h1 => K c ds e1 h1) : wpS Φ Γ (.raise c es) K ⟨nx, rt, bk, ct⟩ env vh := h
theorem x_hit {tb : List (Str × List Str × List Str)} {cs : List (Str × Option Nat)} {sus : List (List S)} {V : VEnds} {c : Str} {xs : List D} {ns anc : List Str} (hl : tb.lookup c = some (ns, anc)) (h : wpH Φ Γ ns anc xs cs sus (K c xs env vh) V env vh) : tryK Φ Γ tb cs sus K V c xs env vh := by
  unfold tryK
  rw [hl]
  exact h
theorem h_yes {c : Str} {o : Option Nat} {cs : List (Str × Option Nat)} {su : List S} {sus : List (List S)} {ns anc : List Str} {xs : List D} {P : Prop} (hc : anc.contains c = true) (h : ∀ a, wpB Φ (errG Γ ns anc xs a) su noX (offV o ⟨nx, rt, bk, ct⟩) (onE o a env) vh) : wpH Φ Γ ns anc xs ((c, o) :: cs) (su :: sus) P ⟨nx, rt, bk, ct⟩ env vh := by
  unfold wpH
  rw [hc]
  exact h
theorem h_no {c : Str} {o : Option Nat} {cs : List (Str × Option Nat)} {su : List S} {sus : List (List S)} {ns anc : List Str} {xs : List D} {P : Prop} (hc : anc.contains c = false) (h : wpH Φ Γ ns anc xs cs sus P V env vh) : wpH Φ Γ ns anc xs ((c, o) :: cs) (su :: sus) P V env vh := by
  unfold wpH
  rw [hc]
  exact h
theorem h_nil {sus : List (List S)} {ns anc : List Str} {xs : List D} {P : Prop} (h : P) : wpH Φ Γ ns anc xs [] sus P V env vh := by
  unfold wpH
  exact h
theorem errG_one {anc : List Str} {f : Str} {x : D} {a : Addr} : errG Γ [f] anc [x] a (eNm f) = some x := by
  unfold errG
  have e : (("%e." : Str) ++ f).cps.toList[1]? = some 101 := by
    show ((("%e." : Str).cps ++ f.cps).toList)[1]? = _
    rw [Array.toList_append]
    rfl
  have n1 : eNm f ≠ "%a" := fun z => by
    have h2 := congrArg (fun y : Str => y.cps.toList[1]?) z
    unfold eNm at h2
    rw [e] at h2
    exact absurd h2 (by decide +kernel)
  have n2 : eNm f ≠ "%c" := fun z => by
    have h2 := congrArg (fun y : Str => y.cps.toList[1]?) z
    unfold eNm at h2
    rw [e] at h2
    exact absurd h2 (by decide +kernel)
  have n3 : eNm f ≠ "%n" := fun z => by
    have h2 := congrArg (fun y : Str => y.cps.toList[1]?) z
    unfold eNm at h2
    rw [e] at h2
    exact absurd h2 (by decide +kernel)
  rw [if_neg n1, if_neg n2, if_neg n3]
  simp
theorem e_isx {anc : List Str} {i : Nat} {x : Str} {a : Addr} (hs : env[i]? = some (.val (.adr a))) (h : Q (.v (.bl (anc.contains x))) env vh) : wpE Φ (errG Γ [] anc [] a) (.isx i x) K false env vh Q := by
  refine ⟨.adr a, ?_, ?_, ?_, anc, ?_, h⟩
  · unfold Op.raw
    dsimp only
    rw [hs]
  · unfold errG
    rw [if_pos rfl]
  · unfold errG
    rw [if_neg (by decide +kernel), if_neg (by decide +kernel), if_pos rfl]
    rfl
  · unfold errG
    rw [if_neg (by decide +kernel), if_pos rfl]
theorem e_isxT {anc : List Str} {i : Nat} {x : Str} {a : Addr} (hs : env[i]? = some (.val (.adr a))) (h : Q (.v (.bl (anc.contains x))) env vh) : wpE Φ (errG Γ [] anc [] a) (.isx i x) K true env vh Q := by
  refine ⟨.adr a, ?_, ?_, ?_, anc, ?_, _, rfl, h⟩
  · unfold Op.raw
    dsimp only
    rw [hs]
  · unfold errG
    rw [if_pos rfl]
  · unfold errG
    rw [if_neg (by decide +kernel), if_neg (by decide +kernel), if_pos rfl]
    rfl
  · unfold errG
    rw [if_neg (by decide +kernel), if_pos rfl]
theorem e_fld1 {anc : List Str} {i : Nat} {f : Str} {x : D} {a : Addr} (hs : env[i]? = some (.val (.adr a))) (h : Q (.v x) env vh) : wpE Φ (errG Γ [f] anc [x] a) (.attr (.bor i) f) K false env vh Q := by
  refine ⟨⟨_, hs, trivial⟩, .adr a, ?_, ?_, x, errG_one, h⟩
  · unfold Op.raw
    dsimp only
    rw [hs]
  · unfold errG
    rw [if_pos rfl]
theorem s_pass (h : nx env vh) : wpS Φ Γ .pass K ⟨nx, rt, bk, ct⟩ env vh := h
theorem s_brk (h : bk env vh) : wpS Φ Γ .brk K ⟨nx, rt, bk, ct⟩ env vh := h
theorem s_cont (h : ct env vh) : wpS Φ Γ .cont K ⟨nx, rt, bk, ct⟩ env vh := h
theorem s_retN (h : rt (.v .non) vh) : wpS Φ Γ .retN K ⟨nx, rt, bk, ct⟩ env vh := h
theorem s_set {i : Nat} {e : E} (h : wpE Φ Γ e K false env vh fun x e1 h1 => nx (e1.set i (.val x.d)) h1) : wpS Φ Γ (.set i e) K ⟨nx, rt, bk, ct⟩ env vh := h
theorem s_setO {i : Nat} {e : E} (h : wpE Φ Γ e K false env vh fun x e1 h1 => ∃ ds, x = .fr ds ∧ nx (e1.set i (.own ds)) h1) : wpS Φ Γ (.setO i e) K ⟨nx, rt, bk, ct⟩ env vh :=
  wpE_mono e K false env vh _ _ (fun x e1 h1 ⟨ds, ex, z⟩ => by subst ex; exact z) h
theorem s_setS {i : Nat} {e : E} (h : wpE Φ Γ e K false env vh fun x e1 h1 => ∃ ds, x = .fr ds ∧ nx (e1.set i (.val (.ref h1.length))) (h1 ++ [.lst ds])) : wpS Φ Γ (.setS i e) K ⟨nx, rt, bk, ct⟩ env vh :=
  wpE_mono e K false env vh _ _ (fun x e1 h1 ⟨ds, ex, z⟩ => by subst ex; exact z) h
theorem s_par {i j : Nat} {a b : E} (h : wpE Φ Γ a K false env vh fun x e1 h1 => wpE Φ Γ b K false e1 h1 fun y e2 h2 => nx ((e2.set i (.val x.d)).set j (.val y.d)) h2) : wpS Φ Γ (.par i j a b) K ⟨nx, rt, bk, ct⟩ env vh := h
theorem s_unp {is : List Nat} {e : E} (h : wpE Φ Γ e K false env vh fun x e1 h1 => ∃ e2, bindT (.many is) x.d e1 = some e2 ∧ nx e2 h1) : wpS Φ Γ (.unp is e) K ⟨nx, rt, bk, ct⟩ env vh := h
theorem s_unpG {ts : List Ta} {e : E} (h : wpE Φ Γ e K false env vh fun x e1 h1 => ∃ ds, x.d = .tup ds ∧ bindG ts ds e1 h1 nx) : wpS Φ Γ (.unpG ts e) K ⟨nx, rt, bk, ct⟩ env vh := h
theorem bg_nil {Q : VE → VH → Prop} (h : Q env vh) : bindG [] [] env vh Q := h
theorem bg_nm {Q : VE → VH → Prop} {i : Nat} {ts : List Ta} {d : D} {ds : List D} (h : bindG ts ds (env.set i (.val d)) vh Q) : bindG (.nm i :: ts) (d :: ds) env vh Q := h
theorem bg_fl {Q : VE → VH → Prop} {j n : Nat} {f c : Str} {ns : List Str} {xs : List D} {ts : List Ta} {d : D} {ds : List D} (h1 : env[j]? = some (.val (.ref n))) (h2 : vh[n]? = some (.ins c ns xs)) (h3 : ns.length ≤ 100) (h : bindG ts ds env (vh.set n (.ins c (putN f ns) (putX f d ns xs))) Q) : bindG (.fl j f :: ts) (d :: ds) env vh Q := ⟨n, c, ns, xs, h1, h2, h3, h⟩
theorem s_aug {i : Nat} {op : Operator} {e : E} {c : D} (hs : env[i]? = some (.val c)) (h : wpE Φ Γ e K false env vh fun y e1 h1 => wpAug op c y.d fun z => nx (e1.set i (.val z)) h1) : wpS Φ Γ (.aug i op e) K ⟨nx, rt, bk, ct⟩ env vh := by
  unfold wpS
  rw [hs]
  exact h
theorem s_sidx {o i e : E} (h : wpE Φ Γ e K false env vh fun x e1 h1 => asO o (wpE Φ Γ o) K e1 h1 fun oo e2 h2 => wpE Φ Γ i K false e2 h2 fun ix e3 h3 => wpSet oo ix.d x.d e3 h3 nx) : wpS Φ Γ (.sidx o i e) K ⟨nx, rt, bk, ct⟩ env vh := h
theorem s_app {o e : E} (h : asO o (wpE Φ Γ o) K env vh fun oo e1 h1 => isLs oo e1 h1 ∧ wpE Φ Γ e K false e1 h1 fun x e2 h2 => wpApp oo x.d e2 h2 nx) : wpS Φ Γ (.app o e) K ⟨nx, rt, bk, ct⟩ env vh := h
theorem s_pop {o : E} (h : asO o (wpE Φ Γ o) K env vh fun oo e1 h1 => isLs oo e1 h1 ∧ wpPop oo e1 h1 nx) : wpS Φ Γ (.pop o) K ⟨nx, rt, bk, ct⟩ env vh := h
theorem s_sasg {o lo e : E} (h : wpE Φ Γ e K false env vh fun x e1 h1 => asO o (wpE Φ Γ o) K e1 h1 fun oo e2 h2 => wpE Φ Γ lo K false e2 h2 fun ix e3 h3 => wpSas oo ix.d x.d e3 h3 nx) : wpS Φ Γ (.sasg o lo e) K ⟨nx, rt, bk, ct⟩ env vh := h
theorem s_appF {o : E} {k : Int} (h : wpE Φ Γ o K false env vh fun x e1 h1 => ∃ xs, x = .fr xs ∧ xs.length < 16777216 ∧ nx e1 h1) : wpS Φ Γ (.appF o k) K ⟨nx, rt, bk, ct⟩ env vh := h
theorem s_ext {o e : E} (h : asO o (wpE Φ Γ o) K env vh fun oo e1 h1 => isLs oo e1 h1 ∧ wpE Φ Γ e K false e1 h1 fun x e2 h2 => ∃ ys, seqD x.d = some ys ∧ wpExt oo ys e2 h2 nx) : wpS Φ Γ (.ext o e) K ⟨nx, rt, bk, ct⟩ env vh := h
theorem s_ret {e : E} (h : wpE Φ Γ e K false env vh fun x e1 h1 => rt x h1) : wpS Φ Γ (.ret e) K ⟨nx, rt, bk, ct⟩ env vh := h
theorem s_retO {i : Nat} {ds : List D} (hs : env[i]? = some (.own ds)) (h : rt (.fr ds) vh) : wpS Φ Γ (.retO i) K ⟨nx, rt, bk, ct⟩ env vh := by
  unfold wpS
  rw [hs]
  exact h
theorem s_expr {e : E} (h : wpE Φ Γ e K false env vh fun x e1 h1 => nx e1 h1) : wpS Φ Γ (.expr e) K ⟨nx, rt, bk, ct⟩ env vh := h
theorem s_cond {c : E} {a b : List S} (h : wpE Φ Γ c K true env vh fun x e1 h1 => ∃ k, x = .v (.bl k) ∧ ifP k (wpB Φ Γ a K ⟨nx, rt, bk, ct⟩ e1 h1) (wpB Φ Γ b K ⟨nx, rt, bk, ct⟩ e1 h1)) : wpS Φ Γ (.cond c a b) K ⟨nx, rt, bk, ct⟩ env vh :=
  wpE_mono c K true env vh _ _ (fun x e1 h1 ⟨k, ex, z⟩ => by subst ex; exact z) h
def plnK : Ik → Bool
  | .seqS => false
  | .zipS => false
  | .zip => false
  | _ => true
theorem plnK_items {k : Ik} {h1 : VH} {ds : List D} (hk : plnK k = true) : itemsV k h1 ds = itemsD k ds := by
  cases k <;> first | rfl | cases hk
theorem plnK_stl {k : Ik} {h1 h : VH} {ds : List D} (hk : plnK k = true) : stl k ds h1 h := by
  cases k <;> first | trivial | cases hk
theorem s_for {tg : Tg} {k : Ik} {es : List E} {body : List S} (hk : plnK k = true) (h : wpEs Φ Γ es K env vh fun ds e1 h1 => ∃ items, itemsD k ds = some items ∧
      forGo (fun d N e h => ∃ e2, bindT tg d e = some e2 ∧ wpB Φ Γ body K ⟨N, rt, nx, N⟩ e2 h) items e1 h1 nx) : wpS Φ Γ (.forS tg k es body) K ⟨nx, rt, bk, ct⟩ env vh :=
  wpEs_mono es K env vh _ _ (fun ds e1 h1 ⟨items, a, z⟩ => ⟨items, (plnK_items hk).trans a, forGo_mono (fun d N N' e h f ⟨e2, q, z⟩ => ⟨plnK_stl hk, e2, q, wpB_mono body K ⟨N, rt, nx, N⟩ ⟨N', rt, nx, N'⟩ e2 h ⟨f, fun _ _ => id, fun _ _ => id, f⟩ z⟩) items e1 h1 _ _ (fun e h z => ⟨plnK_stl hk, z⟩) z⟩) h
theorem s_forS {tg : Tg} {k : Ik} {es : List E} {body : List S} (h : wpEs Φ Γ es K env vh fun ds e1 h1 => ∃ items, itemsV k h1 ds = some items ∧
      forGo (fun d N e h => stl k ds h1 h ∧ ∃ e2, bindT tg d e = some e2 ∧ wpB Φ Γ body K ⟨N, rt, nx, N⟩ e2 h) items e1 h1 fun e h => stl k ds h1 h ∧ nx e h) : wpS Φ Γ (.forS tg k es body) K ⟨nx, rt, bk, ct⟩ env vh := h
theorem items_S {vh : VH} {n : Nat} {xs : List D} (h : vh[n]? = some (.lst xs)) : itemsV .seqS vh [.ref n] = some xs := by
  have e : drf vh (.ref n) = .lst xs := by
    unfold drf
    dsimp only
    rw [h]
  show itemsD .seq [drf vh (.ref n)] = _
  rw [e]
  rfl
theorem stl_1 {vh h : VH} {n : Nat} (e : h[n]? = vh[n]?) : stl .seqS [.ref n] vh h := fun m hm => by
  rw [List.mem_singleton] at hm
  cases hm
  exact e
theorem stl_zip {ds : List D} {vh h : VH} : stl .zip ds vh h := trivial
theorem ex_S {vh : VH} {n : Nat} {xs : List D} {F : List D → Prop} (h : vh[n]? = some (.lst xs)) (q : F xs) : ∃ items, itemsV .seqS vh [.ref n] = some items ∧ F items := ⟨xs, items_S h, q⟩
theorem s_whl {c : E} {body : List S} (I : Nat → VE → VH → Prop) (h0 : ∃ n, I n env vh) (h : ∀ n env vh, I n env vh → wpE Φ Γ c K true env vh fun x e1 h1 => ∃ k, x = .v (.bl k) ∧
      ifP k (wpB Φ Γ body K ⟨fun e h => ∃ m, m < n ∧ I m e h, rt, nx, fun e h => ∃ m, m < n ∧ I m e h⟩ e1 h1) (nx e1 h1)) : wpS Φ Γ (.whl c body) K ⟨nx, rt, bk, ct⟩ env vh :=
  ⟨I, h0, fun n env vh i => wpE_mono c K true env vh _ _ (fun x e1 h1 ⟨k, ex, z⟩ => by subst ex; exact z) (h n env vh i)⟩
theorem aug_add {i j : Int} {F : D → Prop} (h : F (.int (i + j))) : wpAug .Add (.int i) (.int j) F := h
theorem aug_sub {i j : Int} {F : D → Prop} (h : F (.int (i - j))) : wpAug .Sub (.int i) (.int j) F := h
/-- what goes on behind a call -/
@[reducible] def callK (k : DV → VH → Prop) (kx : Str → List D → VH → Prop) : Out → VH → Prop
  | .ok x, h => k x h
  | .exc c xs, h => kx c xs h
/-! ### values -/
theorem e_non (h : Q (.v .non) env vh) : wpE Φ Γ .non K false env vh Q := h
theorem e_skip (h : Q (.v .non) env vh) : wpE Φ Γ .skip K false env vh Q := h
theorem e_bl {b : Bool} (h : Q (.v (.bl b)) env vh) : wpE Φ Γ (.bl b) K false env vh Q := h
theorem e_int {i : Int} (h : Q (.v (.int i)) env vh) : wpE Φ Γ (.int i) K false env vh Q := h
theorem e_str {x : Str} (h : Q (.v (.str x)) env vh) : wpE Φ Γ (.str x) K false env vh Q := h
theorem e_var {i : Nat} {d : D} (hs : env[i]? = some (.val d)) (h : Q (.v d) env vh) : wpE Φ Γ (.var i) K false env vh Q := ⟨_, hs, h⟩
theorem e_varO {i : Nat} {ds : List D} (hs : env[i]? = some (.own ds)) (h : Q (.v (.lst ds)) (env.set i (.val (.lst ds))) vh) : wpE Φ Γ (.var i) K false env vh Q := ⟨_, hs, h⟩
theorem e_glo {x : Str} {d : D} (hs : Γ x = some d) (h : Q (.v d) env vh) : wpE Φ Γ (.glo x) K false env vh Q := ⟨_, hs, h⟩
theorem e_tup {es : List E} (h : wpEs Φ Γ es K env vh fun ds e1 h1 => ds.length ≤ 16777216 ∧ Q (.v (.tup ds)) e1 h1) : wpE Φ Γ (.tup es) K false env vh Q := h
theorem e_dct {ks : List Key} {es : List E} (h : wpEs Φ Γ es noK env vh fun ds e1 h1 => (ks.length = ds.length ∧ ks.length ≤ 15 ∧ ks.Nodup) ∧ Q (.v (.dct ks ds)) e1 h1) : wpE Φ Γ (.dct ks es) K false env vh Q := h
theorem e_lst {es : List E} (h : wpEs Φ Γ es K env vh fun ds e1 h1 => ds.length ≤ 16777216 ∧ Q (.fr ds) e1 h1) : wpE Φ Γ (.lst es) K false env vh Q := h
theorem e_bin {op : Operator} {a b : E} (h : asO a (wpE Φ Γ a) K env vh fun x e1 h1 => asO b (wpE Φ Γ b) K e1 h1 fun y e2 h2 => ∃ c d, x.ld e2 h2 = some c ∧ y.ld e2 h2 = some d ∧ wpBin op c d fun z => Q z e2 h2) : wpE Φ Γ (.bin op a b) K false env vh Q := h
theorem e_neg {a : E} (h : wpE Φ Γ a K false env vh fun x e1 h1 => ∃ i, x = .v (.int i) ∧ Q (.v (.int (-i))) e1 h1) : wpE Φ Γ (.neg a) K false env vh Q := h
theorem e_cmp {op : CmpOp} {a b : E} {t : Bool} (h : asO a (wpE Φ Γ a) K env vh fun x e1 h1 => asO b (wpE Φ Γ b) K e1 h1 fun y e2 h2 => ∃ c d, x.ld e2 h2 = some c ∧ y.ld e2 h2 = some d ∧ wpCmp op c d fun k => Q (.v (.bl k)) e2 h2) : wpE Φ Γ (.cmp op a b) K t env vh Q := h
theorem e_chain {op op' : CmpOp} {a b c : E} {t : Bool} (h : asO a (wpE Φ Γ a) K env vh fun x e1 h1 => asO b (wpE Φ Γ b) K e1 h1 fun y e2 h2 => ∃ d e, x.ld e2 h2 = some d ∧ y.ld e2 h2 = some e ∧ wpCmp op d e fun k =>
      ifP k (asO c (wpE Φ Γ c) K e2 h2 fun z e3 h3 => ∃ e f, y.ld e3 h3 = some e ∧ z.ld e3 h3 = some f ∧ wpCmp op' e f fun k => Q (.v (.bl k)) e3 h3) (Q (.v (.bl false)) e2 h2)) : wpE Φ Γ (.chain op op' a b c) K t env vh Q := h
theorem e_andT {a b : E} (h : wpE Φ Γ a K true env vh fun x e1 h1 => ∃ k, x = .v (.bl k) ∧ ifP k (wpE Φ Γ b K true e1 h1 Q) (Q (.v (.bl false)) e1 h1)) : wpE Φ Γ (.and a b) K true env vh Q := h
theorem e_orT {a b : E} (h : wpE Φ Γ a K true env vh fun x e1 h1 => ∃ k, x = .v (.bl k) ∧ ifP k (Q (.v (.bl true)) e1 h1) (wpE Φ Γ b K true e1 h1 Q)) : wpE Φ Γ (.or a b) K true env vh Q := h
theorem e_and {a b : E} (h : wpE Φ Γ a K false env vh fun x e1 h1 => ∃ d k, x = .v d ∧ (deref h1 d).bind truD = some k ∧ ifP k (wpE Φ Γ b K false e1 h1 Q) (Q x e1 h1)) : wpE Φ Γ (.and a b) K false env vh Q := h
theorem e_or {a b : E} (h : wpE Φ Γ a K false env vh fun x e1 h1 => ∃ d k, x = .v d ∧ (deref h1 d).bind truD = some k ∧ ifP k (Q x e1 h1) (wpE Φ Γ b K false e1 h1 Q)) : wpE Φ Γ (.or a b) K false env vh Q := h
theorem e_notT {a : E} (h : wpE Φ Γ a K true env vh fun x e1 h1 => ∃ k, x = .v (.bl k) ∧ Q (.v (.bl (!k))) e1 h1) : wpE Φ Γ (.not a) K true env vh Q := h
theorem e_not {a : E} (h : asO a (wpE Φ Γ a) K env vh fun x e1 h1 => ∃ d k, x.ld e1 h1 = some d ∧ truD d = some k ∧ Q (.v (.bl (!k))) e1 h1) : wpE Φ Γ (.not a) K false env vh Q := h
theorem e_ite {c a b : E} {t : Bool} (h : wpE Φ Γ c K true env vh fun x e1 h1 => ∃ k, x = .v (.bl k) ∧ ifP k (wpE Φ Γ a K t e1 h1 Q) (wpE Φ Γ b K t e1 h1 Q)) : wpE Φ Γ (.ite c a b) K t env vh Q := h
theorem e_idx {a i : E} (h : asO a (wpE Φ Γ a) K env vh fun x e1 h1 => asO i (wpE Φ Γ i) K e1 h1 fun y e2 h2 => ∃ c d, x.ld e2 h2 = some c ∧ y.ld e2 h2 = some d ∧ wpIdx c d fun z => Q (.v z) e2 h2) : wpE Φ Γ (.idx a i) K false env vh Q := h
theorem e_sli {a lo hi : E} (h : asO a (wpE Φ Γ a) K env vh fun x e1 h1 => wpE Φ Γ lo K false e1 h1 fun l e2 h2 => ∃ i, partD l = some i ∧ wpE Φ Γ hi K false e2 h2 fun u e3 h3 =>
      ∃ c j, x.ld e3 h3 = some c ∧ partD u = some j ∧ wpSli c i j fun z => Q z e3 h3) : wpE Φ Γ (.sli a lo hi) K false env vh Q := h
theorem e_call {f : Str} {es : List E} (h : wpEs Φ Γ es K env vh fun ds e1 h1 => (Φ f).run ds h1 (callK (fun x h2 => Q x e1 h2) (fun c xs h2 => K c xs e1 h2))) : wpE Φ Γ (.call f es) K false env vh Q :=
  wpEs_mono es K env vh _ _ (fun ds e1 h1 z => (Φ f).mono _ _ _ _ (fun o h2 y => match o with
    | .ok x => y
    | .exc c xs => y) z) h
theorem e_blt {f : Bf} {es : List E} (h : wpOs Φ Γ es K env vh fun xs e1 h1 => ∃ ds, ldAll e1 h1 xs = some ds ∧ wpBlt f ds fun z => Q z e1 h1) : wpE Φ Γ (.blt f es) K false env vh Q := h
/-- which class it is of -/
def IsiK (tys : List String) (n : String) (P : Bool → Prop) : Prop := tys.all okTy = true ∧ P (tys.any (isTy n))
theorem isi_t {tys : List String} {n : String} {P : Bool → Prop} (h1 : tys.all okTy = true) (h2 : tys.any (isTy n) = true) (h : P true) : IsiK tys n P := ⟨h1, by rw [h2]; exact h⟩
theorem isi_f {tys : List String} {n : String} {P : Bool → Prop} (h1 : tys.all okTy = true) (h2 : tys.any (isTy n) = false) (h : P false) : IsiK tys n P := ⟨h1, by rw [h2]; exact h⟩
theorem e_isi {a : E} {tys : List String} (h : asO a (wpE Φ Γ a) K env vh fun x e1 h1 => ∃ d n, x.ld e1 h1 = some d ∧ tyD d = some n ∧ IsiK tys n fun b => Q (.v (.bl b)) e1 h1) : wpE Φ Γ (.isi a tys) K false env vh Q := h
def noB (env : VE) : List Nat → Bool
  | [] => true
  | j :: js => (match env[j]? with
    | some (.own _) => false
    | _ => true) && noB env js
theorem noB_ok {env : VE} : ∀ {js : List Nat}, noB env js = true → noOwn env js
  | [], _ => trivial
  | j :: js, h => by
    unfold noB at h
    rw [Bool.and_eq_true] at h
    refine ⟨?_, noB_ok h.2⟩
    have h1 := h.1
    revert h1
    cases env[j]? with
    | none => exact fun _ => trivial
    | some s => cases s <;> first
      | exact fun _ => trivial
      | (intro h1; cases h1)
theorem e_lc {elt : E} {tg : Tg} {own : List Nat} {k : Ik} {es cs : List E} (hk : plnK k = true) (h : wpEs Φ Γ es K env vh fun ds e1 h1 => ∃ items, itemsD k ds = some items ∧ noB e1 own = true ∧
      lcGo (fun d h R => ∃ e2, bindT tg d (wipeE e1 own) = some e2 ∧ wpTs Φ Γ cs e2 h fun b h3 => ifP b (wpE Φ Γ elt (fun _ _ _ _ => False) false e2 h3 fun x e4 h4 => e4 = e2 ∧ R (some x.d) h4) (R none h3)) items h1 [] fun acc h2 => Q (.fr acc) e1 h2) : wpE Φ Γ (.lc elt tg own k es cs) K false env vh Q :=
  wpEs_mono es K env vh _ _ (fun ds e1 h1 ⟨items, a, b, z⟩ => ⟨items, (plnK_items hk).trans a, noB_ok b, lcGo_mono (fun d h R R' f ⟨e2, q, y⟩ => ⟨plnK_stl hk, e2, q, wpTs_mono cs e2 h _ _ (fun b h3 => ifP_mono (wpE_mono elt _ false e2 h3 _ _ fun x e4 h4 z => ⟨z.1, f _ _ z.2⟩) (f _ _)) y⟩) items h1 [] _ _ (fun acc h2 z => ⟨plnK_stl hk, z⟩) z⟩) h
theorem e_lcS {elt : E} {tg : Tg} {own : List Nat} {k : Ik} {es cs : List E} (h : wpEs Φ Γ es K env vh fun ds e1 h1 => ∃ items, itemsV k h1 ds = some items ∧ noB e1 own = true ∧
      lcGo (fun d h R => stl k ds h1 h ∧ ∃ e2, bindT tg d (wipeE e1 own) = some e2 ∧ wpTs Φ Γ cs e2 h fun b h3 => ifP b (wpE Φ Γ elt (fun _ _ _ _ => False) false e2 h3 fun x e4 h4 => e4 = e2 ∧ R (some x.d) h4) (R none h3)) items h1 [] fun acc h2 => stl k ds h1 h2 ∧ Q (.fr acc) e1 h2) : wpE Φ Γ (.lc elt tg own k es cs) K false env vh Q :=
  wpEs_mono es K env vh _ _ (fun ds e1 h1 ⟨items, a, b, z⟩ => ⟨items, a, noB_ok b, z⟩) h
/-! ### join, list(range), isinstance -/
def JoA (x : DV) (P : Str → Prop) : Prop := ∃ a, x = .v (.str a) ∧ P a
theorem jo_str {a : Str} {P : Str → Prop} (h : P a) : JoA (.v (.str a)) P := ⟨a, rfl, h⟩
theorem e_join {o e : E} (h : wpE Φ Γ o K false env vh fun x e1 h1 => JoA x fun a => asO e (wpE Φ Γ e) K e1 h1 fun y e2 h2 => ∃ ys : List Str, y.ld e2 h2 = some (.lst (ys.map D.str)) ∧ (ys.map (·.length)).sum + ys.length * a.length ≤ 16777216 ∧ Q (.v (.str (Txt.join a ys))) e2 h2) : wpE Φ Γ (.join o e) K false env vh Q := h
def InA (x : DV) (P : Int → Prop) : Prop := ∃ i, x = .v (.int i) ∧ P i
theorem in_int {i : Int} {P : Int → Prop} (h : P i) : InA (.v (.int i)) P := ⟨i, rfl, h⟩
def LrB (i : Int) (y : DV) (P : Int → Prop) : Prop := ∃ j, y = .v (.int j) ∧ (-1000000 < i ∧ i < 1000000 ∧ -1000000 < j ∧ j < 1000000) ∧ P j
theorem lr_b {i j : Int} {P : Int → Prop} (h : -1000000 < i ∧ i < 1000000 ∧ -1000000 < j ∧ j < 1000000) (q : P j) : LrB i (.v (.int j)) P := ⟨j, rfl, h, q⟩
def EqI (Φ : Fns) (x y : Op) (env : VE) (vh : VH) (P : VSp → Nat → Nat → Prop) : Prop := ∃ n m c ns xs ms ys, x.raw env = some (.ref n) ∧ vh[n]? = some (.ins c ns xs) ∧ y.raw env = some (.ref m) ∧ vh[m]? = some (.ins c ms ys) ∧ (Φ (mN c "__eq__")).ex ∧ P (Φ (mN c "__eq__")) n m
theorem eqi_go {x y : Op} {P : VSp → Nat → Nat → Prop} {n m : Nat} {c q : Str} {ns ms : List Str} {xs ys : List D} (h1 : x.raw env = some (.ref n)) (h2 : vh[n]? = some (.ins c ns xs)) (h3 : y.raw env = some (.ref m)) (h4 : vh[m]? = some (.ins c ms ys)) (h5 : mN c "__eq__" = q) (h6 : (Φ q).ex) (h : P (Φ q) n m) : EqI Φ x y env vh P := by
  subst h5
  exact ⟨n, m, c, ns, xs, ms, ys, h1, h2, h3, h4, h6, h⟩
theorem e_eqI {a b : E} (h : asO a (wpE Φ Γ a) K env vh fun x e1 h1 => asO b (wpE Φ Γ b) K e1 h1 fun y e2 h2 => EqI Φ x y e2 h2 fun sp n m => sp.run [.ref n, .ref m] h2 (callK (fun x h3 => ∃ k, x = .v (.bl k) ∧ Q (.v (.bl k)) e2 h3) (fun c xs h3 => K c xs e2 h3))) : wpE Φ Γ (.eqI a b) K false env vh Q :=
  asO_mono (wpE_mono a K false env vh) (fun x e1 h1 h => asO_mono (wpE_mono b K false e1 h1) (fun y e2 h2 h => by
    obtain ⟨n, m, c, ns, xs, ms, ys, p1, p2, p3, p4, p5, z⟩ := h
    exact ⟨n, m, c, ns, xs, ms, ys, p1, p2, p3, p4, p5, (Φ (mN c "__eq__")).mono _ _ _ _ (fun o h3 z => match o, z with
      | .ok x, z => z
      | .exc c fs, z => z) z⟩) h) h
theorem e_bix {a : E} {k : Bool} (h : asO a (wpE Φ Γ a) K env vh fun x e1 h1 => ∃ bs : List Bool, x.ld e1 h1 = some (.lst (bs.map D.bl)) ∧ (k = true → true ∈ bs) ∧ Q (.v (.int ((if k then bs.idxOf true else bs.count true : Nat) : Int))) e1 h1) : wpE Φ Γ (.bix k a) K false env vh Q := h
theorem e_sset {a : E} (h : asO a (wpE Φ Γ a) K env vh fun x e1 h1 => ∃ ns : List Int, (x.ld e1 h1 = some (.lst (ns.map D.int)) ∨ x.ld e1 h1 = some (.tup (ns.map D.int))) ∧ ns.length < 64 ∧ ∀ ns' : List Int, ns'.Pairwise (· < ·) → (∀ k : Int, k ∈ ns' ↔ k ∈ ns) → Q (.fr (ns'.map D.int)) e1 h1) : wpE Φ Γ (.sset a) K false env vh Q := h
theorem e_lrg {a b : E} (h : wpE Φ Γ a K false env vh fun x e1 h1 => InA x fun i => wpE Φ Γ b K false e1 h1 fun y e2 h2 => LrB i y fun j => Q (.fr ((List.range (j - i).toNat).map fun (k : Nat) => D.int (i + (k : Int)))) e2 h2) : wpE Φ Γ (.lrg a b) K false env vh Q := h
def IscK (x : Op) (c : Str) (e1 : VE) (h1 : VH) (P : Prop) : Prop := ∃ n ns xs, x.raw e1 = some (.ref n) ∧ h1[n]? = some (.ins c ns xs) ∧ P
theorem isc_go {x : Op} {c : Str} {P : Prop} {n : Nat} {ns : List Str} {xs : List D} (h1 : x.raw env = some (.ref n)) (h2 : vh[n]? = some (.ins c ns xs)) (h : P) : IscK x c env vh P := ⟨n, ns, xs, h1, h2, h⟩
theorem e_isc {a : E} {c : Str} (h : asO a (wpE Φ Γ a) K env vh fun x e1 h1 => IscK x c e1 h1 (Q (.v (.bl true)) e1 h1)) : wpE Φ Γ (.isc a c) K false env vh Q := h
/-! ### instances -/
def FldK (x : Op) (f : Str) (e1 : VE) (h1 : VH) (P : D → Prop) : Prop := ∃ n c ns xs, x.raw e1 = some (.ref n) ∧ h1[n]? = some (.ins c ns xs) ∧ ∃ y, fldD f ns xs = some y ∧ P y
theorem fld_go {x : Op} {f : Str} {P : D → Prop} {n : Nat} {c : Str} {ns : List Str} {xs : List D} {y : D} (h1 : x.raw env = some (.ref n)) (h2 : vh[n]? = some (.ins c ns xs)) (h3 : fldD f ns xs = some y) (h : P y) : FldK x f env vh P := ⟨n, c, ns, xs, h1, h2, y, h3, h⟩
theorem e_fld {a : E} {f : Str} (h : asO a (wpE Φ Γ a) K env vh fun x e1 h1 => FldK x f e1 h1 fun y => Q (.v y) e1 h1) : wpE Φ Γ (.fld a f) K false env vh Q := h
def MthK (Φ : Fns) (x : Op) (m : Str) (e1 : VE) (h1 : VH) (P : Nat → VSp → Prop) : Prop := ∃ n c ns xs, x.raw e1 = some (.ref n) ∧ h1[n]? = some (.ins c ns xs) ∧ (m ∉ ns ∧ (Φ (mN c m)).ex) ∧ P n (Φ (mN c m))
theorem mth_go {x : Op} {m q : Str} {P : Nat → VSp → Prop} {n : Nat} {c : Str} {ns : List Str} {xs : List D} (h1 : x.raw env = some (.ref n)) (h2 : vh[n]? = some (.ins c ns xs)) (h3 : mN c m = q) (h4 : decide (m ∈ ns) = false) (h5 : (Φ q).ex) (h : P n (Φ q)) : MthK Φ x m env vh P := by
  subst h3
  exact ⟨n, c, ns, xs, h1, h2, ⟨of_decide_eq_false h4, h5⟩, h⟩
theorem e_meth {a : E} {m : Str} {es : List E} (h : asO a (wpE Φ Γ a) K env vh fun x e1 h1 => MthK Φ x m e1 h1 fun n sp => wpEs Φ Γ es K e1 h1 fun ds e2 h2 => sp.run (.ref n :: ds) h2 (callK (fun x h3 => Q x e2 h3) (fun c xs h3 => K c xs e2 h3))) : wpE Φ Γ (.meth a m es) K false env vh Q :=
  asO_mono (wpE_mono a K false env vh) (fun x e1 h1 h => by
    obtain ⟨n, c, ns, xs, p, q, r, z⟩ := h
    exact ⟨n, c, ns, xs, p, q, r, wpEs_mono es K e1 h1 _ _ (fun ds e2 h2 h => (Φ (mN c m)).mono _ _ _ _ (fun o h3 z => match o, z with
      | .ok x, z => z
      | .exc c fs, z => z) h) z⟩) h
theorem e_mk {c q : Str} {es : List E} (e : mN c "__init__" = q) (h : wpEs Φ Γ es K env vh fun ds e1 h1 => (Φ q).run (.ref h1.length :: ds) (h1 ++ [.ins c [] []]) (callK (fun x h2 => x = .v .non ∧ Q (.v (.ref h1.length)) e1 h2) (fun c xs h2 => K c xs e1 h2))) : wpE Φ Γ (.mk c es) K false env vh Q := by
  subst e
  exact wpEs_mono es K env vh _ _ (fun ds e1 h1 h => (Φ (mN c "__init__")).mono _ _ _ _ (fun o h3 z => match o, z with
      | .ok x, z => z
      | .exc c fs, z => z) h) h
theorem e_shr {a : E} (h : wpE Φ Γ a K false env vh fun x e1 h1 => ∃ ds, x = .fr ds ∧ Q (.v (.ref h1.length)) e1 (h1 ++ [.lst ds])) : wpE Φ Γ (.shr a) K false env vh Q := h
def PutK (o : Op) (f : Str) (d : D) (e2 : VE) (h2 : VH) (P : VE → VH → Prop) : Prop := ∃ n c ns xs, o.raw e2 = some (.ref n) ∧ h2[n]? = some (.ins c ns xs) ∧ ns.length ≤ 100 ∧ P e2 (h2.set n (.ins c (putN f ns) (putX f d ns xs)))
theorem put_go {o : Op} {f : Str} {d : D} {P : VE → VH → Prop} {n : Nat} {c : Str} {ns : List Str} {xs : List D} (h1 : o.raw env = some (.ref n)) (h2 : vh[n]? = some (.ins c ns xs)) (h3 : ns.length ≤ 100) (h : P env (vh.set n (.ins c (putN f ns) (putX f d ns xs)))) : PutK o f d env vh P := ⟨n, c, ns, xs, h1, h2, h3, h⟩
theorem s_fset {o e : E} {f : Str} (h : wpE Φ Γ e K false env vh fun x e1 h1 => asO o (wpE Φ Γ o) K e1 h1 fun oo e2 h2 => PutK oo f x.d e2 h2 nx) : wpS Φ Γ (.fset o f e) K ⟨nx, rt, bk, ct⟩ env vh := h
def AugK (oo : Op) (f : Str) (e1 : VE) (h1 : VH) (P : Nat → Str → D → Prop) : Prop := ∃ n c ns xs, oo.raw e1 = some (.ref n) ∧ h1[n]? = some (.ins c ns xs) ∧ ∃ y, fldD f ns xs = some y ∧ P n c y
theorem aug_go {o : Op} {f : Str} {P : Nat → Str → D → Prop} {n : Nat} {c : Str} {ns : List Str} {xs : List D} {y : D} (h1 : o.raw env = some (.ref n)) (h2 : vh[n]? = some (.ins c ns xs)) (h3 : fldD f ns xs = some y) (h : P n c y) : AugK o f env vh P := ⟨n, c, ns, xs, h1, h2, y, h3, h⟩
def AugP (n : Nat) (c f : Str) (r : D) (e2 : VE) (h2 : VH) (P : VE → VH → Prop) : Prop := ∃ ns2 xs2, h2[n]? = some (.ins c ns2 xs2) ∧ ns2.length ≤ 100 ∧ P e2 (h2.set n (.ins c (putN f ns2) (putX f r ns2 xs2)))
theorem augp_go {n : Nat} {c f : Str} {r : D} {P : VE → VH → Prop} {ns : List Str} {xs : List D} (h2 : vh[n]? = some (.ins c ns xs)) (h3 : ns.length ≤ 100) (h : P env (vh.set n (.ins c (putN f ns) (putX f r ns xs)))) : AugP n c f r env vh P := ⟨ns, xs, h2, h3, h⟩
theorem s_faug {o e : E} {f : Str} {op : Operator} (h : asO o (wpE Φ Γ o) K env vh fun oo e1 h1 => AugK oo f e1 h1 fun n c y => wpE Φ Γ e K false e1 h1 fun z e2 h2 => wpAug op y z.d fun r => AugP n c f r e2 h2 nx) : wpS Φ Γ (.faug o f op e) K ⟨nx, rt, bk, ct⟩ env vh := h
theorem c_inT {FB : Bool → Prop} {x : D} {xs : List D} (h1 : flatD x = true) (h2 : xs.all flatD = true) (h : FB (inD x xs)) : wpCmp .In x (.tup xs) FB := by
  unfold wpCmp
  exact ⟨h1, h2, h⟩
theorem c_inL {FB : Bool → Prop} {x : D} {xs : List D} (h1 : flatD x = true) (h2 : xs.all flatD = true) (h : FB (inD x xs)) : wpCmp .In x (.lst xs) FB := by
  unfold wpCmp
  exact ⟨.inl ⟨h1, h2⟩, h⟩
theorem c_inLD {FB : Bool → Prop} {x : D} {xs : List D} (h : (okD 63 x = true ∧ okD 64 x = true ∧ okD 64 (.lst xs) = true)) (q : FB (inD x xs)) : wpCmp .In x (.lst xs) FB := by
  unfold wpCmp
  exact ⟨.inr h, q⟩
theorem c_ninT {FB : Bool → Prop} {x : D} {xs : List D} (h1 : flatD x = true) (h2 : xs.all flatD = true) (h : FB (!inD x xs)) : wpCmp .NotIn x (.tup xs) FB := by
  unfold wpCmp
  exact ⟨h1, h2, h⟩
theorem c_ninL {FB : Bool → Prop} {x : D} {xs : List D} (h1 : flatD x = true) (h2 : xs.all flatD = true) (h : FB (!inD x xs)) : wpCmp .NotIn x (.lst xs) FB := by
  unfold wpCmp
  exact ⟨h1, h2, h⟩
theorem c_inS {FB : Bool → Prop} {x z : Str} {c : Nat} (h1 : x = ⟨#[c]⟩) (h : FB (decide (c ∈ z.cps.toList))) : wpCmp .In (.str x) (.str z) FB := ⟨c, h1, h⟩
theorem c_ninS {FB : Bool → Prop} {x z : Str} {c : Nat} (h1 : x = ⟨#[c]⟩) (h : FB (!decide (c ∈ z.cps.toList))) : wpCmp .NotIn (.str x) (.str z) FB := ⟨c, h1, h⟩
theorem g_Fld {x : Op} {f : Str} {P : D → Prop} (h : FldK x f env vh P) : FldK x f env vh P := h
theorem g_Mth {x : Op} {m : Str} {P : Nat → VSp → Prop} (h : MthK Φ x m env vh P) : MthK Φ x m env vh P := h
theorem g_Put {x : Op} {f : Str} {d : D} {P : VE → VH → Prop} (h : PutK x f d env vh P) : PutK x f d env vh P := h
/-! ### tests of values -/
theorem t_fin {ir : E} (hf : finK ir = true) (h : wpE Φ Γ ir K false env vh fun x e1 h1 => ∃ k, (deref h1 x.d).bind truD = some k ∧ Q (.v (.bl k)) e1 h1) : wpE Φ Γ ir K true env vh Q := by
  rw [fin_eq hf]
  exact h
theorem t_bor {i : Nat} {d : D} {k : Bool} (hl : (Op.slt i).ld env vh = some d) (hk : truD d = some k) (h : Q (.v (.bl k)) env vh) : wpE Φ Γ (.bor i) K true env vh Q := ⟨d, k, hl, hk, h⟩
/-! ### operands, lists -/
theorem o_bor {i : Nat} {s : Slot} {w : XP → Bool → VE → VH → QE → Prop} {P : Op → VE → VH → Prop} (hs : env[i]? = some s) (ho : s.ok) (h : P (.slt i) env vh) : asO (.bor i) w K env vh P := ⟨⟨s, hs, ho⟩, h⟩
theorem o_val {ir : E} {P : Op → VE → VH → Prop} (hb : isBor ir = false) (h : wpE Φ Γ ir K false env vh fun x e1 h1 => P (.dat x.d) e1 h1) : asO ir (wpE Φ Γ ir) K env vh P := by
  rw [asO_no hb]
  exact h
theorem l_nil {P : List D → VE → VH → Prop} (h : P [] env vh) : wpEs Φ Γ [] K env vh P := h
theorem l_cons {e : E} {es : List E} {P : List D → VE → VH → Prop} (h : wpE Φ Γ e K false env vh fun x e1 h1 => wpEs Φ Γ es K e1 h1 fun xs e2 h2 => P (x.d :: xs) e2 h2) : wpEs Φ Γ (e :: es) K env vh P := h
theorem os_nil {P : List Op → VE → VH → Prop} (h : P [] env vh) : wpOs Φ Γ [] K env vh P := h
theorem os_cons {e : E} {es : List E} {P : List Op → VE → VH → Prop} (h : asO e (wpE Φ Γ e) K env vh fun x e1 h1 => wpOs Φ Γ es K e1 h1 fun xs e2 h2 => P (x :: xs) e2 h2) : wpOs Φ Γ (e :: es) K env vh P := h
theorem ts_nil {P : Bool → VH → Prop} (h : P true vh) : wpTs Φ Γ [] env vh P := h
theorem ts_one {c : E} {P : Bool → VH → Prop} (h : wpE Φ Γ c (fun _ _ _ _ => False) true env vh fun x e1 h1 => e1 = env ∧ ∃ k, x = .v (.bl k) ∧ P k h1) : wpTs Φ Γ [c] env vh P := h
/-! ### operators -/
section
variable {F : DV → Prop} {FB : Bool → Prop} {i j : Int} {xs ys : List D} {x y : Str}
theorem b_add (h : F (.v (.int (i + j)))) : wpBin .Add (.int i) (.int j) F := h
theorem b_addT (hl : xs.length + ys.length ≤ 16777216) (h : F (.v (.tup (xs ++ ys)))) : wpBin .Add (.tup xs) (.tup ys) F := ⟨hl, h⟩
theorem b_addL (hl : xs.length + ys.length ≤ 16777216) (h : F (.fr (xs ++ ys))) : wpBin .Add (.lst xs) (.lst ys) F := ⟨hl, h⟩
theorem b_addS (hl : x.length + y.length ≤ 16777216) (h : F (.v (.str (x ++ y)))) : wpBin .Add (.str x) (.str y) F := ⟨hl, h⟩
theorem b_sub (h : F (.v (.int (i - j)))) : wpBin .Sub (.int i) (.int j) F := h
theorem b_mul (hl : mulOk i j) (h : F (.v (.int (i * j)))) : wpBin .Mult (.int i) (.int j) F := ⟨hl, h⟩
theorem b_mulL (h1 : -(2 ^ 62) < j ∧ j < 2 ^ 62 ∧ xs.length * j.toNat ≤ 16777216) (h : F (.fr (List.replicate j.toNat xs).flatten)) : wpBin .Mult (.lst xs) (.int j) F := ⟨h1, h⟩
theorem b_mulT (h1 : -1000 ≤ j) (h2 : j ≤ 1000) (h3 : xs.length ≤ 1000) (h : F (.v (.tup (List.replicate j.toNat xs).flatten))) : wpBin .Mult (.tup xs) (.int j) F := ⟨h1, h2, h3, h⟩
theorem b_mulS (hl : MulOk x j) (h : F (.v (.str (Txt.mul x j)))) : wpBin .Mult (.str x) (.int j) F := ⟨hl, h⟩
theorem b_div (hl : 0 < j ∧ j.natAbs.log2 < 9000) (h : F (.v (.int (i / j)))) : wpBin .FloorDiv (.int i) (.int j) F := ⟨hl, h⟩
theorem b_mod (hl : 0 < j) (h : F (.v (.int (i % j)))) : wpBin .Mod (.int i) (.int j) F := ⟨hl, h⟩
theorem b_pow (hl : 0 ≤ j ∧ j ≤ 1000000 ∧ i.natAbs < 2 ^ 64) (h : F (.v (.int (i ^ j.toNat)))) : wpBin .Pow (.int i) (.int j) F := ⟨hl, h⟩
theorem c_lt (h : FB (decide (i < j))) : wpCmp .Lt (.int i) (.int j) FB := h
theorem c_le (h : FB (decide (i ≤ j))) : wpCmp .LtE (.int i) (.int j) FB := h
theorem c_gt (h : FB (decide (j < i))) : wpCmp .Gt (.int i) (.int j) FB := h
theorem c_ge (h : FB (decide (j ≤ i))) : wpCmp .GtE (.int i) (.int j) FB := h
theorem c_eqI (h : FB (decide (i = j))) : wpCmp .Eq (.int i) (.int j) FB := ⟨.inl ⟨rfl, rfl⟩, by
  show FB (i == j)
  have e : (i == j) = decide (i = j) := by by_cases q : i = j <;> simp [q]
  rw [e]; exact h⟩
theorem c_neI (h : FB (!decide (i = j))) : wpCmp .NotEq (.int i) (.int j) FB := ⟨.inl ⟨rfl, rfl⟩, by
  show FB (!(i == j))
  have e : (i == j) = decide (i = j) := by by_cases q : i = j <;> simp [q]
  rw [e]; exact h⟩
theorem c_eq {a b : D} (h1 : okD 64 a = true) (h2 : okD 64 b = true) (h : FB (eqD a b)) : wpCmp .Eq a b FB := by
  cases a <;> exact ⟨.inl ⟨h1, h2⟩, h⟩
theorem c_ne {a b : D} (h1 : okD 64 a = true) (h2 : okD 64 b = true) (h : FB (!eqD a b)) : wpCmp .NotEq a b FB := by
  cases a <;> exact ⟨.inl ⟨h1, h2⟩, h⟩
theorem c_eqS {a b : Str} (h : FB (eqD (.str a) (.str b))) : wpCmp .Eq (.str a) (.str b) FB := ⟨.inr ⟨a, b, rfl, rfl⟩, h⟩
theorem c_neS {a b : Str} (h : FB (!eqD (.str a) (.str b))) : wpCmp .NotEq (.str a) (.str b) FB := ⟨.inr ⟨a, b, rfl, rfl⟩, h⟩
theorem c_eqBt {a b : Bool} (h1 : (a == b) = true) (h : FB true) : wpCmp .Eq (.bl a) (.bl b) FB := ⟨.inl ⟨by unfold okD; rfl, by unfold okD; rfl⟩, by unfold eqD; rw [h1]; exact h⟩
theorem c_eqBf {a b : Bool} (h1 : (a == b) = false) (h : FB false) : wpCmp .Eq (.bl a) (.bl b) FB := ⟨.inl ⟨by unfold okD; rfl, by unfold okD; rfl⟩, by unfold eqD; rw [h1]; exact h⟩
theorem c_neBt {a b : Bool} (h1 : (a == b) = true) (h : FB false) : wpCmp .NotEq (.bl a) (.bl b) FB := ⟨.inl ⟨by unfold okD; rfl, by unfold okD; rfl⟩, by unfold eqD; rw [h1]; exact h⟩
theorem c_neBf {a b : Bool} (h1 : (a == b) = false) (h : FB true) : wpCmp .NotEq (.bl a) (.bl b) FB := ⟨.inl ⟨by unfold okD; rfl, by unfold okD; rfl⟩, by unfold eqD; rw [h1]; exact h⟩
theorem c_isN {a : D} (h : FB (isNon a)) : wpCmp .Is a .non FB := by
  cases a <;> exact h
theorem c_isB {a : D} {b : Bool} (h : FB (isB a b)) : wpCmp .Is a (.bl b) FB := by
  cases a <;> exact h
theorem c_isNotB {a : D} {b : Bool} (h : FB (!isB a b)) : wpCmp .IsNot a (.bl b) FB := by
  cases a <;> exact h
theorem c_isNotN {a : D} (h : FB (!isNon a)) : wpCmp .IsNot a .non FB := by
  cases a <;> exact h
theorem i_tup {FD : D → Prop} {d : D} (hi : atI xs i = some d) (h : FD d) : wpIdx (.tup xs) (.int i) FD := ⟨d, hi, h⟩
theorem i_lst {FD : D → Prop} {d : D} (hi : atI xs i = some d) (h : FD d) : wpIdx (.lst xs) (.int i) FD := ⟨d, hi, h⟩
theorem u_tup {lo hi : Option Int} (h : F (.v (.tup (cutL xs lo hi)))) : wpSli (.tup xs) lo hi F := h
theorem u_lst {lo hi : Option Int} (h : F (.fr (cutL xs lo hi))) : wpSli (.lst xs) lo hi F := h
theorem u_str {x : Str} {lo hi : Option Int} (hz : x.length ≤ 16777216) (h : F (.v (.str (cutS x lo hi)))) : wpSli (.str x) lo hi F := ⟨hz, h⟩
theorem u_scr {ns : List Int} {lo hi : Option Int} (h : F (.fr ((cutL ns lo hi).map D.int))) : wpSli (.scr ns) lo hi F := h
theorem f_lenT (h : F (.v (.int xs.length))) : wpBlt .len [.tup xs] F := h
theorem f_lenL (h : F (.v (.int xs.length))) : wpBlt .len [.lst xs] F := h
theorem f_lenC {ns : List Int} (h : F (.v (.int ns.length))) : wpBlt .len [.scr ns] F := h
theorem f_lenS (hl : x.length ≤ 16777216) (h : F (.v (.int x.length))) : wpBlt .len [.str x] F := ⟨hl, h⟩
theorem f_int (h : F (.v (.int i))) : wpBlt .int [.int i] F := h
theorem f_intB {b : Bool} (h : F (.v (.int (if b then 1 else 0)))) : wpBlt .int [.bl b] F := h
theorem f_tupL (h : F (.v (.tup xs))) : wpBlt .tuple [.lst xs] F := h
theorem f_tupT (h : F (.v (.tup xs))) : wpBlt .tuple [.tup xs] F := h
theorem f_lstL (h : F (.fr xs)) : wpBlt .list [.lst xs] F := h
theorem f_lstT (h : F (.fr xs)) : wpBlt .list [.tup xs] F := h
theorem f_lstC {ns : List Int} (h : F (.fr (ns.map D.int))) : wpBlt .list [.scr ns] F := h
theorem f_abs (h : F (.v (.int (if i < 0 then -i else i)))) : wpBlt .abs [.int i] F := h
theorem f_min (h : F (.v (.int (if j < i then j else i)))) : wpBlt .min2 [.int i, .int j] F := h
theorem f_max (h : F (.v (.int (if j > i then j else i)))) : wpBlt .max2 [.int i, .int j] F := h
theorem f_all {bs : List Bool} (hx : xs = bs.map D.bl) (h : F (.v (.bl (bs.all id)))) : wpBlt .all [.lst xs] F := ⟨bs, hx, h⟩
theorem f_any {bs : List Bool} (hx : xs = bs.map D.bl) (h : F (.v (.bl (bs.any id)))) : wpBlt .any [.lst xs] F := ⟨bs, hx, h⟩
theorem f_sum {ns : List Int} (hx : xs = ns.map D.int) (h : F (.v (.int ns.sum))) : wpBlt .sum [.lst xs] F := ⟨ns, hx, h⟩
theorem f_rp {d : D} (hl : rpD d) (h : F (.v (.str (toP d).shown))) : wpBlt .repr [d] F := ⟨hl, h⟩
theorem f_strI (hl : i.natAbs.log2 < 1920) (h : F (.v (.str (Str.ofString (toString i))))) : wpBlt .str [.int i] F := ⟨hl, h⟩
theorem f_intS {n : Int} (he : PySem.intText? x = some n) (hl : x.length ≤ 640) (h : F (.v (.int n))) : wpBlt .int [.str x] F := ⟨n, he, hl, h⟩
theorem f_sumC {ns : List Int} (h : F (.v (.int ns.sum))) : wpBlt .sum [.scr ns] F := h
theorem p_true {p q : Prop} (h : p) : ifP true p q := h
theorem p_false {p q : Prop} (h : q) : ifP false p q := h
theorem p_isN {p q : Prop} (h : p) : ifP (isNon .non) p q := h
theorem p_nisN {p q : Prop} (h : q) : ifP (!isNon .non) p q := h
theorem p_isN0 {d : D} {p q : Prop} (e : isNon d = false) (h : q) : ifP (isNon d) p q := by rw [e]; exact h
theorem p_nisN0 {d : D} {p q : Prop} (e : isNon d = false) (h : p) : ifP (!isNon d) p q := by rw [e]; exact h
theorem p_nt {p q : Prop} (h : q) : ifP (!true) p q := h
theorem p_nf {p q : Prop} (h : p) : ifP (!false) p q := h
theorem p_ne {a b : D} {p q : Prop} (h : eqD a b = true) (hq : q) : ifP (!eqD a b) p q := by rw [h]; exact hq
theorem p_neF {a b : D} {p q : Prop} (h : eqD a b = false) (hq : p) : ifP (!eqD a b) p q := by rw [h]; exact hq
theorem p_dec {c : Prop} [Decidable c] {p q : Prop} (h1 : c → p) (h2 : ¬ c → q) : ifP (decide c) p q := by
  by_cases hc : c
  · rw [decide_eq_true hc]; exact h1 hc
  · rw [decide_eq_false hc]; exact h2 hc
theorem p_nd {c : Prop} [Decidable c] {p q : Prop} (h : c) (hq : q) : ifP (!decide c) p q := by rw [decide_eq_true h]; exact hq
theorem p_d {c : Prop} [Decidable c] {p q : Prop} (h : c) (hp : p) : ifP (decide c) p q := by rw [decide_eq_true h]; exact hp
theorem p_ndec {c : Prop} [Decidable c] {p q : Prop} (h1 : ¬ c → p) (h2 : c → q) : ifP (!decide c) p q := by
  by_cases hc : c
  · rw [decide_eq_true hc]; exact h2 hc
  · rw [decide_eq_false hc]; exact h1 hc
theorem p_bool {b : Bool} {p q : Prop} (h1 : b = true → p) (h2 : b = false → q) : ifP b p q := by
  cases b
  · exact h2 rfl
  · exact h1 rfl
end
/-! ### loops -/
theorem for_rule {turn : D → (VE → VH → Prop) → VE → VH → Prop} {F : VE → VH → Prop} (P : List D → VE → VH → Prop) (h0 : ∀ e h, P [] e h → F e h)
    (hs : ∀ d ds e h, P (d :: ds) e h → (∀ e' h', P ds e' h' → forGo turn ds e' h' F) → turn d (fun e h => forGo turn ds e h F) e h) : ∀ items e h, P items e h → forGo turn items e h F
  | [], e, h, p => h0 e h p
  | d :: ds, e, h, p => hs d ds e h p fun e' h' p' => for_rule P h0 hs ds e' h' p'
theorem fg_nil {turn : D → (VE → VH → Prop) → VE → VH → Prop} {F : VE → VH → Prop} {e : VE} {h : VH} (q : F e h) : forGo turn [] e h F := q
theorem fg_cons {turn : D → (VE → VH → Prop) → VE → VH → Prop} {F : VE → VH → Prop} {e : VE} {h : VH} {d : D} {ds : List D} (q : turn d (fun e h => forGo turn ds e h F) e h) : forGo turn (d :: ds) e h F := q
theorem lc_rule {turn : D → VH → (Option D → VH → Prop) → Prop} {F : List D → VH → Prop} (P : List D → VH → List D → Prop) (h0 : ∀ h acc, P [] h acc → F acc h)
    (hs : ∀ d ds h acc, P (d :: ds) h acc → (∀ h' acc', P ds h' acc' → lcGo turn ds h' acc' F) → turn d h fun o h' => match o with
      | some y => acc.length < 16777216 ∧ lcGo turn ds h' (acc ++ [y]) F
      | none => lcGo turn ds h' acc F) : ∀ items h acc, P items h acc → lcGo turn items h acc F
  | [], h, acc, p => h0 h acc p
  | d :: ds, h, acc, p => hs d ds h acc p fun h' acc' p' => lc_rule P h0 hs ds h' acc' p'
/-- what goes on behind a turn of a comprehension -/
@[reducible] def lcK (acc : List D) (k : List D → VH → Prop) : Option D → VH → Prop
  | some y, h => acc.length < 16777216 ∧ k (acc ++ [y]) h
  | none, h => k acc h
theorem lcg_nil {turn : D → VH → (Option D → VH → Prop) → Prop} {F : List D → VH → Prop} {acc : List D} {h : VH} (q : F acc h) : lcGo turn [] h acc F := q
theorem lcg_cons {K : XP} {Φ : Fns} {Γ : Cns} {tg : Tg} {env : VE} {own : List Nat} {cs : List E} {elt : E} {F : List D → VH → Prop} {acc : List D} {h : VH} {d : D} {ds : List D}
    (q : ∃ e2, bindT tg d (wipeE env own) = some e2 ∧ wpTs Φ Γ cs e2 h fun b h3 => ifP b (wpE Φ Γ elt K false e2 h3 fun x e4 h4 => e4 = e2 ∧ lcK acc (fun acc' h' => lcGo (fun d h R => ∃ e2, bindT tg d (wipeE env own) = some e2 ∧ wpTs Φ Γ cs e2 h fun b h3 => ifP b (wpE Φ Γ elt K false e2 h3 fun x e4 h4 => e4 = e2 ∧ R (some x.d) h4) (R none h3)) ds h' acc' F) (some x.d) h4)
      (lcK acc (fun acc' h' => lcGo (fun d h R => ∃ e2, bindT tg d (wipeE env own) = some e2 ∧ wpTs Φ Γ cs e2 h fun b h3 => ifP b (wpE Φ Γ elt K false e2 h3 fun x e4 h4 => e4 = e2 ∧ R (some x.d) h4) (R none h3)) ds h' acc' F) none h3)) :
    lcGo (fun d h R => ∃ e2, bindT tg d (wipeE env own) = some e2 ∧ wpTs Φ Γ cs e2 h fun b h3 => ifP b (wpE Φ Γ elt K false e2 h3 fun x e4 h4 => e4 = e2 ∧ R (some x.d) h4) (R none h3)) (d :: ds) h acc F := q
/-- a comprehension that turns each item into one, and nothing else -/
theorem lc_map {turn : D → VH → (Option D → VH → Prop) → Prop} {F : List D → VH → Prop} (f : D → D) : ∀ (items : List D) (h : VH) (acc : List D), (∀ d, d ∈ items → ∀ R : Option D → VH → Prop, R (some (f d)) h → turn d h R) → acc.length + items.length ≤ 16777216 → F (acc ++ items.map f) h → lcGo turn items h acc F
  | [], h, acc, _, _, q => by
    rw [List.map_nil, List.append_nil] at q
    exact q
  | d :: ds, h, acc, ht, hl, q => by
    rw [List.length_cons] at hl
    refine ht d List.mem_cons_self _ ⟨by omega, lc_map f ds h _ (fun x hx => ht x (List.mem_cons_of_mem _ hx)) (by rw [List.length_append, List.length_singleton]; omega) ?_⟩
    rw [List.append_assoc]
    exact q
end
theorem div_ok {j : Int} (h1 : 0 < j) (h2 : j < 340282366920938463463374607431768211456) : 0 < j ∧ j.natAbs.log2 < 9000 := by
  refine ⟨h1, Nat.lt_trans ((Nat.log2_lt (by omega)).mpr (?_ : j.natAbs < 2 ^ 128)) (by decide)⟩
  have e : (2 : Nat) ^ 128 = 340282366920938463463374607431768211456 := by decide
  rw [e]
  omega
theorem log_ok {i : Int} (h1 : -340282366920938463463374607431768211456 < i) (h2 : i < 340282366920938463463374607431768211456) : i.natAbs.log2 < 1920 := by
  by_cases h0 : i.natAbs = 0
  · rw [h0]
    decide
  refine Nat.lt_trans ((Nat.log2_lt h0).mpr (?_ : i.natAbs < 2 ^ 128)) (by decide)
  have e : (2 : Nat) ^ 128 = 340282366920938463463374607431768211456 := by decide
  rw [e]
  omega
theorem mul_l {i j : Int} (h1 : -18446744073709551616 < i) (h2 : i < 18446744073709551616) : mulOk i j := .inl ⟨h1, h2⟩
theorem mul_r {i j : Int} (h1 : -18446744073709551616 < j) (h2 : j < 18446744073709551616) : mulOk i j := .inr (.inl ⟨h1, h2⟩)
/-! ### what a goal is -/
section
variable {Φ : Fns} {Γ : Cns} {K : XP} {env : VE} {vh : VH}
theorem g_S {s : S} {V : VEnds} (h : wpS Φ Γ s K V env vh) : wpS Φ Γ s K V env vh := h
theorem g_B {s : List S} {V : VEnds} (h : wpB Φ Γ s K V env vh) : wpB Φ Γ s K V env vh := h
theorem g_E {e : E} {Q : QE} (h : wpE Φ Γ e K false env vh Q) : wpE Φ Γ e K false env vh Q := h
theorem g_T {e : E} {Q : QE} (h : wpE Φ Γ e K true env vh Q) : wpE Φ Γ e K true env vh Q := h
theorem g_O {e : E} {w : XP → Bool → VE → VH → QE → Prop} {Q : Op → VE → VH → Prop} (h : asO e w K env vh Q) : asO e w K env vh Q := h
theorem g_L {e : List E} {Q : List D → VE → VH → Prop} (h : wpEs Φ Γ e K env vh Q) : wpEs Φ Γ e K env vh Q := h
theorem g_Os {e : List E} {Q : List Op → VE → VH → Prop} (h : wpOs Φ Γ e K env vh Q) : wpOs Φ Γ e K env vh Q := h
theorem g_Bin {o : Operator} {a b : D} {Q : DV → Prop} (h : wpBin o a b Q) : wpBin o a b Q := h
theorem g_Cmp {o : CmpOp} {a b : D} {Q : Bool → Prop} (h : wpCmp o a b Q) : wpCmp o a b Q := h
theorem g_Blt {f : Bf} {a : List D} {Q : DV → Prop} (h : wpBlt f a Q) : wpBlt f a Q := h
theorem g_P {b : Bool} {p q : Prop} (h : ifP b p q) : ifP b p q := h
theorem g_Ex {A : Type} {P : A → Prop} (h : ∃ x, P x) : ∃ x, P x := h
end
/-! ### promises -/
/-- a promise by its arguments, what is asked ahead, what comes -/
def spec {A : Type} (args : A → List D) (pre : A → VH → Prop) (post : A → VH → DV → VH → Prop) : VSp :=
  ⟨fun ds vh R => ∃ a, ds = args a ∧ pre a vh ∧ ∀ x vh', post a vh x vh' → R (.ok x) vh', fun ds vh R R' f ⟨a, e, p, q⟩ => ⟨a, e, p, fun x vh' h => f _ _ (q x vh' h)⟩, True⟩
/-- of a def that changes nothing and tells one thing -/
def specF {A : Type} (args : A → List D) (pre : A → Prop) (val : A → DV) : VSp :=
  ⟨fun ds vh R => ∃ a, ds = args a ∧ pre a ∧ R (.ok (val a)) vh, fun ds vh R R' f ⟨a, e, p, q⟩ => ⟨a, e, p, f _ _ q⟩, True⟩
theorem sat_spec {A : Type} {Φ : Fns} {Γ : Cns} {irs : List S} {N ps : List Str} {args : A → List D} {pre : A → VH → Prop} {post : A → VH → DV → VH → Prop} (hl : ∀ a, (args a).length = ps.length)
    (h : ∀ a vh (R : Out → VH → Prop), pre a vh → (∀ x vh', post a vh x vh' → R (.ok x) vh') → wpB Φ Γ irs (fun c xs _ vh => R (.exc c xs) vh) ⟨fun _ vh => R (.ok (.v .non)) vh, fun x vh => R (.ok x) vh, fun _ _ => False, fun _ _ => False⟩ (startE N (args a)) vh) : Sat Φ Γ irs N ps (spec args pre post) := by
  rintro ds vh R ⟨a, rfl, p, q⟩
  exact ⟨hl a, h a vh R p q⟩
theorem sat_specF {A : Type} {Φ : Fns} {Γ : Cns} {irs : List S} {N ps : List Str} {args : A → List D} {pre : A → Prop} {val : A → DV} (hl : ∀ a, (args a).length = ps.length)
    (h : ∀ a vh (R : Out → VH → Prop), pre a → R (.ok (val a)) vh → wpB Φ Γ irs (fun c xs _ vh => R (.exc c xs) vh) ⟨fun _ vh => R (.ok (.v .non)) vh, fun x vh => R (.ok x) vh, fun _ _ => False, fun _ _ => False⟩ (startE N (args a)) vh) : Sat Φ Γ irs N ps (specF args pre val) := by
  rintro ds vh R ⟨a, rfl, p, q⟩
  exact ⟨hl a, h a vh R p q⟩
theorem call_specF {A : Type} {args : A → List D} {pre : A → Prop} {val : A → DV} {vh : VH} {k : DV → VH → Prop} {kx : Str → List D → VH → Prop} {ds : List D} (a : A) (e : ds = args a) (p : pre a) (q : k (val a) vh) : (specF args pre val).run ds vh (callK k kx) := ⟨a, e, p, q⟩
theorem call_spec {A : Type} {args : A → List D} {pre : A → VH → Prop} {post : A → VH → DV → VH → Prop} {vh : VH} {k : DV → VH → Prop} {kx : Str → List D → VH → Prop} {ds : List D} (a : A) (e : ds = args a) (p : pre a vh) (q : ∀ x vh', post a vh x vh' → k x vh') : (spec args pre post).run ds vh (callK k kx) := ⟨a, e, p, q⟩
/-- of a def that changes nothing and ends in one way -/
def specE {A : Type} (args : A → List D) (pre : A → Prop) (out : A → Out) : VSp :=
  ⟨fun ds vh R => ∃ a, ds = args a ∧ pre a ∧ R (out a) vh, fun ds vh R R' f ⟨a, e, p, q⟩ => ⟨a, e, p, f _ _ q⟩, True⟩
theorem sat_specE {A : Type} {Φ : Fns} {Γ : Cns} {irs : List S} {N ps : List Str} {args : A → List D} {pre : A → Prop} {out : A → Out} (hl : ∀ a, (args a).length = ps.length)
    (h : ∀ a vh (R : Out → VH → Prop), pre a → R (out a) vh → wpB Φ Γ irs (fun c xs _ vh => R (.exc c xs) vh) ⟨fun _ vh => R (.ok (.v .non)) vh, fun x vh => R (.ok x) vh, fun _ _ => False, fun _ _ => False⟩ (startE N (args a)) vh) : Sat Φ Γ irs N ps (specE args pre out) := by
  rintro ds vh R ⟨a, rfl, p, q⟩
  exact ⟨hl a, h a vh R p q⟩
theorem call_specE {A : Type} {args : A → List D} {pre : A → Prop} {out : A → Out} {vh : VH} {k : DV → VH → Prop} {kx : Str → List D → VH → Prop} {ds : List D} (a : A) (e : ds = args a) (p : pre a) (q : callK k kx (out a) vh) : (specE args pre out).run ds vh (callK k kx) := ⟨a, e, p, q⟩
/-! ### shared lists -/
theorem ld_ref {env : VE} {vh : VH} {i n : Nat} {xs : List D} (h1 : env[i]? = some (.val (.ref n))) (h2 : vh[n]? = some (.lst xs)) : (Op.slt i).ld env vh = some (.lst xs) := by
  unfold Op.ld
  dsimp only
  rw [h1]
  dsimp only [Slot.ld]
  unfold deref
  dsimp only
  rw [h2]
theorem ld_refD {env : VE} {vh : VH} {n : Nat} {xs : List D} (h2 : vh[n]? = some (.lst xs)) : (Op.dat (.ref n)).ld env vh = some (.lst xs) := by
  unfold Op.ld
  dsimp only
  unfold deref
  dsimp only
  rw [h2]
def noRef : D → Bool
  | .ref _ => false
  | _ => true
theorem deref_nr {vh : VH} {d : D} (h : noRef d = true) : deref vh d = some d := by
  cases d <;> first | rfl | cases h
theorem ld_nr {env : VE} {vh : VH} {d : D} (h : noRef d = true) : (Op.dat d).ld env vh = some d := deref_nr h
theorem ld_nrS {env : VE} {vh : VH} {i : Nat} {d : D} (h1 : env[i]? = some (.val d)) (h : noRef d = true) : (Op.slt i).ld env vh = some d := by
  unfold Op.ld
  dsimp only
  rw [h1]
  exact deref_nr h
theorem w_set {env : VE} {vh : VH} {i n m : Nat} {j : Int} {x : D} {xs : List D} {Q : VE → VH → Prop} (h1 : env[i]? = some (.val (.ref n))) (h2 : vh[n]? = some (.lst xs)) (hi : ixN xs.length j = some m)
    (q : ∀ vh' : VH, vh'[n]? = some (.lst (xs.set m x)) → (∀ o, vh'.set n o = vh.set n o) → Q env vh') : wpSet (.slt i) (.int j) x env vh Q := by
  unfold wpSet
  dsimp only
  rw [h1]
  dsimp only
  unfold setSh
  rw [h2]
  have hn : n < vh.length := (List.getElem?_eq_some_iff.mp h2).1
  exact ⟨m, hi, q _ (by rw [List.getElem?_set_self hn]) fun o => by rw [List.set_set]⟩
theorem set_same {vh : VH} {n : Nat} {o : VO} (h : vh[n]? = some o) : vh.set n o = vh := by
  obtain ⟨hn, e⟩ := List.getElem?_eq_some_iff.mp h
  rw [← e]
  exact List.set_getElem_self hn
theorem set_eq {vh vh2 : VH} {n : Nat} {o : VO} (g1 : vh2[n]? = some o) (g2 : ∀ o, vh2.set n o = vh.set n o) : vh2 = vh.set n o := by rw [← g2, set_same g1]
theorem atI_ok {xs : List D} {i : Int} (h0 : 0 ≤ i) (h1 : i < xs.length) : ∃ d, atI xs i = some d ∧ d ∈ xs := by
  have hi : i.toNat < xs.length := by omega
  refine ⟨xs[i.toNat], ?_, List.getElem_mem hi⟩
  unfold atI ixN
  rw [if_pos h0, if_pos h1]
  simp [hi]
theorem atI_int {xs : List Int} {i : Int} (h0 : 0 ≤ i) (h1 : i < xs.length) : ∃ c, atI (xs.map D.int) i = some (.int c) ∧ c ∈ xs := by
  obtain ⟨d, h, hm⟩ := atI_ok (xs := xs.map D.int) h0 (by rw [List.length_map]; exact h1)
  obtain ⟨c, hc, rfl⟩ := List.mem_map.mp hm
  exact ⟨c, h, hc⟩
theorem items_r3 {a b : Int} (h1 : -1000000 < a) (h2 : a < 1000000) (h3 : -1000000 < b) (h4 : b < 1000000) : itemsD .rng3 [.int a, .int b, .int (-1)] = some ((List.range (a - b).toNat).map fun (i : Nat) => D.int (a - (i : Int))) := by
  have e : (2 : Int) ^ 62 = 4611686018427387904 := by decide
  show (if (-1 : Int) = -1 ∧ -(2 ^ 62) ≤ a ∧ a < 2 ^ 62 ∧ -(2 ^ 62) ≤ b ∧ b < 2 ^ 62 then _ else none) = _
  rw [e, if_pos (by omega)]
theorem ex_r1 {n : Int} {F : List D → Prop} (h : F ((List.range n.toNat).map fun (i : Nat) => D.int (i : Int))) : ∃ items, itemsD .rng1 [.int n] = some items ∧ F items := ⟨_, rfl, h⟩
theorem ex_r2 {a b : Int} {F : List D → Prop} (h : F ((List.range (b - a).toNat).map fun (i : Nat) => D.int (a + (i : Int)))) : ∃ items, itemsD .rng2 [.int a, .int b] = some items ∧ F items := ⟨_, rfl, h⟩
theorem ex_r3 {a b : Int} {F : List D → Prop} (h1 : -1000000 < a) (h2 : a < 1000000) (h3 : -1000000 < b) (h4 : b < 1000000) (h : F ((List.range (a - b).toNat).map fun (i : Nat) => D.int (a - (i : Int)))) : ∃ items, itemsD .rng3 [.int a, .int b, .int (-1)] = some items ∧ F items := ⟨_, items_r3 h1 h2 h3 h4, h⟩
/-- all is as it was but the n-th -/
def Fx (n : Nat) (vh vh' : VH) : Prop := vh'.length = vh.length ∧ ∀ j, j ≠ n → vh'[j]? = vh[j]?
theorem fx_set {n : Nat} {vh : VH} {o : VO} : Fx n vh (vh.set n o) := ⟨List.length_set, fun j h => List.getElem?_set_ne (Ne.symm h)⟩
theorem get_set {n : Nat} {vh : VH} {o u : VO} (h : vh[n]? = some u) : (vh.set n o)[n]? = some o := List.getElem?_set_self (List.getElem?_eq_some_iff.mp h).1
theorem df_none {P : Program} {w : World} {K : PySem.W.Frag} {mg : Str → Option Value} {base : Heap} {G : Wd} {k : Nat} {x : Str} {st : Stmt} {f : Addr} {fd : FuncData} {ps : List Str} {sp : VSp} (F : Fun K x x st f fd) (hm : mg x = some (.ref f)) (b : Binds K fd ps []) (hdb : (x == ("__debug__" : Str)) = false) (h : ∀ ds vh R, ¬ sp.run ds vh R) : Df P w K mg base G k x sp :=
  ⟨f, fd, ps, hm, F.kp, b, ⟨fun vs H Q E ⟨_, _, _, _, _, _, z⟩ => (h _ _ _ z).elim, fun A outer s H args us vs Q E hr e0 hb r ⟨_, _, _, _, _, _, z⟩ => (h _ _ _ z).elim⟩, hdb⟩
def none_sp : VSp := ⟨fun _ _ _ => False, fun _ _ _ _ _ h => h, False⟩
/-! ### equal data -/
mutual
theorem eqD_refl : ∀ (n : Nat) (d : D), okD n d = true → eqD d d = true
  | n, .non, _ => by unfold eqD; rfl
  | n, .bl b, _ => by unfold eqD; simp
  | n, .int i, _ => by unfold eqD; simp
  | n, .str x, _ => by unfold eqD; simp
  | 0, .lst xs, h => by unfold okD at h; cases h
  | 0, .tup xs, h => by unfold okD at h; cases h
  | n + 1, .lst xs, h => by unfold okD at h; unfold eqD; exact eqDs_refl n xs h
  | n + 1, .tup xs, h => by unfold okD at h; unfold eqD; exact eqDs_refl n xs h
  | n, .ty _, h => by cases n <;> (unfold okD at h; cases h)
  | n, .adr _, h => by cases n <;> (unfold okD at h; cases h)
  | n, .dct _ _, h => by cases n <;> (unfold okD at h; cases h)
  | n, .obj _ _ _, h => by cases n <;> (unfold okD at h; cases h)
  | n, .ref _, h => by cases n <;> (unfold okD at h; cases h)
  | n, .scr _, h => by cases n <;> (unfold okD at h; cases h)
theorem eqDs_refl : ∀ (n : Nat) (ds : List D), okDs n ds = true → eqDs ds ds = true
  | n, [], _ => by unfold eqDs; rfl
  | n, d :: ds, h => by
    unfold okDs at h
    rw [Bool.and_eq_true] at h
    unfold eqDs
    rw [eqD_refl n d h.1, eqDs_refl n ds h.2]
    rfl
end
theorem okDs_ints {n : Nat} : ∀ xs : List Int, okDs n (xs.map D.int) = true
  | [] => by unfold okDs; rfl
  | x :: xs => by
    rw [List.map_cons]
    unfold okDs
    rw [okDs_ints xs]
    cases n <;> (unfold okD; rfl)
theorem eqDs_ints : ∀ xs ys : List Int, eqDs (xs.map D.int) (ys.map D.int) = decide (xs = ys)
  | [], [] => by unfold eqDs; rfl
  | [], y :: ys => by unfold eqDs; rfl
  | x :: xs, [] => by unfold eqDs; rfl
  | x :: xs, y :: ys => by
    rw [List.map_cons, List.map_cons]
    unfold eqDs
    rw [eqDs_ints xs ys]
    unfold eqD
    by_cases q : x = y <;> by_cases r : xs = ys <;> simp [q, r]
theorem okD_tupI {n : Nat} {xs : List Int} : okD (n + 1) (.tup (xs.map D.int)) = true := by unfold okD; exact okDs_ints xs
theorem okD_lstI {n : Nat} {xs : List Int} : okD (n + 1) (.lst (xs.map D.int)) = true := by unfold okD; exact okDs_ints xs
theorem eqD_tupI {xs ys : List Int} : eqD (.tup (xs.map D.int)) (.tup (ys.map D.int)) = decide (xs = ys) := by unfold eqD; exact eqDs_ints xs ys
theorem cut_take {α : Type} {xs : List α} {v : Int} (h : 0 ≤ v) : cutL xs none (some v) = xs.take v.toNat := by
  unfold cutL HT.sIx
  dsimp only
  rw [if_neg (by omega), List.drop_zero, Nat.sub_zero, List.take_eq_take_iff]
  omega
theorem cut_takeN {α : Type} {xs : List α} {v : Int} (h : v < 0) : cutL xs none (some v) = xs.take (xs.length - (-v).toNat) := by
  unfold cutL HT.sIx
  dsimp only
  rw [if_pos h, List.drop_zero, Nat.sub_zero, List.take_eq_take_iff]
  omega
theorem cut_drop {α : Type} {xs : List α} {v : Int} (h : 0 ≤ v) : cutL xs (some v) none = xs.drop v.toNat := by
  unfold cutL HT.sIx
  dsimp only
  rw [if_neg (by omega)]
  by_cases q : v.toNat ≤ xs.length
  · rw [Nat.min_eq_left q, List.take_of_length_le]
    rw [List.length_drop]
    exact Nat.le_refl _
  · rw [Nat.min_eq_right (by omega), Nat.sub_self, List.take_zero, List.drop_eq_nil_of_le (by omega)]
theorem cutL_len {α : Type} {xs : List α} {lo hi : Option Int} : (cutL xs lo hi).length ≤ xs.length := by
  unfold cutL
  rw [List.length_take, List.length_drop]
  omega
theorem cutL_mem {α : Type} {xs : List α} {lo hi : Option Int} {x : α} (h : x ∈ cutL xs lo hi) : x ∈ xs := List.mem_of_mem_drop (List.mem_of_mem_take h)
theorem cutL_map {α β : Type} (f : α → β) (xs : List α) (lo hi : Option Int) : cutL (xs.map f) lo hi = (cutL xs lo hi).map f := by
  unfold cutL
  rw [List.length_map, ← List.map_drop, ← List.map_take]
/-! ### shared lists are written -/
section
variable {env : VE} {vh : VH} {i n m : Nat} {j : Int} {x : D} {xs ys : List D} {Q : VE → VH → Prop}
theorem w_setD (h2 : vh[n]? = some (.lst xs)) (hi : ixN xs.length j = some m) (h : ∀ vh', vh'[n]? = some (.lst (xs.set m x)) → Fx n vh vh' → Q env vh') : wpSet (.dat (.ref n)) (.int j) x env vh Q := by
  show setSh n (.int j) x vh (Q env)
  unfold setSh
  rw [h2]
  exact ⟨m, hi, h _ (get_set h2) fx_set⟩
theorem w_setR (h1 : env[i]? = some (.val (.ref n))) (h2 : vh[n]? = some (.lst xs)) (hi : ixN xs.length j = some m) (h : ∀ vh', vh'[n]? = some (.lst (xs.set m x)) → Fx n vh vh' → Q env vh') : wpSet (.slt i) (.int j) x env vh Q := by
  unfold wpSet
  dsimp only
  rw [h1]
  show setSh n (.int j) x vh (Q env)
  unfold setSh
  rw [h2]
  exact ⟨m, hi, h _ (get_set h2) fx_set⟩
theorem w_appD (h2 : vh[n]? = some (.lst xs)) (hl : xs.length < 16777216) (h : ∀ vh', vh'[n]? = some (.lst (xs ++ [x])) → Fx n vh vh' → Q env vh') : wpApp (.dat (.ref n)) x env vh Q := by
  show appSh n x vh (Q env)
  unfold appSh
  rw [h2]
  exact ⟨hl, h _ (get_set h2) fx_set⟩
theorem w_appR (h1 : env[i]? = some (.val (.ref n))) (h2 : vh[n]? = some (.lst xs)) (hl : xs.length < 16777216) (h : ∀ vh', vh'[n]? = some (.lst (xs ++ [x])) → Fx n vh vh' → Q env vh') : wpApp (.slt i) x env vh Q := by
  unfold wpApp
  dsimp only
  rw [h1]
  show appSh n x vh (Q env)
  unfold appSh
  rw [h2]
  exact ⟨hl, h _ (get_set h2) fx_set⟩
theorem w_popD {y : D} (h2 : vh[n]? = some (.lst (y :: xs))) (h : ∀ vh', vh'[n]? = some (.lst xs) → Fx n vh vh' → Q env vh') : wpPop (.dat (.ref n)) env vh Q := by
  show popSh n vh (Q env)
  unfold popSh
  rw [h2]
  exact h _ (get_set h2) fx_set
theorem w_sasR {a : Int} (h1 : env[i]? = some (.val (.ref n))) (h2 : vh[n]? = some (.lst xs)) (h0 : 0 ≤ a) (ha : a ≤ xs.length) (hl : xs.length + ys.length ≤ 16777216) (h : ∀ vh', vh'[n]? = some (.lst (xs.take a.toNat ++ ys)) → Fx n vh vh' → Q env vh') : wpSas (.slt i) (.int a) (.lst ys) env vh Q := by
  unfold wpSas
  dsimp only
  rw [h1]
  show sasSh n a ys vh (Q env)
  unfold sasSh
  rw [h2]
  exact ⟨h0, ha, hl, h _ (get_set h2) fx_set⟩
theorem w_popR {y : D} (h1 : env[i]? = some (.val (.ref n))) (h2 : vh[n]? = some (.lst (y :: xs))) (h : ∀ vh', vh'[n]? = some (.lst xs) → Fx n vh vh' → Q env vh') : wpPop (.slt i) env vh Q := by
  unfold wpPop
  dsimp only
  rw [h1]
  show popSh n vh (Q env)
  unfold popSh
  rw [h2]
  exact h _ (get_set h2) fx_set
theorem w_extD (h2 : vh[n]? = some (.lst xs)) (hl : xs.length + ys.length ≤ 16777216) (h : ∀ vh', vh'[n]? = some (.lst (xs ++ ys)) → Fx n vh vh' → Q env vh') : wpExt (.dat (.ref n)) ys env vh Q := by
  show extSh n ys vh (Q env)
  unfold extSh
  rw [h2]
  exact ⟨hl, h _ (get_set h2) fx_set⟩
theorem ex_ld1 {F : List D → Prop} (h : vh[n]? = some (.lst xs)) (q : F [.lst xs]) : ∃ ds, ldAll env vh [.dat (.ref n)] = some ds ∧ F ds := by
  refine ⟨[.lst xs], ?_, q⟩
  unfold ldAll ldAll Op.ld deref
  dsimp only
  rw [h]
theorem ex_ld1s {F : List D → Prop} (h1 : env[i]? = some (.val (.ref n))) (h : vh[n]? = some (.lst xs)) (q : F [.lst xs]) : ∃ ds, ldAll env vh [.slt i] = some ds ∧ F ds := by
  refine ⟨[.lst xs], ?_, q⟩
  unfold ldAll ldAll Op.ld
  dsimp only
  rw [h1]
  dsimp only
  unfold Slot.ld deref
  dsimp only
  rw [h]
theorem ls_D (h2 : vh[n]? = some (.lst xs)) : isLs (.dat (.ref n)) env vh := ⟨xs, h2⟩
theorem ls_R (h1 : env[i]? = some (.val (.ref n))) (h2 : vh[n]? = some (.lst xs)) : isLs (.slt i) env vh := by
  unfold isLs
  dsimp only
  rw [h1]
  exact ⟨xs, h2⟩
end
end R

set_option autoImplicit false
namespace R
open PySem PySem.Spec PyProof.Rows L2
/-! ## R12: what the top has written, part by part -/
def AllL {α : Type} (P : α → Prop) : List α → Prop
  | [] => True
  | x :: r => P x ∧ AllL P r
theorem AllL.get {α : Type} {P : α → Prop} : ∀ {l : List α}, AllL P l → ∀ x, x ∈ l → P x
  | [], _, x, h => by cases h
  | y :: r, a, x, h => by
    rcases List.mem_cons.mp h with rfl | h
    · exact a.1
    · exact AllL.get a.2 x h
def flT (tb : List (Str × List Str × List Str)) : Str → List Str := fun x => match tb.lookup x with
  | some p => p.1
  | none => []
def atT (K : PySem.W.Frag) (x : Str) : Option Addr := match PySem.W.nsIn K mainGlobals x with
  | some (some (.ref C)) => some C
  | _ => none
theorem atT_eq {K : PySem.W.Frag} {x : Str} {C : Addr} (h : PySem.W.nsIn K mainGlobals x = some (some (.ref C))) : atT K x = some C := by
  unfold atT
  rw [h]
theorem atT_inj {K : PySem.W.Frag} {x : Str} {C C' : Addr} (h : PySem.W.nsIn K mainGlobals x = some (some (.ref C))) (e : atT K x = some C') : C' = C := by
  rw [atT_eq h] at e
  exact (Option.some.inj e).symm
def clT (K : PySem.W.Frag) (tb : List (Str × List Str × List Str)) : Str → Option Addr := fun x => if (tb.lookup x).isSome = true then atT K x else none
def ciT (K : PySem.W.Frag) (cis : List Str) : Str → Option Addr := fun x => if cis.contains x = true then atT K x else none
def wdT (K : PySem.W.Frag) (tb : List (Str × List Str × List Str)) (cis : List Str) : Wd := ⟨K, clT K tb, flT tb, ciT K cis⟩
theorem lookup_mem {tb : List (Str × List Str × List Str)} {x : Str} {p : List Str × List Str} (h : tb.lookup x = some p) : (x, p) ∈ tb := PySem.mem_of_lookup h
/-- a def of the module -/
structure DefT (K : PySem.W.Frag) (x : Str) (st : Stmt) where
  f : Addr
  fd : FuncData
  F : Fun K x x st f fd
  a : PySem.W.nsIn K mainGlobals x = some (some (.ref f))
/-- a method -/
structure MthT (K : PySem.W.Frag) (C : Addr) (m q : Str) (st : Stmt) where
  f : Addr
  fd : FuncData
  F : Fun K m q st f fd
  me : Meth K C m f
/-- a class that is made -/
structure ClsT (K : PySem.W.Frag) (c : Str) (nf : List Str) where
  C : Addr
  xg : PySem.W.nsIn K mainGlobals c = some (some (.ref C))
  cl : Cls K C
  mks : PySem.W.makesIn K C = true
  kc : PySem.W.keepIn K (.ref C) = true
  ins : C8.InsC K C
  nf : AllL (fun f => NoAttr K C f) nf
/-- an own class of errors -/
def ErrP (K : PySem.W.Frag) (mg : Str → Option Value) (e : Str × List Str × List Str) : Prop := ∃ C, PySem.W.nsIn K mainGlobals e.1 = some (some (.ref C)) ∧ ((e.2.1 = [] ∧ Ex0 K mg e.1 C) ∨ ∃ f fI, e.2.1 = [f] ∧ Ex1 K mg e.1 f C fI) ∧ XfC K C ∧ AllL (fun f => PySem.W.findIn K (.ref C) f = some none) e.2.1
/-- a class in an except clause -/
def HdP (K : PySem.W.Frag) (mg : Str → Option Value) (tb : List (Str × List Str × List Str)) (x : Str) : Prop := (x == ("__debug__" : Str)) = false ∧ ∃ cv, mg x = some cv ∧ AllL (fun e => ∃ C, PySem.W.nsIn K mainGlobals e.1 = some (some (.ref C)) ∧ PySem.W.exmOne K (.ref C) cv = some (e.2.2.contains x)) tb
/-- a class that isinstance asks an error for -/
def IsP (K : PySem.W.Frag) (mg : Str → Option Value) (tb : List (Str × List Str × List Str)) (x : Str) : Prop := (x == ("__debug__" : Str)) = false ∧ ∃ cv, ((mg x = some cv ∧ ∃ A, cv = .ref A) ∨ (mg x = none ∧ bootBuiltins x = some cv ∧ x ≠ "__name__" ∧ ∃ T, cv = .type T)) ∧
  AllL (fun e => ∃ C, PySem.W.nsIn K mainGlobals e.1 = some (some (.ref C)) ∧ ExcC K C ∧ PySem.W.kitOne K (.ref C) cv = some (e.2.2.contains x)) tb
def CnP (mg : Str → Option Value) (G : Wd) (Γ : Cns) : Prop := ∀ x d, Γ x = some d → okG x = true ∧ ∃ u v, mg x = some u ∧ RelV v u ∧ (∀ Z ρ H, RD G Z ρ H d v) ∧ (x == ("__debug__" : Str)) = false
section
variable {P : Program} {w : World} {K : PySem.W.Frag} {h : Heap} {mg : Str → Option Value} {base : Heap} {tb : List (Str × List Str × List Str)} {hs his cis : List Str} {Γ : Cns} {Φ : Fns} {k : Nat}
theorem gnd_T (X : K.In h) (G : h.Ns mainGlobals mg) (e : AllL (ErrP K mg) tb) (hd : AllL (HdP K mg tb) hs) (is : AllL (IsP K mg tb) his) (cn : CnP mg (wdT K tb cis) Γ) (bl : AllL (fun b => PySem.W.nsIn K mainGlobals b = some none) bltNames) : Gnd K mg (wdT K tb cis) Γ tb hs his := by
  have clx : ∀ x C, clT K tb x = some C → atT K x = some C ∧ ∃ p, tb.lookup x = some p := fun x C hC => by
    unfold clT at hC
    split at hC
    · rename_i q
      exact ⟨hC, Option.isSome_iff_exists.mp q⟩
    · cases hC
  have flx : ∀ x p, tb.lookup x = some p → flT tb x = p.1 := fun x p q => by
    unfold flT
    rw [q]
  refine ⟨rfl, fun x d hx => (cn x d hx).1, fun x ns anc hx => ?_, fun x hx => ?_, fun x C hC ns anc ht => ?_, fun c C hC => ?_, fun x hx => ?_, fun x d hx => (cn x d hx).2, fun x hx => PySem.W.mg_none_of X G (bl.get x hx)⟩
  · obtain ⟨C, xg, m, _, _⟩ := e.get _ (lookup_mem hx)
    refine ⟨C, ?_, ?_⟩
    · show clT K tb x = some C
      unfold clT
      rw [hx]
      exact (if_pos rfl).trans (atT_eq xg)
    · rcases m with ⟨m1, m2⟩ | ⟨f, fI, m1, m2⟩
      · exact .inl ⟨(flx x _ hx).trans m1, m2⟩
      · exact .inr ⟨f, fI, (flx x _ hx).trans m1, m2⟩
  · obtain ⟨db, cv, m, a⟩ := hd.get x hx
    refine ⟨db, cv, m, fun c C hC ns anc ht => ⟨(flx c _ ht).symm, ?_⟩⟩
    obtain ⟨C', xg, q⟩ := a.get _ (lookup_mem ht)
    cases atT_inj xg (clx c C hC).1
    exact q
  · exact (flx x _ ht).symm
  · obtain ⟨hA, p, hp⟩ := clx c C hC
    obtain ⟨C', xg, _, xf, nf⟩ := e.get _ (lookup_mem hp)
    cases atT_inj xg hA
    refine ⟨xf, fun f hf => nf.get f ?_⟩
    have e1 := flx c p hp
    show f ∈ p.1
    rw [← e1]
    exact hf
  · obtain ⟨db, cv, m, a⟩ := is.get x hx
    refine ⟨db, cv, m, fun c C hC ns anc ht => ?_⟩
    obtain ⟨C', xg, q⟩ := a.get _ (lookup_mem ht)
    cases atT_inj xg (clx c C hC).1
    exact q
/-- for all classes that are made -/
theorem ci_T {Pr : Str → Addr → Prop} (a : AllL (fun c => ∃ C, PySem.W.nsIn K mainGlobals c = some (some (.ref C)) ∧ Pr c C) cis) {c : Str} {C : Addr} (hC : (wdT K tb cis).ci c = some C) : Pr c C := by
  have hC : ciT K cis c = some C := hC
  unfold ciT at hC
  split at hC
  · rename_i q
    obtain ⟨C', xg, m⟩ := a.get c (List.contains_iff_mem.mp q)
    cases atT_inj xg hC
    exact m
  · cases hC
/-- what isinstance says, by what issubclass says -/
theorem kit_own {D A : Addr} {b : Bool} (h : PySem.W.subIn K (.ref D) (.ref A) = some b) (r : PySem.W.subIn K (.ref A) (.ref A) = some true) (c : PySem.W.isClsIn K A = true) (t : PySem.W.typeIn K (.ref A) = some (.type "type")) : PySem.W.kitOne K (.ref D) (.ref A) = some b := by
  by_cases e : D = A
  · subst e
    rw [h] at r
    cases r
    exact if_pos (beq_self_eq_true _)
  · have n : (Value.ref D == Value.ref A) = false := beq_eq_false_iff_ne.mpr fun z => e (Value.ref.inj z)
    have e2 : ((PySem.W.clsIn K A).isSome && PySem.W.typeIn K (.ref A) == some (.type "type")) = true := by
      have c' : (PySem.W.clsIn K A).isSome = true := c
      rw [c', t] <;> rfl
    unfold PySem.W.kitOne
    rw [n, if_neg Bool.false_ne_true]
    show (if ((PySem.W.clsIn K A).isSome && PySem.W.typeIn K (.ref A) == some (.type "type")) = true then PySem.W.subIn K (.ref D) (.ref A) else none) = some b
    rw [if_pos e2]
    exact h
theorem kit_blt {D : Addr} {T : String} {b : Bool} (m : PySem.W.kitMeta T = true) (h : PySem.W.subIn K (.ref D) (.type T) = some b) : PySem.W.kitOne K (.ref D) (.type T) = some b := by
  have n : (Value.ref D == Value.type T) = false := rfl
  unfold PySem.W.kitOne
  rw [n, if_neg Bool.false_ne_true]
  show (if PySem.W.kitMeta T = true then PySem.W.subIn K (.ref D) (.type T) else none) = some b
  rw [if_pos m]
  exact h
theorem a_fn {g : Str} (d : Df P w K mg base (wdT K tb cis) k g (Φ g)) (ok : okF g = true) : DfA P w K mg base (wdT K tb cis) k Φ g := DfA.of_fn d ok
theorem a_mt {m : Str} (a : AllL (fun c => ∃ C, PySem.W.nsIn K mainGlobals c = some (some (.ref C)) ∧ ((Φ (mN c m)).ex → MtF P w K mg base (wdT K tb cis) k C m (Φ (mN c m)))) cis) : DfA P w K mg base (wdT K tb cis) k Φ (pmN m) := DfA.of_mt fun c C hC hx => ci_T (Pr := fun c C => (Φ (mN c m)).ex → MtF P w K mg base (wdT K tb cis) k C m (Φ (mN c m))) a hC hx
theorem a_ic {f : Str} (a : AllL (fun c => ∃ C, PySem.W.nsIn K mainGlobals c = some (some (.ref C)) ∧ (Cls K C ∧ NoAttr K C f)) cis) : DfA P w K mg base (wdT K tb cis) k Φ (pfN f) := DfA.of_ic fun c C hC => ci_T (Pr := fun c C => Cls K C ∧ NoAttr K C f) a hC
theorem a_mk {c : Str} {nf : List Str} {q : Str} {st : Stmt} {ps : List Str} {j : Nat} (X : K.In h) (G : h.Ns mainGlobals mg) (T : ClsT K c nf) (M : MthT K T.C "__init__" q st) (hc : cis.contains c = true) (b : Binds K M.fd ps []) (F : FnG P w K mg base (L2.CX P w) j M.f M.fd ps (spV (wdT K tb cis) (Φ (mN c "__init__")))) (l : j + 1 ≤ k) (db : (c == ("__debug__" : Str)) = false) :
    DfA P w K mg base (wdT K tb cis) k Φ (pcN c) := DfA.of_mk ⟨T.C, M.f, M.fd, ps, j, l, (by show ciT K cis c = some T.C; unfold ciT; rw [if_pos hc]; exact atT_eq T.xg), PySem.W.mg_of X G T.xg, ⟨T.mks, M.me.1, M.me.2, T.kc⟩, b, F, db, T.ins⟩
end
end R

namespace L_k26
open PySem PySem.Spec PyProof.Rows L2 R
def top (i : Nat) : Stmt := PySem.Challenge.pw_swornworlds_k26_whole_inputs_as_rows.main.body.getD i (.Pass ⟨0, 0, 0, 0⟩)
def cls (i j : Nat) : Stmt := match top i with
  | .ClassDef _ _ _ b .. => b.getD j (.Pass ⟨0, 0, 0, 0⟩)
  | s => s
def tb : List (Str × List Str × List Str) := [("NoRow", [], ["NoRow", "WorldError", "ValueError", "Exception", "BaseException", "object"]), ("BadRow", ["place"], ["BadRow", "WorldError", "ValueError", "Exception", "BaseException", "object"]), ("NoPlace", [], ["NoPlace", "WorldError", "ValueError", "Exception", "BaseException", "object"]), ("NoInputs", [], ["NoInputs", "WorldError", "ValueError", "Exception", "BaseException", "object"]), ("NoNumber", [], ["NoNumber", "WorldError", "ValueError", "Exception", "BaseException", "object"])]
def hs : List Str := ["BadRow", "WorldError"]
def his : List Str := []
def shf : List Str := []
abbrev st__wall : Stmt := top 0
def tc__wall : Tc := ⟨["k"], [], [], [], tb, hs, shf, false, his⟩
def ir__wall : List S := [.whl (.bl true) [.pass]]
theorem tr__wall : eqO (trB tc__wall 60 (defScope st__wall) 100 (defBody st__wall)) ir__wall = true := by decide +kernel
theorem sc__wall : defB tc__wall.N ["k"] (defScope st__wall) = true := by decide +kernel
abbrev st_is_integer : Stmt := top 9
def tc_is_integer : Tc := ⟨["thing"], [], [], [], tb, hs, shf, false, his⟩
def ir_is_integer : List S := [.ret (.and (.isi (.bor 0) ["int"]) (.not (.isi (.bor 0) ["bool"])))]
theorem tr_is_integer : eqO (trB tc_is_integer 60 (defScope st_is_integer) 100 (defBody st_is_integer)) ir_is_integer = true := by decide +kernel
theorem sc_is_integer : defB tc_is_integer.N ["thing"] (defScope st_is_integer) = true := by decide +kernel
abbrev st_is_within : Stmt := top 10
def tc_is_within : Tc := ⟨["thing", "least", "most"], ["is_integer"], [], [], tb, hs, shf, false, his⟩
def ir_is_within : List S := [.ret (.and (.call "is_integer" [(.var 0)]) (.chain .LtE .LtE (.bor 1) (.bor 0) (.bor 2)))]
theorem tr_is_within : eqO (trB tc_is_within 60 (defScope st_is_within) 100 (defBody st_is_within)) ir_is_within = true := by decide +kernel
theorem sc_is_within : defB tc_is_within.N ["thing", "least", "most"] (defScope st_is_within) = true := by decide +kernel
abbrev st_is_below : Stmt := top 11
def tc_is_below : Tc := ⟨["thing", "many"], ["is_within"], [], [], tb, hs, shf, false, his⟩
def ir_is_below : List S := [.ret (.call "is_within" [(.var 0), (.int 0), (.bin .Sub (.bor 1) (.int 1))])]
theorem tr_is_below : eqO (trB tc_is_below 60 (defScope st_is_below) 100 (defBody st_is_below)) ir_is_below = true := by decide +kernel
theorem sc_is_below : defB tc_is_below.N ["thing", "many"] (defScope st_is_below) = true := by decide +kernel
abbrev st_is_row : Stmt := top 18
def tc_is_row : Tc := ⟨["thing", ".0", "item"], ["is_below"], [], [], tb, hs, shf, false, his⟩
def ir_is_row : List S := [.ret (.and (.isi (.bor 0) ["tuple"]) (.and (.cmp .LtE (.blt .len [(.bor 0)]) (.glo "MOST_BYTES")) (.blt .all [(.lc (.call "is_below" [(.var 2), (.glo "BYTE")]) (.one 2) [1, 2] .seq [(.var 0)] [])])))]
theorem tr_is_row : eqO (trB tc_is_row 60 (defScope st_is_row) 100 (defBody st_is_row)) ir_is_row = true := by decide +kernel
theorem sc_is_row : defB tc_is_row.N ["thing"] (defScope st_is_row) = true := by decide +kernel
abbrev st_check_row : Stmt := top 19
def tc_check_row : Tc := ⟨["thing"], ["is_row"], [], [], tb, hs, shf, false, his⟩
def ir_check_row : List S := [.cond (.not (.call "is_row" [(.var 0)])) [.raise "NoRow" []] []]
theorem tr_check_row : eqO (trB tc_check_row 60 (defScope st_check_row) 100 (defBody st_check_row)) ir_check_row = true := by decide +kernel
theorem sc_check_row : defB tc_check_row.N ["thing"] (defScope st_check_row) = true := by decide +kernel
abbrev st_figures_of : Stmt := top 20
def tc_figures_of : Tc := ⟨["number", "found", "left"], [], ["found"], [], tb, hs, shf, false, his⟩
def ir_figures_of : List S := [.setO 1 (.lst []), .set 2 (.var 0), .whl (.cmp .GtE (.bor 2) (.glo "FIGURE")) [.app (.bor 1) (.bin .Add (.bin .Mod (.bor 2) (.glo "FIGURE")) (.glo "FIGURE")), .set 2 (.bin .FloorDiv (.bor 2) (.glo "FIGURE"))], .ret (.bin .Add (.blt .tuple [(.bor 1)]) (.tup [(.var 2)]))]
theorem tr_figures_of : eqO (trB tc_figures_of 60 (defScope st_figures_of) 100 (defBody st_figures_of)) ir_figures_of = true := by decide +kernel
theorem sc_figures_of : defB tc_figures_of.N ["number"] (defScope st_figures_of) = true := by decide +kernel
abbrev st_number_at : Stmt := top 21
def tc_number_at : Tc := ⟨["row", "at", "found", "worth", "place", "is_needless"], [], [], [], tb, hs, shf, false, his⟩
def ir_number_at : List S := [.set 2 (.int 0), .set 3 (.int 1), .forS (.one 4) .rng2 [(.var 1), (.blt .min2 [(.blt .len [(.bor 0)]), (.bin .Add (.bor 1) (.glo "MOST_FIGURES"))])] [.aug 2 .Add (.bin .Mult (.bin .Mod (.idx (.bor 0) (.bor 4)) (.glo "FIGURE")) (.bor 3)), .set 3 (.bin .Mult (.bor 3) (.glo "FIGURE")), .cond (.cmp .Lt (.idx (.bor 0) (.bor 4)) (.glo "FIGURE")) [.set 5 (.and (.cmp .Eq (.idx (.bor 0) (.bor 4)) (.int 0)) (.cmp .Gt (.bor 4) (.bor 1))), .ret (.ite (.or (.bor 5) (.cmp .GtE (.bor 2) (.glo "WHOLE_BOUND"))) .non (.tup [(.var 2), (.bin .Add (.bor 4) (.int 1))]))] []], .ret .non]
theorem tr_number_at : eqO (trB tc_number_at 60 (defScope st_number_at) 100 (defBody st_number_at)) ir_number_at = true := by decide +kernel
theorem sc_number_at : defB tc_number_at.N ["row", "at"] (defScope st_number_at) = true := by decide +kernel
abbrev st_taken : Stmt := top 22
def tc_taken : Tc := ⟨["row", "at", "found"], ["number_at"], [], [], tb, hs, shf, false, his⟩
def ir_taken : List S := [.set 2 (.call "number_at" [(.var 0), (.var 1)]), .cond (.cmp .Is (.bor 2) .non) [.raise "BadRow" [(.var 1)]] [], .ret (.var 2)]
theorem tr_taken : eqO (trB tc_taken 60 (defScope st_taken) 100 (defBody st_taken)) ir_taken = true := by decide +kernel
theorem sc_taken : defB tc_taken.N ["row", "at"] (defScope st_taken) = true := by decide +kernel
abbrev st_check_place : Stmt := top 23
def tc_check_place : Tc := ⟨["row", "at"], ["check_row", "is_within"], [], [], tb, hs, shf, false, his⟩
def ir_check_place : List S := [.expr (.call "check_row" [(.var 0)]), .cond (.not (.call "is_within" [(.var 1), (.int 0), (.blt .len [(.bor 0)])])) [.raise "NoPlace" []] []]
theorem tr_check_place : eqO (trB tc_check_place 60 (defScope st_check_place) 100 (defBody st_check_place)) ir_check_place = true := by decide +kernel
theorem sc_check_place : defB tc_check_place.N ["row", "at"] (defScope st_check_place) = true := by decide +kernel
abbrev st_Reader___init__ : Stmt := cls 24 0
def tc_Reader___init__ : Tc := ⟨["self", "row", "at"], [pfN "row", pfN "at", pfN "last"], [], [], tb, hs, shf, false, his⟩
def ir_Reader___init__ : List S := [.fset (.bor 0) "row" (.var 1), .fset (.bor 0) "at" (.var 2), .fset (.bor 0) "last" (.var 2)]
theorem tr_Reader___init__ : eqO (trB tc_Reader___init__ 60 (defScope st_Reader___init__) 100 (defBody st_Reader___init__)) ir_Reader___init__ = true := by decide +kernel
theorem sc_Reader___init__ : defB tc_Reader___init__.N ["self", "row", "at"] (defScope st_Reader___init__) = true := by decide +kernel
abbrev st_Reader_next_number : Stmt := cls 24 1
def tc_Reader_next_number : Tc := ⟨["self", "found"], ["taken", pfN "at", pfN "last", pfN "row"], [], [], tb, hs, shf, false, his⟩
def ir_Reader_next_number : List S := [.fset (.bor 0) "last" (.fld (.bor 0) "at"), .unpG [.nm 1, .fl 0 "at"] (.call "taken" [(.fld (.bor 0) "row"), (.fld (.bor 0) "at")]), .ret (.var 1)]
theorem tr_Reader_next_number : eqO (trB tc_Reader_next_number 60 (defScope st_Reader_next_number) 100 (defBody st_Reader_next_number)) ir_Reader_next_number = true := by decide +kernel
theorem sc_Reader_next_number : defB tc_Reader_next_number.N ["self"] (defScope st_Reader_next_number) = true := by decide +kernel
abbrev st_Reader_next_integer : Stmt := cls 24 2
def tc_Reader_next_integer : Tc := ⟨["self"], ["_wall"], [], [], tb, hs, shf, false, his⟩
def ir_Reader_next_integer : List S := [.expr (.call "_wall" [(.int 0)])]
theorem tr_Reader_next_integer : eqO (trB tc_Reader_next_integer 60 (defScope st_Reader_next_integer) 100 (defBody st_Reader_next_integer)) ir_Reader_next_integer = true := by decide +kernel
theorem sc_Reader_next_integer : defB tc_Reader_next_integer.N ["self"] (defScope st_Reader_next_integer) = true := by decide +kernel
abbrev st_Reader_next_integers : Stmt := cls 24 3
def tc_Reader_next_integers : Tc := ⟨["self", "many"], ["_wall"], [], [], tb, hs, shf, false, his⟩
def ir_Reader_next_integers : List S := [.expr (.call "_wall" [(.int 1)])]
theorem tr_Reader_next_integers : eqO (trB tc_Reader_next_integers 60 (defScope st_Reader_next_integers) 100 (defBody st_Reader_next_integers)) ir_Reader_next_integers = true := by decide +kernel
theorem sc_Reader_next_integers : defB tc_Reader_next_integers.N ["self", "many"] (defScope st_Reader_next_integers) = true := by decide +kernel
abbrev st_Reader_next_byte : Stmt := cls 24 4
def tc_Reader_next_byte : Tc := ⟨["self"], [pfN "at", pfN "last", pfN "row"], [], [], tb, hs, shf, false, his⟩
def ir_Reader_next_byte : List S := [.fset (.bor 0) "last" (.fld (.bor 0) "at"), .cond (.cmp .GtE (.fld (.bor 0) "at") (.blt .len [(.fld (.bor 0) "row")])) [.raise "BadRow" [(.fld (.bor 0) "at")]] [], .faug (.bor 0) "at" .Add (.int 1), .ret (.idx (.fld (.bor 0) "row") (.bin .Sub (.fld (.bor 0) "at") (.int 1)))]
theorem tr_Reader_next_byte : eqO (trB tc_Reader_next_byte 60 (defScope st_Reader_next_byte) 100 (defBody st_Reader_next_byte)) ir_Reader_next_byte = true := by decide +kernel
theorem sc_Reader_next_byte : defB tc_Reader_next_byte.N ["self"] (defScope st_Reader_next_byte) = true := by decide +kernel
abbrev st_Reader_finish : Stmt := cls 24 5
def tc_Reader_finish : Tc := ⟨["self"], ["_wall"], [], [], tb, hs, shf, false, his⟩
def ir_Reader_finish : List S := [.expr (.call "_wall" [(.int 2)])]
theorem tr_Reader_finish : eqO (trB tc_Reader_finish 60 (defScope st_Reader_finish) 100 (defBody st_Reader_finish)) ir_Reader_finish = true := by decide +kernel
theorem sc_Reader_finish : defB tc_Reader_finish.N ["self"] (defScope st_Reader_finish) = true := by decide +kernel
abbrev st_is_input : Stmt := top 27
def tc_is_input : Tc := ⟨["thing"], ["is_below"], [], [], tb, hs, shf, false, his⟩
def ir_is_input : List S := [.ret (.call "is_below" [(.var 0), (.glo "BYTE")])]
theorem tr_is_input : eqO (trB tc_is_input 60 (defScope st_is_input) 100 (defBody st_is_input)) ir_is_input = true := by decide +kernel
theorem sc_is_input : defB tc_is_input.N ["thing"] (defScope st_is_input) = true := by decide +kernel
abbrev st_are_inputs : Stmt := top 28
def tc_are_inputs : Tc := ⟨["thing", ".0", "item"], ["is_input"], [], [], tb, hs, shf, false, his⟩
def ir_are_inputs : List S := [.ret (.and (.isi (.bor 0) ["tuple"]) (.and (.cmp .LtE (.blt .len [(.bor 0)]) (.glo "MOST_INPUTS")) (.blt .all [(.lc (.call "is_input" [(.var 2)]) (.one 2) [1, 2] .seq [(.var 0)] [])])))]
theorem tr_are_inputs : eqO (trB tc_are_inputs 60 (defScope st_are_inputs) 100 (defBody st_are_inputs)) ir_are_inputs = true := by decide +kernel
theorem sc_are_inputs : defB tc_are_inputs.N ["thing"] (defScope st_are_inputs) = true := by decide +kernel
abbrev st_check_inputs : Stmt := top 29
def tc_check_inputs : Tc := ⟨["thing"], ["are_inputs"], [], [], tb, hs, shf, false, his⟩
def ir_check_inputs : List S := [.cond (.not (.call "are_inputs" [(.var 0)])) [.raise "NoInputs" []] []]
theorem tr_check_inputs : eqO (trB tc_check_inputs 60 (defScope st_check_inputs) 100 (defBody st_check_inputs)) ir_check_inputs = true := by decide +kernel
theorem sc_check_inputs : defB tc_check_inputs.N ["thing"] (defScope st_check_inputs) = true := by decide +kernel
abbrev st_check_input : Stmt := top 30
def tc_check_input : Tc := ⟨["thing"], ["is_input"], [], [], tb, hs, shf, false, his⟩
def ir_check_input : List S := [.cond (.not (.call "is_input" [(.var 0)])) [.raise "NoInputs" []] []]
theorem tr_check_input : eqO (trB tc_check_input 60 (defScope st_check_input) 100 (defBody st_check_input)) ir_check_input = true := by decide +kernel
theorem sc_check_input : defB tc_check_input.N ["thing"] (defScope st_check_input) = true := by decide +kernel
abbrev st_runs_of : Stmt := top 31
def tc_runs_of : Tc := ⟨["inputs", "found", "item"], [], ["found"], [], tb, hs, shf, false, his⟩
def ir_runs_of : List S := [.setO 1 (.lst []), .forS (.one 2) .seq [(.var 0)] [.cond (.and (.cmp .Gt (.blt .len [(.bor 1)]) (.int 0)) (.cmp .Eq (.idx (.idx (.bor 1) (.neg (.int 1))) (.int 0)) (.bor 2))) [.sidx (.bor 1) (.neg (.int 1)) (.tup [(.var 2), (.bin .Add (.idx (.idx (.bor 1) (.neg (.int 1))) (.int 1)) (.int 1))])] [.app (.bor 1) (.tup [(.var 2), (.int 1)])]], .retO 1]
theorem tr_runs_of : eqO (trB tc_runs_of 60 (defScope st_runs_of) 100 (defBody st_runs_of)) ir_runs_of = true := by decide +kernel
theorem sc_runs_of : defB tc_runs_of.N ["inputs"] (defScope st_runs_of) = true := by decide +kernel
abbrev st_run_row : Stmt := top 32
def tc_run_row : Tc := ⟨["inputs", "runs", "found", "item", "many"], ["runs_of", "figures_of"], ["found"], [], tb, hs, shf, false, his⟩
def ir_run_row : List S := [.set 1 (.call "runs_of" [(.var 0)]), .setO 2 (.blt .list [(.call "figures_of" [(.blt .len [(.bor 1)])])]), .forS (.many [3, 4]) .seq [(.var 1)] [.app (.bor 2) (.var 3), .ext (.bor 2) (.call "figures_of" [(.var 4)])], .ret (.blt .tuple [(.bor 2)])]
theorem tr_run_row : eqO (trB tc_run_row 60 (defScope st_run_row) 100 (defBody st_run_row)) ir_run_row = true := by decide +kernel
theorem sc_run_row : defB tc_run_row.N ["inputs"] (defScope st_run_row) = true := by decide +kernel
abbrev st_input_row : Stmt := top 33
def tc_input_row : Tc := ⟨["inputs"], ["check_inputs", "run_row"], [], [], tb, hs, shf, false, his⟩
def ir_input_row : List S := [.expr (.call "check_inputs" [(.var 0)]), .ret (.call "run_row" [(.var 0)])]
theorem tr_input_row : eqO (trB tc_input_row 60 (defScope st_input_row) 100 (defBody st_input_row)) ir_input_row = true := by decide +kernel
theorem sc_input_row : defB tc_input_row.N ["inputs"] (defScope st_input_row) = true := by decide +kernel
abbrev st_taken_inputs : Stmt := top 34
def tc_taken_inputs : Tc := ⟨["reader", "found", "turn", "item", "begin", "many"], [pmN "next_number", pmN "next_byte", pfN "last"], ["found"], [], tb, hs, shf, false, his⟩
def ir_taken_inputs : List S := [.setO 1 (.lst []), .forS (.one 2) .rng1 [(.meth (.bor 0) "next_number" [])] [.set 3 (.meth (.bor 0) "next_byte" []), .set 4 (.fld (.bor 0) "last"), .set 5 (.meth (.bor 0) "next_number" []), .cond (.or (.cmp .Eq (.bor 5) (.int 0)) (.or (.cmp .Gt (.bin .Add (.blt .len [(.bor 1)]) (.bor 5)) (.glo "MOST_INPUTS")) (.and (.cmp .Gt (.blt .len [(.bor 1)]) (.int 0)) (.cmp .Eq (.idx (.bor 1) (.neg (.int 1))) (.bor 3))))) [.raise "BadRow" [(.var 4)]] [], .ext (.bor 1) (.bin .Mult (.lst [(.var 3)]) (.bor 5))], .ret (.blt .tuple [(.bor 1)])]
theorem tr_taken_inputs : eqO (trB tc_taken_inputs 60 (defScope st_taken_inputs) 100 (defBody st_taken_inputs)) ir_taken_inputs = true := by decide +kernel
theorem sc_taken_inputs : defB tc_taken_inputs.N ["reader"] (defScope st_taken_inputs) = true := by decide +kernel
abbrev st_read_inputs : Stmt := top 35
def tc_read_inputs : Tc := ⟨["row", "at", "reader", "found"], ["check_place", "taken_inputs", pcN "Reader", pfN "at"], [], [], tb, hs, shf, false, his⟩
def ir_read_inputs : List S := [.expr (.call "check_place" [(.var 0), (.var 1)]), .set 2 (.mk "Reader" [(.var 0), (.var 1)]), .set 3 (.call "taken_inputs" [(.var 2)]), .ret (.tup [(.var 3), (.fld (.bor 2) "at")])]
theorem tr_read_inputs : eqO (trB tc_read_inputs 60 (defScope st_read_inputs) 100 (defBody st_read_inputs)) ir_read_inputs = true := by decide +kernel
theorem sc_read_inputs : defB tc_read_inputs.N ["row", "at"] (defScope st_read_inputs) = true := by decide +kernel
abbrev st_guessed : Stmt := top 39
def tc_guessed : Tc := ⟨["last", "ago", "hold"], [], [], [], tb, hs, shf, false, his⟩
def ir_guessed : List S := [.ret (.ite (.and (.cmp .IsNot (.bor 0) .non) (.cmp .LtE (.bor 1) (.bor 2))) (.var 0) (.int 0))]
theorem tr_guessed : eqO (trB tc_guessed 60 (defScope st_guessed) 100 (defBody st_guessed)) ir_guessed = true := by decide +kernel
theorem sc_guessed : defB tc_guessed.N ["last", "ago", "hold"] (defScope st_guessed) = true := by decide +kernel
abbrev st_guess : Stmt := top 40
def tc_guess : Tc := ⟨["last", "ago", "hold"], ["check_input", "is_within", "guessed"], [], [], tb, hs, shf, false, his⟩
def ir_guess : List S := [.cond (.cmp .IsNot (.bor 0) .non) [.expr (.call "check_input" [(.var 0)])] [], .cond (.or (.not (.call "is_within" [(.var 1), (.int 0), (.glo "MOST_AGO")])) (.not (.call "is_within" [(.var 2), (.int 0), (.glo "MOST_HOLD")]))) [.raise "NoNumber" []] [], .ret (.call "guessed" [(.var 0), (.var 1), (.var 2)])]
theorem tr_guess : eqO (trB tc_guess 60 (defScope st_guess) 100 (defBody st_guess)) ir_guess = true := by decide +kernel
theorem sc_guess : defB tc_guess.N ["last", "ago", "hold"] (defScope st_guess) = true := by decide +kernel
abbrev st__law_hand : Stmt := top 42
def tc__law_hand : Tc := ⟨["script", ".0", "cell"], [], [], [], tb, hs, shf, false, his⟩
def ir__law_hand : List S := [.ret (.lst [(.lc (.blt .int [(.bor 2)]) (.one 2) [1, 2] .seq [(.sli (.bor 0) .skip (.int 63))] []), (.int 0), (.int 0), (.bin .Add (.int 1) (.blt .len [(.sli (.bor 0) .skip (.int 63))])), (.int 0)])]
theorem tr__law_hand : eqO (trB tc__law_hand 60 (defScope st__law_hand) 100 (defBody st__law_hand)) ir__law_hand = true := by decide +kernel
theorem sc__law_hand : defB tc__law_hand.N ["script"] (defScope st__law_hand) = true := by decide +kernel
abbrev st__law_draw : Stmt := top 43
def tc__law_draw : Tc := ⟨["hand", "many", "cell", "digit", "number"], [], [], ["hand"], tb, hs, shf, false, his⟩
def ir__law_draw : List S := [.cond (.and (.cmp .Eq (.idx (.bor 0) (.int 2)) (.int 0)) (.cmp .Lt (.idx (.bor 0) (.int 1)) (.blt .len [(.idx (.bor 0) (.int 0))]))) [.set 2 (.idx (.idx (.bor 0) (.int 0)) (.idx (.bor 0) (.int 1))), .sidx (.bor 0) (.int 1) (.bin .Add (.idx (.bor 0) (.int 1)) (.int 1)), .sidx (.bor 0) (.int 3) (.bin .Mod (.blt .int [(.bin .Add (.bin .Add (.bin .Mult (.idx (.bor 0) (.int 3)) (.int 69621)) (.bin .Mult (.bor 2) (.int 16))) (.int 11))]) (.int 2147483629)), .cond (.cmp .GtE (.bor 2) (.bin .Pow (.int 10) (.int 18))) [.sidx (.bor 0) (.int 2) (.var 2)] []] [], .cond (.cmp .Gt (.idx (.bor 0) (.int 2)) (.int 0)) [.set 3 (.bin .Mod (.blt .int [(.idx (.bor 0) (.int 2))]) (.bor 1)), .sidx (.bor 0) (.int 2) (.bin .FloorDiv (.idx (.bor 0) (.int 2)) (.bor 1)), .ret (.var 3)] [], .sidx (.bor 0) (.int 4) (.bin .Add (.idx (.bor 0) (.int 4)) (.int 1)), .set 4 (.bin .Mod (.blt .int [(.bin .Mult (.blt .int [(.bin .Add (.idx (.bor 0) (.int 3)) (.bin .Mult (.int 7919) (.idx (.bor 0) (.int 4))))]) (.int 48271))]) (.int 2147483647)), .set 4 (.bin .Mod (.blt .int [(.bin .Mult (.bor 4) (.bin .Add (.bin .FloorDiv (.bor 4) (.int 1009)) (.int 69621)))]) (.int 2147483647)), .set 4 (.bin .Mod (.blt .int [(.bin .Mult (.bor 4) (.bin .Add (.bin .FloorDiv (.bor 4) (.int 2003)) (.int 40692)))]) (.int 2147483399)), .ret (.bin .Mod (.blt .int [(.bin .FloorDiv (.bor 4) (.int 16))]) (.bor 1))]
theorem tr__law_draw : eqO (trB tc__law_draw 60 (defScope st__law_draw) 100 (defBody st__law_draw)) ir__law_draw = true := by decide +kernel
theorem sc__law_draw : defB tc__law_draw.N ["hand", "many"] (defScope st__law_draw) = true := by decide +kernel
abbrev st__law_is : Stmt := top 44
def tc__law_is : Tc := ⟨["told", "due", ".0", "one", "two"], ["_law_is"], [], [], tb, hs, shf, false, his⟩
def ir__law_is : List S := [.cond (.isi (.bor 1) ["tuple", "list"]) [.cond (.or (.cmp .NotEq (.isi (.bor 0) ["tuple"]) (.isi (.bor 1) ["tuple"])) (.not (.isi (.bor 0) ["tuple", "list"]))) [.ret (.bl false)] [], .ret (.and (.cmp .Eq (.blt .len [(.bor 0)]) (.blt .len [(.bor 1)])) (.blt .all [(.lc (.call "_law_is" [(.var 3), (.var 4)]) (.many [3, 4]) [2, 3, 4] .zip [(.var 0), (.var 1)] [])]))] [], .ret (.and (.cmp .Eq (.isi (.bor 0) ["bool"]) (.isi (.bor 1) ["bool"])) (.cmp .Eq (.bor 0) (.bor 1)))]
theorem tr__law_is : eqO (trB tc__law_is 60 (defScope st__law_is) 100 (defBody st__law_is)) ir__law_is = true := by decide +kernel
theorem sc__law_is : defB tc__law_is.N ["told", "due"] (defScope st__law_is) = true := by decide +kernel
abbrev st__law_whole : Stmt := top 45
def tc__law_whole : Tc := ⟨["number", "found", "turn"], [], ["found"], [], tb, hs, shf, false, his⟩
def ir__law_whole : List S := [.setO 1 (.lst []), .forS (.one 2) .rng1 [(.int 10)] [.cond (.cmp .Lt (.bor 0) (.int 128)) [.brk] [], .app (.bor 1) (.bin .Add (.bin .Mod (.blt .int [(.bor 0)]) (.int 128)) (.int 128)), .set 0 (.bin .FloorDiv (.bor 0) (.int 128))], .ret (.blt .tuple [(.bin .Add (.bor 1) (.lst [(.var 0)]))])]
theorem tr__law_whole : eqO (trB tc__law_whole 60 (defScope st__law_whole) 100 (defBody st__law_whole)) ir__law_whole = true := by decide +kernel
theorem sc__law_whole : defB tc__law_whole.N ["number"] (defScope st__law_whole) = true := by decide +kernel
abbrev st__law_read : Stmt := top 46
def tc__law_read : Tc := ⟨["row", "at", "turn", "number", "place"], [], [], [], tb, hs, shf, false, his⟩
def ir__law_read : List S := [.forS (.one 2) .rng1 [(.int 10)] [.cond (.cmp .GtE (.bin .Add (.bor 1) (.bor 2)) (.blt .len [(.bor 0)])) [.ret .non] [], .cond (.cmp .Lt (.idx (.bor 0) (.bin .Add (.bor 1) (.bor 2))) (.int 128)) [.cond (.and (.cmp .Gt (.bor 2) (.int 0)) (.cmp .Eq (.idx (.bor 0) (.bin .Add (.bor 1) (.bor 2))) (.int 0))) [.ret .non] [], .set 3 (.int 0), .forS (.one 4) .rng3 [(.bin .Add (.bor 1) (.bor 2)), (.bin .Sub (.bor 1) (.int 1)), (.neg (.int 1))] [.set 3 (.bin .Add (.bin .Mult (.bor 3) (.int 128)) (.bin .Mod (.blt .int [(.idx (.bor 0) (.bor 4))]) (.int 128)))], .cond (.cmp .GtE (.bor 3) (.bin .Pow (.int 2) (.int 64))) [.ret .non] [], .ret (.tup [(.var 3), (.bin .Add (.bin .Add (.bor 1) (.bor 2)) (.int 1))])] []], .ret .non]
theorem tr__law_read : eqO (trB tc__law_read 60 (defScope st__law_read) 100 (defBody st__law_read)) ir__law_read = true := by decide +kernel
theorem sc__law_read : defB tc__law_read.N ["row", "at"] (defScope st__law_read) = true := by decide +kernel
abbrev st__law_byte : Stmt := top 47
def tc__law_byte : Tc := ⟨["hand"], ["_law_draw"], [], ["hand"], tb, hs, shf, false, his⟩
def ir__law_byte : List S := [.cond (.cmp .Eq (.call "_law_draw" [(.var 0), (.int 2)]) (.int 0)) [.ret (.idx (.lst [(.int 0), (.int 1), (.int 127), (.int 128), (.int 129), (.int 255)]) (.call "_law_draw" [(.var 0), (.int 6)]))] [], .ret (.call "_law_draw" [(.var 0), (.int 256)])]
theorem tr__law_byte : eqO (trB tc__law_byte 60 (defScope st__law_byte) 100 (defBody st__law_byte)) ir__law_byte = true := by decide +kernel
theorem sc__law_byte : defB tc__law_byte.N ["hand"] (defScope st__law_byte) = true := by decide +kernel
abbrev st__law_bytes : Stmt := top 48
def tc__law_bytes : Tc := ⟨["hand", "most", ".0", "turn"], ["_law_draw", "_law_byte"], [], ["hand"], tb, hs, shf, false, his⟩
def ir__law_bytes : List S := [.ret (.blt .tuple [(.lc (.call "_law_byte" [(.var 0)]) (.one 3) [2, 3] .rng1 [(.call "_law_draw" [(.var 0), (.bin .Add (.bor 1) (.int 1))])] [])])]
theorem tr__law_bytes : eqO (trB tc__law_bytes 60 (defScope st__law_bytes) 100 (defBody st__law_bytes)) ir__law_bytes = true := by decide +kernel
theorem sc__law_bytes : defB tc__law_bytes.N ["hand", "most"] (defScope st__law_bytes) = true := by decide +kernel
abbrev st__law_spoilt : Stmt := top 49
def tc__law_spoilt : Tc := ⟨["hand", "row", "kind", "at"], ["_law_draw", "_law_byte", "_law_bytes"], [], ["hand"], tb, hs, shf, false, his⟩
def ir__law_spoilt : List S := [.set 2 (.call "_law_draw" [(.var 0), (.int 5)]), .set 3 (.call "_law_draw" [(.var 0), (.bin .Add (.blt .len [(.bor 1)]) (.int 1))]), .cond (.cmp .Eq (.bor 2) (.int 0)) [.ret (.bin .Add (.bin .Add (.sli (.bor 1) .skip (.var 3)) (.tup [(.call "_law_byte" [(.var 0)])])) (.sli (.bor 1) (.bin .Add (.bor 3) (.int 1)) .skip))] [], .cond (.cmp .Eq (.bor 2) (.int 1)) [.ret (.bin .Add (.bin .Add (.sli (.bor 1) .skip (.var 3)) (.tup [(.call "_law_byte" [(.var 0)])])) (.sli (.bor 1) (.var 3) .skip))] [], .cond (.cmp .Eq (.bor 2) (.int 2)) [.ret (.bin .Add (.sli (.bor 1) .skip (.var 3)) (.sli (.bor 1) (.bin .Add (.bor 3) (.int 1)) .skip))] [], .cond (.cmp .Eq (.bor 2) (.int 3)) [.ret (.sli (.bor 1) .skip (.var 3))] [], .ret (.bin .Add (.bor 1) (.call "_law_bytes" [(.var 0), (.int 4)]))]
theorem tr__law_spoilt : eqO (trB tc__law_spoilt 60 (defScope st__law_spoilt) 100 (defBody st__law_spoilt)) ir__law_spoilt = true := by decide +kernel
theorem sc__law_spoilt : defB tc__law_spoilt.N ["hand", "row"] (defScope st__law_spoilt) = true := by decide +kernel
abbrev st__law_runs : Stmt := top 50
def tc__law_runs : Tc := ⟨["hand", "great", "found", "turn", "many"], ["_law_draw", "_law_byte"], ["found"], ["hand"], tb, hs, shf, false, his⟩
def ir__law_runs : List S := [.set 1 (.call "_law_draw" [(.var 0), (.int 12)]), .setO 2 (.lst []), .forS (.one 3) .rng1 [(.call "_law_draw" [(.var 0), (.int 13)])] [.set 4 (.bin .Add (.int 1) (.call "_law_draw" [(.var 0), (.idx (.lst [(.int 1), (.int 4), (.int 300)]) (.call "_law_draw" [(.var 0), (.int 3)]))])), .app (.bor 2) (.tup [(.call "_law_byte" [(.var 0)]), (.var 4)])], .cond (.and (.cmp .Eq (.bor 1) (.int 0)) (.cmp .Gt (.blt .len [(.bor 2)]) (.int 0))) [.sidx (.bor 2) (.int 0) (.tup [(.idx (.idx (.bor 2) (.int 0)) (.int 0)), (.bin .Add (.int 15000) (.idx (.idx (.bor 2) (.int 0)) (.int 1)))])] [], .retO 2]
theorem tr__law_runs : eqO (trB tc__law_runs 60 (defScope st__law_runs) 100 (defBody st__law_runs)) ir__law_runs = true := by decide +kernel
theorem sc__law_runs : defB tc__law_runs.N ["hand"] (defScope st__law_runs) = true := by decide +kernel
abbrev st__law_ticks : Stmt := top 51
def tc__law_ticks : Tc := ⟨["runs", "found", "item", "many"], [], ["found"], [], tb, hs, shf, false, his⟩
def ir__law_ticks : List S := [.setO 1 (.lst []), .forS (.many [2, 3]) .seq [(.var 0)] [.ext (.bor 1) (.bin .Mult (.lst [(.var 2)]) (.bor 3))], .ret (.blt .tuple [(.bor 1)])]
theorem tr__law_ticks : eqO (trB tc__law_ticks 60 (defScope st__law_ticks) 100 (defBody st__law_ticks)) ir__law_ticks = true := by decide +kernel
theorem sc__law_ticks : defB tc__law_ticks.N ["runs"] (defScope st__law_ticks) = true := by decide +kernel
abbrev st__law_run_bytes : Stmt := top 52
def tc__law_run_bytes : Tc := ⟨["runs", "found", "item", "many"], ["_law_whole"], ["found"], [], tb, hs, shf, false, his⟩
def ir__law_run_bytes : List S := [.setO 1 (.blt .list [(.call "_law_whole" [(.blt .len [(.bor 0)])])]), .forS (.many [2, 3]) .seq [(.var 0)] [.app (.bor 1) (.var 2), .ext (.bor 1) (.call "_law_whole" [(.var 3)])], .ret (.blt .tuple [(.bor 1)])]
theorem tr__law_run_bytes : eqO (trB tc__law_run_bytes 60 (defScope st__law_run_bytes) 100 (defBody st__law_run_bytes)) ir__law_run_bytes = true := by decide +kernel
theorem sc__law_run_bytes : defB tc__law_run_bytes.N ["runs"] (defScope st__law_run_bytes) = true := by decide +kernel
abbrev st__law_input_bytes : Stmt := top 53
def tc__law_input_bytes : Tc := ⟨["inputs", "runs", "begin", "at"], ["_law_run_bytes"], ["runs"], [], tb, hs, shf, false, his⟩
def ir__law_input_bytes : List S := [.setO 1 (.lst []), .set 2 (.int 0), .forS (.one 3) .rng2 [(.int 1), (.bin .Add (.blt .len [(.bor 0)]) (.int 1))] [.cond (.or (.cmp .Eq (.bor 3) (.blt .len [(.bor 0)])) (.cmp .NotEq (.idx (.bor 0) (.bor 3)) (.idx (.bor 0) (.bor 2)))) [.app (.bor 1) (.tup [(.idx (.bor 0) (.bor 2)), (.bin .Sub (.bor 3) (.bor 2))]), .set 2 (.var 3)] []], .ret (.call "_law_run_bytes" [(.var 1)])]
theorem tr__law_input_bytes : eqO (trB tc__law_input_bytes 60 (defScope st__law_input_bytes) 100 (defBody st__law_input_bytes)) ir__law_input_bytes = true := by decide +kernel
theorem sc__law_input_bytes : defB tc__law_input_bytes.N ["inputs"] (defScope st__law_input_bytes) = true := by decide +kernel
abbrev st__law_parsed : Stmt := top 54
def tc__law_parsed : Tc := ⟨["row", "at", "head", "here", "found", "turn", "part"], ["_law_read"], ["found"], [], tb, hs, shf, false, his⟩
def ir__law_parsed : List S := [.set 2 (.call "_law_read" [(.var 0), (.var 1)]), .cond (.cmp .Is (.bor 2) .non) [.ret (.tup [.non, (.int 0), (.var 1)])] [], .set 3 (.idx (.bor 2) (.int 1)), .setO 4 (.lst []), .forS (.one 5) .rng1 [(.blt .min2 [(.idx (.bor 2) (.int 0)), (.bin .Add (.blt .len [(.bor 0)]) (.int 1))])] [.cond (.cmp .GtE (.bor 3) (.blt .len [(.bor 0)])) [.ret (.tup [.non, (.int 0), (.var 3)])] [], .set 6 (.call "_law_read" [(.var 0), (.bin .Add (.bor 3) (.int 1))]), .cond (.cmp .Is (.bor 6) .non) [.ret (.tup [.non, (.int 0), (.bin .Add (.bor 3) (.int 1))])] [], .cond (.or (.cmp .Eq (.idx (.bor 6) (.int 0)) (.int 0)) (.or (.cmp .Gt (.bin .Add (.blt .len [(.bor 4)]) (.idx (.bor 6) (.int 0))) (.int 100000)) (.cmp .Eq (.sli (.bor 4) (.neg (.int 1)) .skip) (.lst [(.idx (.bor 0) (.bor 3))])))) [.ret (.tup [.non, (.int 0), (.var 3)])] [], .ext (.bor 4) (.bin .Mult (.lst [(.idx (.bor 0) (.bor 3))]) (.idx (.bor 6) (.int 0))), .set 3 (.idx (.bor 6) (.int 1))], .ret (.tup [(.blt .tuple [(.bor 4)]), (.var 3), (.neg (.int 1))])]
theorem tr__law_parsed : eqO (trB tc__law_parsed 60 (defScope st__law_parsed) 100 (defBody st__law_parsed)) ir__law_parsed = true := by decide +kernel
theorem sc__law_parsed : defB tc__law_parsed.N ["row", "at"] (defScope st__law_parsed) = true := by decide +kernel
abbrev st__law_read_told : Stmt := top 55
def tc__law_read_told : Tc := ⟨["row", "at", "error"], ["read_inputs"], [], [], tb, hs, shf, false, his⟩
def ir__law_read_told : List S := [.tryS tb [.ret (.tup [(.str "told"), (.call "read_inputs" [(.var 0), (.var 1)])])] [("BadRow", some 2), ("WorldError", none)] [[.ret (.tup [(.str "bad"), (.attr (.bor 2) "place")])], [.ret (.tup [(.str "other"), (.int 0)])]]]
theorem tr__law_read_told : eqO (trB tc__law_read_told 60 (defScope st__law_read_told) 100 (defBody st__law_read_told)) ir__law_read_told = true := by decide +kernel
theorem sc__law_read_told : defB tc__law_read_told.N ["row", "at"] (defScope st__law_read_told) = true := by decide +kernel
abbrev st__law_is_told : Stmt := top 56
def tc__law_is_told : Tc := ⟨["row", "at", "inputs", "behind", "place", "told"], ["_law_parsed", "_law_read_told", "_law_is", "input_row"], [], [], tb, hs, shf, false, his⟩
def ir__law_is_told : List S := [.unp [2, 3, 4] (.call "_law_parsed" [(.var 0), (.var 1)]), .set 5 (.call "_law_read_told" [(.var 0), (.var 1)]), .cond (.cmp .Is (.bor 2) .non) [.ret (.call "_law_is" [(.var 5), (.tup [(.str "bad"), (.var 4)])])] [], .cond (.or (.not (.isi (.idx (.bor 5) (.int 1)) ["tuple"])) (.cmp .NotEq (.bor 5) (.tup [(.str "told"), (.tup [(.var 2), (.var 3)])]))) [.ret (.bl false)] [], .ret (.cmp .Eq (.call "input_row" [(.var 2)]) (.sli (.bor 0) (.var 1) (.var 3)))]
theorem tr__law_is_told : eqO (trB tc__law_is_told 60 (defScope st__law_is_told) 100 (defBody st__law_is_told)) ir__law_is_told = true := by decide +kernel
theorem sc__law_is_told : defB tc__law_is_told.N ["row", "at"] (defScope st__law_is_told) = true := by decide +kernel
abbrev st__law_wrong_runs : Stmt := top 57
def tc__law_wrong_runs : Tc := ⟨["hand", "runs", "at", "kind"], ["_law_draw", "_law_byte"], [], ["hand"], tb, hs, shf, false, his⟩
def ir__law_wrong_runs : List S := [.set 2 (.call "_law_draw" [(.var 0), (.bin .Add (.blt .len [(.bor 1)]) (.int 1))]), .set 3 (.call "_law_draw" [(.var 0), (.int 3)]), .cond (.cmp .Eq (.bor 3) (.int 0)) [.ret (.bin .Add (.bin .Add (.sli (.bor 1) .skip (.var 2)) (.lst [(.tup [(.call "_law_byte" [(.var 0)]), (.int 0)])])) (.sli (.bor 1) (.var 2) .skip))] [], .cond (.and (.cmp .Eq (.bor 3) (.int 1)) (.cmp .Gt (.bor 2) (.int 0))) [.ret (.bin .Add (.bin .Add (.sli (.bor 1) .skip (.var 2)) (.lst [(.tup [(.idx (.idx (.bor 1) (.bin .Sub (.bor 2) (.int 1))) (.int 0)), (.bin .Add (.int 1) (.call "_law_draw" [(.var 0), (.int 3)]))])])) (.sli (.bor 1) (.var 2) .skip))] [], .ret (.bin .Add (.bin .Add (.sli (.bor 1) .skip (.var 2)) (.lst [(.tup [(.call "_law_byte" [(.var 0)]), (.idx (.lst [(.int 99999), (.int 100000), (.int 100001), (.bin .Pow (.int 2) (.int 63))]) (.call "_law_draw" [(.var 0), (.int 4)]))])])) (.sli (.bor 1) (.var 2) .skip))]
theorem tr__law_wrong_runs : eqO (trB tc__law_wrong_runs 60 (defScope st__law_wrong_runs) 100 (defBody st__law_wrong_runs)) ir__law_wrong_runs = true := by decide +kernel
theorem sc__law_wrong_runs : defB tc__law_wrong_runs.N ["hand", "runs"] (defScope st__law_wrong_runs) = true := by decide +kernel
abbrev st__law_is_guess : Stmt := top 58
def tc__law_is_guess : Tc := ⟨["hand", "last", "hold", "ago", "due"], ["_law_draw", "_law_is", "guess"], [], ["hand"], tb, hs, shf, false, his⟩
def ir__law_is_guess : List S := [.set 1 (.idx (.lst [.non, (.int 0), (.int 255), (.call "_law_draw" [(.var 0), (.int 256)])]) (.call "_law_draw" [(.var 0), (.int 4)])), .set 2 (.idx (.lst [(.int 0), (.int 1), (.int 600), (.call "_law_draw" [(.var 0), (.int 601)])]) (.call "_law_draw" [(.var 0), (.int 4)])), .forS (.one 3) .seq [(.lst [(.int 0), (.var 2), (.bin .Add (.bor 2) (.int 1)), (.blt .max2 [(.int 0), (.bin .Sub (.bor 2) (.int 1))]), (.int 100000), (.call "_law_draw" [(.var 0), (.int 100001)])])] [.set 4 (.int 0), .cond (.and (.cmp .IsNot (.bor 1) .non) (.cmp .LtE (.bor 3) (.bor 2))) [.set 4 (.var 1)] [], .cond (.not (.call "_law_is" [(.call "guess" [(.var 1), (.var 3), (.var 2)]), (.var 4)])) [.ret (.bl false)] []], .ret (.bl true)]
theorem tr__law_is_guess : eqO (trB tc__law_is_guess 60 (defScope st__law_is_guess) 100 (defBody st__law_is_guess)) ir__law_is_guess = true := by decide +kernel
theorem sc__law_is_guess : defB tc__law_is_guess.N ["hand"] (defScope st__law_is_guess) = true := by decide +kernel
abbrev st_law : Stmt := top 59
def tc_law : Tc := ⟨["script", "hand", "many", "runs", "inputs", "row", "due", "ahead", "behind", "turn", "few", "some", "at", ".0", "item", "ticks"], ["_law_hand", "_law_draw", "_law_runs", "_law_ticks", "input_row", "_law_input_bytes", "_law_is", "_law_bytes", "_law_read_told", "_law_spoilt", "_law_is_told", "_law_run_bytes", "_law_wrong_runs", "_law_is_guess"], [], ["hand"], tb, hs, shf, false, his⟩
def ir_law : List S := [.setS 1 (.call "_law_hand" [(.var 0)]), .set 2 (.call "_law_draw" [(.var 1), (.int 4)]), .set 3 (.call "_law_runs" [(.var 1)]), .set 4 (.call "_law_ticks" [(.var 3)]), .set 5 (.call "input_row" [(.var 4)]), .set 6 (.call "_law_input_bytes" [(.var 4)]), .cond (.not (.call "_law_is" [(.var 5), (.var 6)])) [.ret (.bl false)] [], .set 7 (.call "_law_bytes" [(.var 1), (.int 5)]), .set 8 (.call "_law_bytes" [(.var 1), (.int 5)]), .cond (.cmp .NotEq (.call "_law_read_told" [(.bin .Add (.bin .Add (.bor 7) (.bor 6)) (.bor 8)), (.blt .len [(.bor 7)])]) (.tup [(.str "told"), (.tup [(.var 4), (.bin .Add (.blt .len [(.bor 7)]) (.blt .len [(.bor 6)]))])])) [.ret (.bl false)] [], .forS (.one 9) .rng1 [(.var 2)] [.set 5 (.call "_law_spoilt" [(.var 1), (.var 5)]), .cond (.not (.call "_law_is_told" [(.bin .Add (.bin .Add (.bor 7) (.bor 5)) (.bor 8)), (.blt .len [(.bor 7)])])) [.ret (.bl false)] []], .set 10 (.lc (.tup [(.var 14), (.var 15)]) (.many [14, 15]) [13, 14, 15] .seq [(.var 3)] [(.cmp .Lt (.bor 15) (.int 1000))]), .cond (.not (.call "_law_is_told" [(.bin .Add (.bor 7) (.call "_law_run_bytes" [(.call "_law_wrong_runs" [(.var 1), (.var 10)])])), (.blt .len [(.bor 7)])])) [.ret (.bl false)] [], .set 11 (.call "_law_bytes" [(.var 1), (.int 12)]), .forS (.one 12) .rng1 [(.bin .Add (.blt .len [(.bor 11)]) (.int 1))] [.cond (.not (.call "_law_is_told" [(.var 11), (.var 12)])) [.ret (.bl false)] []], .ret (.and (.call "_law_is_guess" [(.var 1)]) (.cmp .Eq (.call "input_row" [(.var 4)]) (.bor 6)))]
theorem tr_law : eqO (trB tc_law 60 (defScope st_law) 100 (defBody st_law)) ir_law = true := by decide +kernel
theorem sc_law : defB tc_law.N ["script"] (defScope st_law) = true := by decide +kernel
theorem mN_Reader___init__ : mN "Reader" "__init__" = "Reader.__init__" := by decide +kernel
theorem mN_Reader_next_number : mN "Reader" "next_number" = "Reader.next_number" := by decide +kernel
theorem mN_Reader_next_integer : mN "Reader" "next_integer" = "Reader.next_integer" := by decide +kernel
theorem mN_Reader_next_integers : mN "Reader" "next_integers" = "Reader.next_integers" := by decide +kernel
theorem mN_Reader_next_byte : mN "Reader" "next_byte" = "Reader.next_byte" := by decide +kernel
theorem mN_Reader_finish : mN "Reader" "finish" = "Reader.finish" := by decide +kernel
local macro_rules | `(tactic| walk_at "mn") => `(tactic| first
  | (with_reducible exact mN_Reader___init__)
  | (with_reducible exact mN_Reader_next_number)
  | (with_reducible exact mN_Reader_next_integer)
  | (with_reducible exact mN_Reader_next_integers)
  | (with_reducible exact mN_Reader_next_byte)
  | (with_reducible exact mN_Reader_finish))
end L_k26

set_option autoImplicit true
namespace L_k26
open PySem PySem.Spec PyProof.Rows L2 R
local macro_rules
  | `(tactic| walk_at "r1") => `(tactic| walk_at "call1")
local macro_rules
  | `(tactic| walk_at "r1") => `(tactic| ((with_reducible refine' And.intro ?h1 ?_); (case h1 => with_reducible exact stl_zip)))
local macro_rules
  | `(tactic| walk_at "r1") => `(tactic| ((with_reducible refine' And.intro ?h1 ?_); (case h1 => exact stl_1 rfl)))
local macro_rules
  | `(tactic| walk_at "r1") => `(tactic| (with_reducible refine' h_nil ?_))
local macro_rules
  | `(tactic| walk_at "r1") => `(tactic| ((with_reducible refine' h_no ?h1 ?_); (case h1 => rfl)))
local macro_rules
  | `(tactic| walk_at "r1") => `(tactic| ((with_reducible refine' h_yes ?h1 ?_); (case h1 => rfl); intro aE))
local macro_rules
  | `(tactic| walk_at "r1") => `(tactic| ((with_reducible refine' x_hit ?h1 ?_); (case h1 => first | rfl | (walk_at "tb1"))))
local macro_rules
  | `(tactic| walk_at "r1") => `(tactic| (with_reducible refine' g_P ?_; first | (change ifP true _ _; refine p_true ?_) | (change ifP false _ _; refine p_false ?_)))
local macro_rules
  | `(tactic| walk_at "r1") => `(tactic| ((with_reducible refine' w_set ?h1 ?h2 ?h3 ?_); (case h1 => rfl); (case h2 => assumption); (case h3 => rfl)))
local macro_rules
  | `(tactic| walk_at "r1") => `(tactic| ((with_reducible refine' And.intro ?h1 ?_); (case h1 => first | rfl | exact Nat.le_of_ble_eq_true rfl | trivial | exact ⟨rfl, by decide, by decide⟩ | exact fun _ _ => rfl)))
local macro_rules
  | `(tactic| walk_at "r1") => `(tactic| ((with_reducible refine' isi_f ?h1 ?h2 ?_); (case h1 => first | rfl | trivial | assumption | decide); (case h2 => first | rfl | trivial | assumption | decide)))
local macro_rules
  | `(tactic| walk_at "r1") => `(tactic| ((with_reducible refine' isi_t ?h1 ?h2 ?_); (case h1 => first | rfl | trivial | assumption | decide); (case h2 => first | rfl | trivial | assumption | decide)))
local macro_rules
  | `(tactic| walk_at "r1") => `(tactic| (with_reducible refine' ts_one ?_))
local macro_rules
  | `(tactic| walk_at "r1") => `(tactic| (with_reducible refine' ts_nil ?_))
local macro_rules
  | `(tactic| walk_at "r1") => `(tactic| (with_reducible refine' u_scr ?_))
local macro_rules
  | `(tactic| walk_at "r1") => `(tactic| (with_reducible refine' u_lst ?_))
local macro_rules
  | `(tactic| walk_at "r1") => `(tactic| (with_reducible refine' u_tup ?_))
local macro_rules
  | `(tactic| walk_at "r1") => `(tactic| (with_reducible refine' p_false ?_))
local macro_rules
  | `(tactic| walk_at "r1") => `(tactic| (with_reducible refine' p_true ?_))
local macro_rules
  | `(tactic| walk_at "r1") => `(tactic| (with_reducible refine' p_nf ?_))
local macro_rules
  | `(tactic| walk_at "r1") => `(tactic| (with_reducible refine' p_nt ?_))
local macro_rules
  | `(tactic| walk_at "r1") => `(tactic| (with_reducible refine' lcg_nil ?_))
local macro_rules
  | `(tactic| walk_at "r1") => `(tactic| (with_reducible refine' lcg_cons ?_))
local macro_rules
  | `(tactic| walk_at "zg_E") => `(tactic| ((with_reducible refine' e_varO ?h1 ?_); (case h1 => first | rfl | trivial | assumption | decide)))
  | `(tactic| walk_at "r1") => `(tactic| (with_reducible refine' fg_nil ?_))
local macro_rules
  | `(tactic| walk_at "zg_E") => `(tactic| ((with_reducible refine' e_mk ?h1 ?_); (case h1 => walk_at "mn")))
  | `(tactic| walk_at "r1") => `(tactic| (with_reducible refine' fg_cons ?_))
local macro_rules
  | `(tactic| walk_at "zg_E") => `(tactic| (with_reducible refine' e_lcS ?_))
  | `(tactic| walk_at "r1") => `(tactic| (with_reducible refine' aug_sub ?_))
local macro_rules
  | `(tactic| walk_at "zg_E") => `(tactic| ((with_reducible refine' e_lc ?h1 ?_); (case h1 => first | rfl | trivial | assumption | decide)))
  | `(tactic| walk_at "r1") => `(tactic| (with_reducible refine' aug_add ?_))
local macro_rules
  | `(tactic| walk_at "zg_E") => `(tactic| ((with_reducible refine' e_isxT ?h1 ?_); (case h1 => first | rfl | trivial | assumption | decide)))
  | `(tactic| walk_at "r1") => `(tactic| ((with_reducible refine' p_nisN0 ?h1 ?_); (case h1 => first | rfl | trivial | assumption | decide)))
local macro_rules
  | `(tactic| walk_at "zg_E") => `(tactic| ((with_reducible refine' e_isx ?h1 ?_); (case h1 => first | rfl | trivial | assumption | decide)))
  | `(tactic| walk_at "r1") => `(tactic| ((with_reducible refine' p_isN0 ?h1 ?_); (case h1 => first | rfl | trivial | assumption | decide)))
local macro_rules
  | `(tactic| walk_at "zg_E") => `(tactic| (with_reducible refine' e_eqI ?_))
  | `(tactic| walk_at "r1") => `(tactic| (with_reducible refine' p_nisN ?_))
local macro_rules
  | `(tactic| walk_at "zg_E") => `(tactic| (with_reducible refine' e_bix ?_))
  | `(tactic| walk_at "r1") => `(tactic| (with_reducible refine' p_isN ?_))
local macro_rules
  | `(tactic| walk_at "zg_E") => `(tactic| (with_reducible refine' e_sset ?_))
  | `(tactic| walk_at "r1") => `(tactic| ((with_reducible refine' i_lst ?h1 ?_); (case h1 => rfl)))
local macro_rules
  | `(tactic| walk_at "zg_E") => `(tactic| (with_reducible refine' e_isc ?_))
  | `(tactic| walk_at "r1") => `(tactic| ((with_reducible refine' i_tup ?h1 ?_); (case h1 => rfl)))
local macro_rules
  | `(tactic| walk_at "zg_E") => `(tactic| (with_reducible refine' e_lrg ?_))
  | `(tactic| walk_at "r1") => `(tactic| ((with_reducible refine' g_T ?_); walk_at "zg_T"))
local macro_rules
  | `(tactic| walk_at "zg_E") => `(tactic| (with_reducible refine' e_join ?_))
  | `(tactic| walk_at "r1") => `(tactic| (with_reducible refine' b_nil ?_))
local macro_rules
  | `(tactic| walk_at "zg_E") => `(tactic| (with_reducible refine' e_shr ?_))
  | `(tactic| walk_at "zg_S") => `(tactic| ((with_reducible refine' s_aug ?h1 ?_); (case h1 => first | rfl | trivial | assumption | decide)))
  | `(tactic| walk_at "r1") => `(tactic| ((with_reducible refine' g_S ?_); walk_at "zg_S"))
local macro_rules
  | `(tactic| walk_at "zg_E") => `(tactic| (with_reducible refine' e_meth ?_))
  | `(tactic| walk_at "zg_S") => `(tactic| ((with_reducible refine' s_retO ?h1 ?_); (case h1 => first | rfl | trivial | assumption | decide)))
  | `(tactic| walk_at "r1") => `(tactic| ((with_reducible refine' g_Blt ?_); walk_at "zg_Blt"))
local macro_rules
  | `(tactic| walk_at "zg_E") => `(tactic| (with_reducible refine' e_fld ?_))
  | `(tactic| walk_at "zg_S") => `(tactic| (with_reducible refine' s_forS ?_))
  | `(tactic| walk_at "r1") => `(tactic| ((with_reducible refine' g_Os ?_); walk_at "zg_Os"))
local macro_rules
  | `(tactic| walk_at "zg_E") => `(tactic| (with_reducible refine' e_chain ?_))
  | `(tactic| walk_at "zg_S") => `(tactic| ((with_reducible refine' s_for ?h1 ?_); (case h1 => first | rfl | trivial | assumption | decide)))
  | `(tactic| walk_at "r1") => `(tactic| ((with_reducible refine' g_L ?_); walk_at "zg_L"))
local macro_rules
  | `(tactic| walk_at "zg_E") => `(tactic| (with_reducible refine' e_neg ?_))
  | `(tactic| walk_at "zg_S") => `(tactic| (with_reducible refine' s_raise ?_))
  | `(tactic| walk_at "r1") => `(tactic| ((with_reducible refine' ex_ld1s ?h1 ?h2 ?_); (case h1 => rfl); (case h2 => assumption)))
local macro_rules
  | `(tactic| walk_at "zg_E") => `(tactic| (with_reducible refine' e_isi ?_))
  | `(tactic| walk_at "zg_S") => `(tactic| (with_reducible refine' s_try ?_))
  | `(tactic| walk_at "r1") => `(tactic| ((with_reducible refine' ex_ld1 ?h1 ?_); (case h1 => assumption)))
local macro_rules
  | `(tactic| walk_at "zg_E") => `(tactic| (with_reducible refine' e_ite ?_))
  | `(tactic| walk_at "zg_S") => `(tactic| (with_reducible refine' s_cont ?_))
  | `(tactic| walk_at "r1") => `(tactic| ((with_reducible refine' ex_S ?h1 ?_); (case h1 => assumption)))
local macro_rules
  | `(tactic| walk_at "zg_E") => `(tactic| (with_reducible refine' e_not ?_))
  | `(tactic| walk_at "zg_S") => `(tactic| (with_reducible refine' s_brk ?_))
  | `(tactic| walk_at "r1") => `(tactic| ((with_reducible refine' u_str ?h1 ?_); (first | (case h1 => (first | assumption | omega)) | rotate_left)))
local macro_rules
  | `(tactic| walk_at "zg_E") => `(tactic| (with_reducible refine' e_or ?_))
  | `(tactic| walk_at "zg_S") => `(tactic| (with_reducible refine' s_pass ?_))
  | `(tactic| walk_at "r1") => `(tactic| ((with_reducible refine' lr_b ?h1 ?_); (first | (case h1 => (first | omega)) | rotate_left)))
local macro_rules
  | `(tactic| walk_at "zg_E") => `(tactic| (with_reducible refine' e_and ?_))
  | `(tactic| walk_at "zg_Cmp") => `(tactic| ((with_reducible refine' c_ne ?h1 ?h2 ?_); (first | (case h1 => (first | rfl | exact okD_tupI | exact okD_lstI | (walk_at "ok1"))) | rotate_left); (first | (case h2 => (first | rfl | exact okD_tupI | exact okD_lstI | (walk_at "ok1"))) | rotate_left)))
  | `(tactic| walk_at "zg_S") => `(tactic| (with_reducible refine' s_unpG ?_))
  | `(tactic| walk_at "r1") => `(tactic| (with_reducible refine' in_int ?_))
local macro_rules
  | `(tactic| walk_at "zg_E") => `(tactic| ((with_reducible refine' e_fld1 ?h1 ?_); (case h1 => first | rfl | trivial | assumption | decide)))
  | `(tactic| walk_at "zg_Cmp") => `(tactic| ((with_reducible refine' c_eq ?h1 ?h2 ?_); (first | (case h1 => (first | rfl | exact okD_tupI | exact okD_lstI | (walk_at "ok1"))) | rotate_left); (first | (case h2 => (first | rfl | exact okD_tupI | exact okD_lstI | (walk_at "ok1"))) | rotate_left)))
  | `(tactic| walk_at "zg_Blt") => `(tactic| ((with_reducible refine' f_intS ?h1 ?h2 ?_); (first | (case h1 => (first | assumption)) | rotate_left); (first | (case h2 => (first | decide)) | rotate_left)))
  | `(tactic| walk_at "zg_S") => `(tactic| (with_reducible refine' s_unp ?_))
  | `(tactic| walk_at "r1") => `(tactic| (with_reducible refine' jo_str ?_))
local macro_rules
  | `(tactic| walk_at "zg_E") => `(tactic| ((with_reducible refine' e_glo ?h1 ?_); (case h1 => first | rfl | trivial | assumption | decide)))
  | `(tactic| walk_at "zg_Cmp") => `(tactic| ((with_reducible refine' c_neBf ?h1 ?_); (case h1 => first | rfl | trivial | assumption | decide)))
  | `(tactic| walk_at "zg_Blt") => `(tactic| ((with_reducible refine' f_strI ?h1 ?_); (first | (case h1 => (first | exact log_ok (by omega) (by omega))) | rotate_left)))
  | `(tactic| walk_at "zg_S") => `(tactic| (with_reducible refine' s_retN ?_))
  | `(tactic| walk_at "r1") => `(tactic| ((with_reducible refine' isc_go ?h1 ?h2 ?_); (case h1 => rfl); (case h2 => first | assumption | (walk_at "vh"))))
local macro_rules
  | `(tactic| walk_at "zg_E") => `(tactic| (with_reducible refine' e_str ?_))
  | `(tactic| walk_at "zg_Cmp") => `(tactic| ((with_reducible refine' c_neBt ?h1 ?_); (case h1 => first | rfl | trivial | assumption | decide)))
  | `(tactic| walk_at "zg_Blt") => `(tactic| ((with_reducible refine' f_lenS ?h1 ?_); (first | (case h1 => (first | omega)) | rotate_left)))
  | `(tactic| walk_at "zg_S") => `(tactic| (with_reducible refine' s_appF ?_))
  | `(tactic| walk_at "r1") => `(tactic| ((with_reducible refine' eqi_go ?h1 ?h2 ?h3 ?h4 ?h5 ?h6 ?_); (case h1 => rfl); (case h2 => first | assumption | (walk_at "vh")); (case h3 => rfl); (case h4 => first | assumption | (walk_at "vh")); (case h5 => walk_at "mn"); (case h6 => exact True.intro)))
local macro_rules
  | `(tactic| walk_at "zg_E") => `(tactic| (with_reducible refine' e_non ?_))
  | `(tactic| walk_at "zg_Cmp") => `(tactic| ((with_reducible refine' c_eqBf ?h1 ?_); (case h1 => first | rfl | trivial | assumption | decide)))
  | `(tactic| walk_at "zg_Blt") => `(tactic| (with_reducible refine' f_intB ?_))
  | `(tactic| walk_at "zg_S") => `(tactic| (with_reducible refine' s_sasg ?_))
  | `(tactic| walk_at "r1") => `(tactic| ((with_reducible refine' augp_go ?h2 ?h3 ?_); (case h2 => first | assumption | (walk_at "vh")); (case h3 => first | exact Nat.le_of_ble_eq_true rfl | decide)))
local macro_rules
  | `(tactic| walk_at "zg_E") => `(tactic| (with_reducible refine' e_bl ?_))
  | `(tactic| walk_at "zg_Cmp") => `(tactic| ((with_reducible refine' c_eqBt ?h1 ?_); (case h1 => first | rfl | trivial | assumption | decide)))
  | `(tactic| walk_at "zg_Blt") => `(tactic| (with_reducible refine' f_sumC ?_))
  | `(tactic| walk_at "zg_S") => `(tactic| (with_reducible refine' s_pop ?_))
  | `(tactic| walk_at "r1") => `(tactic| ((with_reducible refine' bg_fl ?h1 ?h2 ?h3 ?_); (case h1 => rfl); (case h2 => first | assumption | (walk_at "vh")); (case h3 => first | exact Nat.le_of_ble_eq_true rfl | decide)))
local macro_rules
  | `(tactic| walk_at "zg_E") => `(tactic| (with_reducible refine' e_dct ?_))
  | `(tactic| walk_at "zg_Bin") => `(tactic| ((with_reducible refine' b_addS ?h1 ?_); (first | (case h1 => (first | omega)) | rotate_left)))
  | `(tactic| walk_at "zg_Cmp") => `(tactic| (with_reducible refine' c_isNotB ?_))
  | `(tactic| walk_at "zg_Blt") => `(tactic| (with_reducible refine' f_max ?_))
  | `(tactic| walk_at "zg_S") => `(tactic| (with_reducible refine' s_ext ?_))
  | `(tactic| walk_at "r1") => `(tactic| (with_reducible refine' bg_nm ?_))
local macro_rules
  | `(tactic| walk_at "zg_E") => `(tactic| (with_reducible refine' e_lst ?_))
  | `(tactic| walk_at "zg_Bin") => `(tactic| ((with_reducible refine' b_pow ?h1 ?_); (first | (case h1 => (first | exact ⟨by omega, by omega, by decide⟩)) | rotate_left)))
  | `(tactic| walk_at "zg_Cmp") => `(tactic| (with_reducible refine' c_isB ?_))
  | `(tactic| walk_at "zg_Blt") => `(tactic| (with_reducible refine' f_min ?_))
  | `(tactic| walk_at "zg_S") => `(tactic| (with_reducible refine' s_app ?_))
  | `(tactic| walk_at "r1") => `(tactic| (with_reducible refine' bg_nil ?_))
local macro_rules
  | `(tactic| walk_at "zg_E") => `(tactic| (with_reducible refine' e_tup ?_))
  | `(tactic| walk_at "zg_Bin") => `(tactic| ((with_reducible refine' b_mulL ?h1 ?_); (first | (case h1 => (first | exact ⟨by omega, by omega, by simp; omega⟩)) | rotate_left)))
  | `(tactic| walk_at "zg_Cmp") => `(tactic| (with_reducible refine' c_isNotN ?_))
  | `(tactic| walk_at "zg_Blt") => `(tactic| (with_reducible refine' f_abs ?_))
  | `(tactic| walk_at "zg_S") => `(tactic| (with_reducible refine' s_faug ?_))
  | `(tactic| walk_at "r1") => `(tactic| ((with_reducible refine' aug_go ?h1 ?h2 ?h3 ?_); (case h1 => rfl); (case h2 => first | assumption | (walk_at "vh")); (case h3 => rfl)))
local macro_rules
  | `(tactic| walk_at "zg_E") => `(tactic| (with_reducible refine' e_skip ?_))
  | `(tactic| walk_at "zg_Bin") => `(tactic| ((with_reducible refine' b_mulT ?h1 ?h2 ?h3 ?_); (first | (case h1 => (first | omega)) | rotate_left); (first | (case h2 => (first | omega)) | rotate_left); (first | (case h3 => (first | omega)) | rotate_left)))
  | `(tactic| walk_at "zg_Cmp") => `(tactic| (with_reducible refine' c_isN ?_))
  | `(tactic| walk_at "zg_Blt") => `(tactic| (with_reducible refine' f_lstC ?_))
  | `(tactic| walk_at "zg_S") => `(tactic| (with_reducible refine' s_fset ?_))
  | `(tactic| walk_at "r1") => `(tactic| ((with_reducible refine' put_go ?h1 ?h2 ?h3 ?_); (case h1 => rfl); (case h2 => first | assumption | (walk_at "vh")); (case h3 => first | exact Nat.le_of_ble_eq_true rfl | decide)))
local macro_rules
  | `(tactic| walk_at "zg_E") => `(tactic| (with_reducible refine' e_sli ?_))
  | `(tactic| walk_at "zg_Bin") => `(tactic| ((with_reducible refine' b_addL ?h1 ?_); (first | (case h1 => (first | omega)) | rotate_left)))
  | `(tactic| walk_at "zg_Cmp") => `(tactic| (with_reducible refine' c_neI ?_))
  | `(tactic| walk_at "zg_Blt") => `(tactic| (with_reducible refine' f_lstT ?_))
  | `(tactic| walk_at "zg_S") => `(tactic| (with_reducible refine' s_setO ?_))
  | `(tactic| walk_at "zg_T") => `(tactic| ((with_reducible refine' t_fin ?h1 ?_); (case h1 => first | rfl | trivial | assumption | decide)))
  | `(tactic| walk_at "r1") => `(tactic| ((with_reducible refine' mth_go ?h1 ?h2 ?h3 ?h4 ?h5 ?_); (case h1 => rfl); (case h2 => first | assumption | (walk_at "vh")); (case h3 => walk_at "mn"); (case h4 => first | rfl | decide); (case h5 => exact True.intro)))
local macro_rules
  | `(tactic| walk_at "zg_E") => `(tactic| (with_reducible refine' e_cmp ?_))
  | `(tactic| walk_at "zg_Bin") => `(tactic| ((with_reducible refine' b_addT ?h1 ?_); (first | (case h1 => (first | omega)) | rotate_left)))
  | `(tactic| walk_at "zg_Cmp") => `(tactic| (with_reducible refine' c_ge ?_))
  | `(tactic| walk_at "zg_Blt") => `(tactic| (with_reducible refine' f_lstL ?_))
  | `(tactic| walk_at "zg_S") => `(tactic| (with_reducible refine' s_setS ?_))
  | `(tactic| walk_at "zg_T") => `(tactic| (with_reducible refine' e_chain ?_))
  | `(tactic| walk_at "r1") => `(tactic| ((with_reducible refine' fld_go ?h1 ?h2 ?h3 ?_); (case h1 => rfl); (case h2 => first | assumption | (walk_at "vh")); (case h3 => rfl)))
local macro_rules
  | `(tactic| walk_at "zg_E") => `(tactic| (with_reducible refine' e_blt ?_))
  | `(tactic| walk_at "zg_Bin") => `(tactic| ((with_reducible refine' b_mulS ?h1 ?_); (first | (case h1 => (first | decide)) | rotate_left)))
  | `(tactic| walk_at "zg_Cmp") => `(tactic| (with_reducible refine' c_gt ?_))
  | `(tactic| walk_at "zg_Blt") => `(tactic| (with_reducible refine' f_tupT ?_))
  | `(tactic| walk_at "zg_S") => `(tactic| (with_reducible refine' s_par ?_))
  | `(tactic| walk_at "zg_T") => `(tactic| (with_reducible refine' e_ite ?_))
  | `(tactic| walk_at "r1") => `(tactic| ((with_reducible refine' g_Cmp ?_); walk_at "zg_Cmp"))
local macro_rules
  | `(tactic| walk_at "zg_E") => `(tactic| (with_reducible refine' e_idx ?_))
  | `(tactic| walk_at "zg_Ex") => `(tactic| ((with_reducible refine' ⟨_, ?h1, ?_⟩); (case h1 => (fail_if_success (with_reducible show itemsD .rng1 _ = _)); (fail_if_success (with_reducible show itemsD .rng2 _ = _)); (fail_if_success (with_reducible show itemsD .rng3 _ = _)); rfl)))
  | `(tactic| walk_at "zg_Bin") => `(tactic| ((with_reducible refine' b_div ?h1 ?_); (first | (case h1 => (first | exact div_ok (by omega) (by omega))) | rotate_left)))
  | `(tactic| walk_at "zg_Cmp") => `(tactic| (with_reducible refine' c_le ?_))
  | `(tactic| walk_at "zg_Blt") => `(tactic| (with_reducible refine' f_tupL ?_))
  | `(tactic| walk_at "zg_S") => `(tactic| (with_reducible refine' s_expr ?_))
  | `(tactic| walk_at "zg_T") => `(tactic| (with_reducible refine' e_notT ?_))
  | `(tactic| walk_at "r1") => `(tactic| ((with_reducible refine' g_Bin ?_); walk_at "zg_Bin"))
local macro_rules
  | `(tactic| walk_at "zg_E") => `(tactic| (with_reducible refine' e_call ?_))
  | `(tactic| walk_at "zg_Ex") => `(tactic| ((with_reducible refine' ex_r3 ?h1 ?h2 ?h3 ?h4 ?_); (case h1 => omega); (case h2 => omega); (case h3 => omega); (case h4 => omega)))
  | `(tactic| walk_at "zg_Bin") => `(tactic| ((with_reducible refine' b_mul ?h1 ?_); (first | (case h1 => (first | exact mul_l (by omega) (by omega) | exact mul_r (by omega) (by omega))) | rotate_left)))
  | `(tactic| walk_at "zg_Cmp") => `(tactic| (with_reducible refine' c_lt ?_))
  | `(tactic| walk_at "zg_Blt") => `(tactic| (with_reducible refine' f_lenC ?_))
  | `(tactic| walk_at "zg_S") => `(tactic| (with_reducible refine' s_sidx ?_))
  | `(tactic| walk_at "zg_T") => `(tactic| (with_reducible refine' e_orT ?_))
  | `(tactic| walk_at "r1") => `(tactic| ((with_reducible refine' g_Ex ?_); walk_at "zg_Ex"))
local macro_rules
  | `(tactic| walk_at "zg_E") => `(tactic| (with_reducible refine' e_bin ?_))
  | `(tactic| walk_at "zg_Ex") => `(tactic| (with_reducible refine' ex_r2 ?_))
  | `(tactic| walk_at "zg_Bin") => `(tactic| ((with_reducible refine' b_mod ?h1 ?_); (first | (case h1 => (first | omega | decide)) | rotate_left)))
  | `(tactic| walk_at "zg_Cmp") => `(tactic| (with_reducible refine' c_neS ?_))
  | `(tactic| walk_at "zg_Blt") => `(tactic| (with_reducible refine' f_lenL ?_))
  | `(tactic| walk_at "zg_S") => `(tactic| (with_reducible refine' s_cond ?_))
  | `(tactic| walk_at "zg_T") => `(tactic| (with_reducible refine' e_andT ?_))
  | `(tactic| walk_at "r1") => `(tactic| ((with_reducible refine' g_O ?_); walk_at "zg_O"))
local macro_rules
  | `(tactic| walk_at "zg_E") => `(tactic| (with_reducible refine' e_int ?_))
  | `(tactic| walk_at "zg_O") => `(tactic| ((with_reducible refine' o_val ?h1 ?_); (case h1 => first | rfl | trivial | assumption | decide)))
  | `(tactic| walk_at "zg_Ex") => `(tactic| (with_reducible refine' ex_r1 ?_))
  | `(tactic| walk_at "zg_Bin") => `(tactic| (with_reducible refine' b_sub ?_))
  | `(tactic| walk_at "zg_Cmp") => `(tactic| (with_reducible refine' c_eqS ?_))
  | `(tactic| walk_at "zg_L") => `(tactic| (with_reducible refine' l_nil ?_))
  | `(tactic| walk_at "zg_Os") => `(tactic| (with_reducible refine' os_nil ?_))
  | `(tactic| walk_at "zg_Blt") => `(tactic| (with_reducible refine' f_lenT ?_))
  | `(tactic| walk_at "zg_S") => `(tactic| (with_reducible refine' s_ret ?_))
  | `(tactic| walk_at "zg_T") => `(tactic| (with_reducible refine' e_cmp ?_))
  | `(tactic| walk_at "r1") => `(tactic| ((with_reducible refine' g_E ?_); walk_at "zg_E"))
local macro_rules
  | `(tactic| walk_at "zg_E") => `(tactic| ((with_reducible refine' e_var ?h1 ?_); (case h1 => first | rfl | trivial | assumption | decide)))
  | `(tactic| walk_at "zg_O") => `(tactic| ((with_reducible refine' o_bor ?h1 ?h2 ?_); (case h1 => first | rfl | trivial | assumption | decide); (case h2 => first | rfl | trivial | assumption | decide)))
  | `(tactic| walk_at "zg_Ex") => `(tactic| ((with_reducible refine' ⟨_, _, ?h1, ?h2, ?_⟩); (case h1 => first | rfl | ((with_reducible refine' ld_ref ?g1 ?g2); (case g1 => rfl); (case g2 => assumption)) | ((with_reducible refine' ld_refD ?g2); (case g2 => assumption)) | ((with_reducible refine' ld_nr ?g1); (case g1 => assumption)) | ((with_reducible refine' ld_nrS ?g1 ?g2); (case g1 => rfl); (case g2 => assumption))); (case h2 => first | rfl | ((with_reducible refine' ld_ref ?g3 ?g4); (case g3 => rfl); (case g4 => assumption)) | ((with_reducible refine' ld_refD ?g4); (case g4 => assumption)) | ((with_reducible refine' ld_nr ?g3); (case g3 => assumption)) | ((with_reducible refine' ld_nrS ?g3 ?g4); (case g3 => rfl); (case g4 => assumption)))))
  | `(tactic| walk_at "zg_Bin") => `(tactic| (with_reducible refine' b_add ?_))
  | `(tactic| walk_at "zg_Cmp") => `(tactic| (with_reducible refine' c_eqI ?_))
  | `(tactic| walk_at "zg_L") => `(tactic| (with_reducible refine' l_cons ?_))
  | `(tactic| walk_at "zg_Os") => `(tactic| (with_reducible refine' os_cons ?_))
  | `(tactic| walk_at "zg_Blt") => `(tactic| (with_reducible refine' f_int ?_))
  | `(tactic| walk_at "zg_S") => `(tactic| (with_reducible refine' s_set ?_))
  | `(tactic| walk_at "zg_T") => `(tactic| ((with_reducible refine' t_bor ?h1 ?h2 ?_); (case h1 => first | rfl | trivial | assumption | decide); (case h2 => first | rfl | trivial | assumption | decide)))
  | `(tactic| walk_at "r1") => `(tactic| ((with_reducible refine' b_cons ?h1 ?_); (case h1 => first | (simp only [List.set_cons_succ, List.set_cons_zero]; done) | (simp only [List.set_cons_succ, List.set_cons_zero]; rfl) | rfl)))
local macro_rules | `(tactic| walk_at "r") => `(tactic| repeat (walk_at "r1"))
local macro_rules | `(tactic| walk_at "mn") => `(tactic| first
  | (with_reducible exact mN_Reader___init__)
  | (with_reducible exact mN_Reader_next_number)
  | (with_reducible exact mN_Reader_next_integer)
  | (with_reducible exact mN_Reader_next_integers)
  | (with_reducible exact mN_Reader_next_byte)
  | (with_reducible exact mN_Reader_finish))
/-! ### what is said -/
def Byt (bs : List Int) : Prop := ∀ b, b ∈ bs → 0 ≤ b ∧ b < 256
@[reducible] def tupI (bs : List Int) : D := .tup (bs.map D.int)
def isI : D → Bool
  | .int _ => true
  | _ => false
def wIn (d : D) (l m : Int) : Bool := match d with
  | .int i => decide (l ≤ i ∧ i ≤ m)
  | _ => false
def Ty (d : D) : Prop := ∃ n, tyD d = some n
def val : List Int → Int
  | [] => 0
  | b :: bs => b % 128 + 128 * val bs
def fig (n : Nat) : List Int := if n < 128 then [(n : Int)] else (((n % 128 + 128 : Nat) : Int)) :: fig (n / 128)
termination_by n
def rd (bs : List Int) : Option (Int × Nat) := match (bs.take 10).findIdx? (fun b => decide (b < 128)) with
  | none => none
  | some t => if (0 < t ∧ bs[t]? = some 0) ∨ 18446744073709551616 ≤ val (bs.take (t + 1)) then none else some (val (bs.take (t + 1)), t + 1)
theorem byt_app {as bs : List Int} (h1 : Byt as) (h2 : Byt bs) : Byt (as ++ bs) := fun b hb => (List.mem_append.mp hb).elim (h1 b) (h2 b)
/-! ### numbers as bytes -/
theorem fig_lt {n : Nat} (h : n < 128) : fig n = [(n : Int)] := by
  unfold fig
  rw [if_pos h]
theorem fig_ge {n : Nat} (h : 128 ≤ n) : fig n = ((n % 128 + 128 : Nat) : Int) :: fig (n / 128) := by
  conv => lhs; unfold fig
  rw [if_neg (by omega)]
theorem fig_byt (n : Nat) : Byt (fig n) := by
  induction n using Nat.strongRecOn with
  | _ n ih =>
    by_cases h : n < 128
    · rw [fig_lt h]
      intro b hb
      simp at hb
      omega
    · rw [fig_ge (by omega)]
      intro b hb
      rcases List.mem_cons.mp hb with e | hb
      · omega
      · exact ih (n / 128) (by omega) b hb
theorem fig_len (k : Nat) : ∀ n : Nat, n < 128 ^ (k + 1) → (fig n).length ≤ k + 1 := by
  induction k with
  | zero =>
    intro n h
    rw [fig_lt (by omega)]
    simp
  | succ k ih =>
    intro n h
    by_cases h1 : n < 128
    · rw [fig_lt h1]
      simp
    · rw [fig_ge (by omega), List.length_cons]
      have := ih (n / 128) (by rw [Nat.pow_succ] at h; omega)
      omega
theorem fig_len10 {n : Nat} (h : n < 1180591620717411303424) : (fig n).length ≤ 10 := fig_len 9 n (by omega)
theorem fig_pos (n : Nat) : 0 < (fig n).length := by
  by_cases h : n < 128
  · rw [fig_lt h]; simp
  · rw [fig_ge (by omega)]; simp
/-- what a written number reads as -/
theorem fig_rd (n : Nat) : ∀ (tail : List Int), ∃ t, (fig n ++ tail).findIdx? (fun b => decide (b < 128)) = some t ∧ t + 1 = (fig n).length ∧ val (fig n) = n ∧ (0 < t → (fig n)[t]? ≠ some 0) := by
  induction n using Nat.strongRecOn with
  | _ n ih =>
    intro tail
    by_cases h : n < 128
    · rw [fig_lt h]
      refine ⟨0, ?_, rfl, ?_, fun z => absurd z (by omega)⟩
      · rw [List.singleton_append, List.findIdx?_cons, decide_eq_true (by omega)]
        rfl
      · show (n : Int) % 128 + 128 * 0 = n
        omega
    · obtain ⟨t, h1, h2, h3, h4⟩ := ih (n / 128) (by omega) tail
      have h0 : 128 ≤ n := by omega
      refine ⟨t + 1, ?_, ?_, ?_, fun _ => ?_⟩
      · rw [fig_ge h0, List.cons_append, List.findIdx?_cons, decide_eq_false (by omega), h1]
        rfl
      · rw [fig_ge h0, List.length_cons, h2]
      · rw [fig_ge h0]
        show ((n % 128 + 128 : Nat) : Int) % 128 + 128 * val (fig (n / 128)) = n
        rw [h3]
        omega
      · rw [fig_ge h0, List.getElem?_cons_succ]
        by_cases ht : 0 < t
        · exact h4 ht
        · have t0 : t = 0 := by omega
          subst t0
          by_cases h5 : n / 128 < 128
          · rw [fig_lt h5]
            simp
            omega
          · rw [fig_ge (by omega)]
            simp
            omega
theorem rd_fig {n : Nat} (h : n < 18446744073709551616) (tail : List Int) : rd (fig n ++ tail) = some (((n : Nat) : Int), (fig n).length) := by
  obtain ⟨t, h1, h2, h3, h4⟩ := fig_rd n tail
  have hl := fig_len10 (n := n) (by omega)
  unfold rd
  have e : ((fig n ++ tail).take 10).findIdx? (fun b => decide (b < 128)) = some t := by
    rw [List.findIdx?_eq_some_iff_getElem] at h1 ⊢
    obtain ⟨g1, g2, g3⟩ := h1
    refine ⟨by rw [List.length_take]; omega, by rw [List.getElem_take]; exact g2, fun j hj => by rw [List.getElem_take]; exact g3 j hj⟩
  rw [e]
  dsimp only
  have e2 : (fig n ++ tail).take (t + 1) = fig n := by rw [h2, List.take_left]
  rw [e2, h3, if_neg ?_, h2]
  rintro (⟨z1, z2⟩ | z)
  · rw [List.getElem?_append_left (by omega)] at z2
    exact h4 z1 z2
  · omega
theorem rd_nonneg {bs : List Int} {u : Int} {t : Nat} (h : rd bs = some (u, t)) : 0 ≤ u ∧ u < 18446744073709551616 := by
  have vn : ∀ l : List Int, 0 ≤ val l := fun l => by
    induction l with
    | nil => exact Int.le_refl _
    | cons b l ih =>
      show 0 ≤ b % 128 + 128 * val l
      omega
  unfold rd at h
  split at h
  · cases h
  · split at h
    · cases h
    · rename_i q
      cases h
      exact ⟨vn _, by omega⟩
/-! ### runs -/
/-- one more of an item ahead -/
def rcons (b : Int) : List (Int × Nat) → List (Int × Nat)
  | [] => [(b, 1)]
  | (c, m) :: rs => if c = b then (c, m + 1) :: rs else (b, 1) :: (c, m) :: rs
/-- the runs of inputs, as long as can be -/
def rle : List Int → List (Int × Nat)
  | [] => []
  | b :: bs => rcons b (rle bs)
def exp (rs : List (Int × Nat)) : List Int := rs.flatMap fun r => List.replicate r.2 r.1
def enc (rs : List (Int × Nat)) : List Int := rs.flatMap fun r => r.1 :: fig r.2
def rowR (rs : List (Int × Nat)) : List Int := fig rs.length ++ enc rs
/-- no two neighbours are of one item, no run is empty -/
def Red : Option Int → List (Int × Nat) → Prop
  | _, [] => True
  | l, (b, m) :: rs => l ≠ some b ∧ 1 ≤ m ∧ Red (some b) rs
theorem rcons_y {b : Int} {m : Nat} {rs : List (Int × Nat)} : rcons b ((b, m) :: rs) = (b, m + 1) :: rs := by
  unfold rcons
  simp
theorem rcons_n {b c : Int} {m : Nat} {rs : List (Int × Nat)} (h : c ≠ b) : rcons b ((c, m) :: rs) = (b, 1) :: (c, m) :: rs := by
  unfold rcons
  simp [h]
theorem rcons_ne {b : Int} {rs : List (Int × Nat)} : rcons b rs ≠ [] := by
  cases rs with
  | nil => exact fun h => by cases h
  | cons r rs =>
    unfold rcons
    dsimp only
    split <;> exact fun h => by cases h
theorem rle_ne {b : Int} {bs : List Int} : rle (b :: bs) ≠ [] := rcons_ne
theorem rcons_app {b : Int} {rs ss : List (Int × Nat)} (h : rs ≠ []) : rcons b (rs ++ ss) = rcons b rs ++ ss := by
  cases rs with
  | nil => exact absurd rfl h
  | cons r rs =>
    rw [List.cons_append]
    unfold rcons
    dsimp only
    split <;> rfl
theorem rle_rep (b : Int) : ∀ m : Nat, rle (List.replicate (m + 1) b) = [(b, m + 1)]
  | 0 => rfl
  | m + 1 => by
    rw [List.replicate_succ]
    show rcons b (rle (List.replicate (m + 1) b)) = _
    rw [rle_rep b m, rcons_y]
theorem rle_app {b : Int} {m : Nat} (hm : 1 ≤ m) : ∀ bs : List Int, bs.getLast? ≠ some b → rle (bs ++ List.replicate m b) = rle bs ++ [(b, m)]
  | [], _ => by
    obtain ⟨k, rfl⟩ : ∃ k, m = k + 1 := ⟨m - 1, by omega⟩
    exact rle_rep b k
  | [x], h => by
    obtain ⟨k, rfl⟩ : ∃ k, m = k + 1 := ⟨m - 1, by omega⟩
    show rcons x (rle (List.replicate (k + 1) b)) = _
    rw [rle_rep b k, rcons_n (by intro e; subst e; exact h rfl)]
    rfl
  | x :: y :: bs, h => by
    show rcons x (rle ((y :: bs) ++ List.replicate m b)) = rcons x (rle (y :: bs)) ++ _
    rw [rle_app hm (y :: bs) (by rw [List.getLast?_cons_cons] at h; exact h), rcons_app rle_ne]
theorem rcons_red {b : Int} {rs : List (Int × Nat)} (h : Red none rs) : Red none (rcons b rs) := by
  cases rs with
  | nil => exact ⟨by simp, by omega, trivial⟩
  | cons r rs =>
    obtain ⟨c, m⟩ := r
    obtain ⟨_, h2, h3⟩ := h
    by_cases e : c = b
    · subst e
      rw [rcons_y]
      exact ⟨by simp, by omega, h3⟩
    · rw [rcons_n e]
      exact ⟨by simp, by omega, by simpa using fun z => e z.symm, h2, h3⟩
theorem rle_red : ∀ bs : List Int, Red none (rle bs)
  | [] => trivial
  | b :: bs => rcons_red (rle_red bs)
theorem exp_cons {r : Int × Nat} {rs : List (Int × Nat)} : exp (r :: rs) = List.replicate r.2 r.1 ++ exp rs := rfl
theorem enc_cons {r : Int × Nat} {rs : List (Int × Nat)} : enc (r :: rs) = (r.1 :: fig r.2) ++ enc rs := rfl
theorem exp_rcons {b : Int} {rs : List (Int × Nat)} : exp (rcons b rs) = b :: exp rs := by
  cases rs with
  | nil => rfl
  | cons r rs =>
    obtain ⟨c, m⟩ := r
    by_cases e : c = b
    · subst e
      rw [rcons_y, exp_cons, exp_cons]
      rfl
    · rw [rcons_n e]
      rfl
theorem exp_rle : ∀ bs : List Int, exp (rle bs) = bs
  | [] => rfl
  | b :: bs => by
    show exp (rcons b (rle bs)) = _
    rw [exp_rcons, exp_rle bs]
theorem exp_len_le {r : Int × Nat} {rs : List (Int × Nat)} (h : r ∈ rs) : r.2 ≤ (exp rs).length := by
  induction rs with
  | nil => cases h
  | cons s rs ih =>
    rw [exp_cons, List.length_append, List.length_replicate]
    rcases List.mem_cons.mp h with rfl | h
    · omega
    · have := ih h
      omega
theorem red_mem {r : Int × Nat} : ∀ {l : Option Int} {rs : List (Int × Nat)}, Red l rs → r ∈ rs → 1 ≤ r.2
  | _, s :: rs, h, hr => by
    rcases List.mem_cons.mp hr with rfl | hr
    · exact h.2.1
    · exact red_mem h.2.2 hr
theorem exp_mem {b : Int} {rs : List (Int × Nat)} (h : b ∈ exp rs) : ∃ r, r ∈ rs ∧ r.1 = b := by
  obtain ⟨r, hr, hb⟩ := List.mem_flatMap.mp h
  exact ⟨r, hr, (List.eq_of_mem_replicate hb).symm⟩
theorem mem_exp {r : Int × Nat} {rs : List (Int × Nat)} (h : r ∈ rs) (h1 : 1 ≤ r.2) : r.1 ∈ exp rs := List.mem_flatMap.mpr ⟨r, h, List.mem_replicate.mpr ⟨by omega, rfl⟩⟩
theorem red_len : ∀ {l : Option Int} {rs : List (Int × Nat)}, Red l rs → rs.length ≤ (exp rs).length
  | _, [], _ => Nat.zero_le _
  | _, s :: rs, h => by
    have := red_len h.2.2
    have := h.2.1
    rw [exp_cons, List.length_append, List.length_replicate, List.length_cons]
    omega
theorem rle_len (bs : List Int) : (rle bs).length ≤ bs.length := by
  have := red_len (rle_red bs)
  rw [exp_rle] at this
  exact this
theorem rle_byt {bs : List Int} (h : Byt bs) {r : Int × Nat} (hr : r ∈ rle bs) : 0 ≤ r.1 ∧ r.1 < 256 ∧ 1 ≤ r.2 ∧ r.2 ≤ bs.length := by
  have h1 := red_mem (rle_red bs) hr
  have h2 := mem_exp hr h1
  have h3 := exp_len_le hr
  rw [exp_rle] at h2 h3
  exact ⟨(h _ h2).1, (h _ h2).2, h1, h3⟩
/-! ### the reader of inputs -/
inductive Rs where
  | er (p : Nat) | ok (f : List Int) (p : Nat)
/-- so many runs more from a place -/
def prs (bs : List Int) : Nat → Nat → List Int → Rs
  | 0, p, f => .ok f p
  | k + 1, p, f => match bs[p]? with
    | none => .er p
    | some b => match rd (bs.drop (p + 1)) with
      | none => .er (p + 1)
      | some (m, t) => if m = 0 ∨ 100000 < f.length + m ∨ f.getLast? = some b then .er p else prs bs k (p + 1 + t) (f ++ List.replicate m.toNat b)
def red (bs : List Int) (a : Nat) : Rs := match rd (bs.drop a) with
  | none => .er a
  | some (u, t) => prs bs u.toNat (a + t) []
theorem val_pos {x : Int} (h0 : 0 < x) (h1 : x < 128) : ∀ l : List Int, 1 ≤ val (l ++ [x])
  | [] => by
    show 1 ≤ x % 128 + 128 * 0
    omega
  | b :: l => by
    have := val_pos h0 h1 l
    show 1 ≤ b % 128 + 128 * val (l ++ [x])
    omega
theorem fig_val {x : Int} (h0 : 0 ≤ x) (h1 : x < 128) : ∀ l : List Int, (∀ b, b ∈ l → 128 ≤ b ∧ b < 256) → (l ≠ [] → x ≠ 0) → fig (val (l ++ [x])).toNat = l ++ [x]
  | [], _, _ => by
    have e : val ([] ++ [x]) = x := by
      show x % 128 + 128 * 0 = x
      omega
    rw [e, fig_lt (by omega), Int.toNat_of_nonneg h0]
    rfl
  | b :: l, hb, hx => by
    have hx0 := hx (by simp)
    have hp := val_pos (x := x) (by omega) h1 l
    obtain ⟨b0, b1⟩ := hb b List.mem_cons_self
    have e : val ((b :: l) ++ [x]) = b % 128 + 128 * val (l ++ [x]) := rfl
    rw [e, fig_ge (by omega), show (b % 128 + 128 * val (l ++ [x])).toNat / 128 = (val (l ++ [x])).toNat by omega, fig_val h0 h1 l (fun c hc => hb c (List.mem_cons_of_mem _ hc)) (fun _ => hx0)]
    rw [List.cons_append]
    congr 1
    omega
theorem rd_take {bs : List Int} {u : Int} {t : Nat} (hb : Byt bs) (h : rd bs = some (u, t)) : fig u.toNat = bs.take t ∧ t ≤ bs.length ∧ 1 ≤ t := by
  unfold rd at h
  split at h
  · cases h
  rename_i t0 ht
  split at h
  · cases h
  rename_i hc
  cases h
  rw [List.findIdx?_eq_some_iff_getElem] at ht
  obtain ⟨g1, g2, g3⟩ := ht
  rw [List.length_take] at g1
  have gl : t0 < bs.length := by omega
  have g2 : bs[t0] < 128 := by
    have := of_decide_eq_true g2
    rwa [List.getElem_take] at this
  have hx := hb _ (List.getElem_mem gl)
  refine ⟨?_, by omega, by omega⟩
  rw [List.take_succ_eq_append_getElem gl]
  refine fig_val hx.1 g2 _ (fun b hbm => ?_) (fun hne hz => ?_)
  · obtain ⟨j, hj, e⟩ := List.getElem_of_mem hbm
    rw [List.length_take] at hj
    have := g3 j (by omega)
    rw [List.getElem_take] at this e
    have h1 : ¬ bs[j] < 128 := by simpa using this
    rw [← e]
    exact ⟨by omega, (hb _ (List.getElem_mem (by omega))).2⟩
  · refine hc (.inl ⟨?_, ?_⟩)
    · rcases Nat.eq_zero_or_pos t0 with z | z
      · rw [z] at hne
        exact absurd rfl hne
      · exact z
    · rw [List.getElem?_eq_getElem gl, hz]
theorem prs_row {bs : List Int} (hb : Byt bs) : ∀ (k p : Nat) (f f' : List Int) (p' : Nat), p ≤ bs.length → Byt f → f.length ≤ 100000 → prs bs k p f = .ok f' p' → p + 2 * k ≤ p' ∧ p' ≤ bs.length ∧ Byt f' ∧ f'.length ≤ 100000 ∧ ∃ rs : List (Int × Nat), rs.length = k ∧ rle f' = rle f ++ rs ∧ (bs.drop p).take (p' - p) = enc rs
  | 0, p, f, f', p', hp, hf, hl, h => by
    cases h
    exact ⟨by omega, hp, hf, hl, [], rfl, by simp, by simp [enc]⟩
  | k + 1, p, f, f', p', hp, hf, hl, h => by
    unfold prs at h
    split at h
    · cases h
    rename_i b eb
    split at h
    · cases h
    rename_i m t er
    split at h
    · cases h
    rename_i hc
    have hc1 : m ≠ 0 := fun e => hc (.inl e)
    have hc2 : ¬ 100000 < f.length + m := fun e => hc (.inr (.inl e))
    have hc3 : f.getLast? ≠ some b := fun e => hc (.inr (.inr e))
    have hm := rd_nonneg er
    have hbd : Byt (bs.drop (p + 1)) := fun x hx => hb x (List.mem_of_mem_drop hx)
    obtain ⟨e1, e2, e3⟩ := rd_take hbd er
    rw [List.length_drop] at e2
    have hpl : p < bs.length := (List.getElem?_eq_some_iff.mp eb).1
    obtain ⟨g1, g2, g3, g4, rs, g5, g6, g7⟩ := prs_row hb k (p + 1 + t) _ f' p' (by omega) (byt_app hf fun x hx => by rw [List.eq_of_mem_replicate hx]; exact hb b (List.mem_of_getElem? eb)) (by rw [List.length_append, List.length_replicate]; omega) h
    refine ⟨by omega, g2, g3, g4, (b, m.toNat) :: rs, by rw [List.length_cons, g5], ?_, ?_⟩
    · rw [g6, rle_app (by omega) f hc3, List.append_assoc]
      rfl
    · rw [enc_cons, ← g7, e1, List.drop_eq_getElem_cons hpl, show bs[p] = b from (List.getElem?_eq_some_iff.mp eb).2]
      rw [show p' - p = (p' - (p + 1 + t) + t) + 1 by omega, List.take_succ_cons, List.cons_append]
      congr 1
      rw [Nat.add_comm (p' - (p + 1 + t)) t, List.take_add, List.drop_drop]
theorem red_row {bs f : List Int} {a p : Nat} (hb : Byt bs) (ha : a ≤ bs.length) (h : red bs a = .ok f p) : a ≤ p ∧ p ≤ bs.length ∧ Byt f ∧ f.length ≤ 100000 ∧ rowR (rle f) = (bs.drop a).take (p - a) := by
  unfold red at h
  split at h
  · cases h
  rename_i u t er
  have hbd : Byt (bs.drop a) := fun x hx => hb x (List.mem_of_mem_drop hx)
  obtain ⟨e1, e2, e3⟩ := rd_take hbd er
  rw [List.length_drop] at e2
  obtain ⟨g1, g2, g3, g4, rs, g5, g6, g7⟩ := prs_row hb _ _ _ _ _ (by omega) (fun x hx => by cases hx) (by simp) h
  refine ⟨by omega, g2, g3, g4, ?_⟩
  have g6 : rle f = rs := g6
  unfold rowR
  rw [g6, g5, e1, ← g7, show p - a = t + (p - (a + t)) by omega, List.take_add, List.drop_drop]
theorem prs_enc {bs tail : List Int} : ∀ (rs : List (Int × Nat)) (p : Nat) (f : List Int), bs.drop p = enc rs ++ tail → Red f.getLast? rs → (∀ r, r ∈ rs → r.2 ≤ 100000) → f.length + (exp rs).length ≤ 100000 → prs bs rs.length p f = .ok (f ++ exp rs) (p + (enc rs).length)
  | [], p, f, _, _, _, _ => by simp [prs, exp, enc]
  | (b, m) :: rs, p, f, hd, hr, hm, hl => by
    obtain ⟨h1, h2, h3⟩ := hr
    rw [exp_cons, List.length_append, List.length_replicate] at hl
    rw [enc_cons, List.append_assoc, List.cons_append] at hd
    have h2 : 1 ≤ m := h2
    have hm1 : m ≤ 100000 := hm (b, m) List.mem_cons_self
    have eb : bs[p]? = some b := by
      have := congrArg (fun l => l[0]?) hd
      simpa using this
    have ed : bs.drop (p + 1) = fig m ++ (enc rs ++ tail) := by
      have := congrArg List.tail hd
      rw [List.tail_drop, List.tail_cons] at this
      exact this
    rw [List.length_cons]
    unfold prs
    rw [eb]
    dsimp only
    rw [ed, rd_fig (by omega)]
    dsimp only
    have hl2 : f.length + (m + (exp rs).length) ≤ 100000 := hl
    have hc : ¬ ((m : Int) = 0 ∨ 100000 < (f.length : Int) + (m : Int) ∨ f.getLast? = some b) := fun z => by
      rcases z with z | z | z
      · omega
      · omega
      · exact h1 z
    rw [if_neg hc]
    have hlast : (f ++ List.replicate m b).getLast? = some b := by
      obtain ⟨k, rfl⟩ : ∃ k, m = k + 1 := ⟨m - 1, by omega⟩
      rw [List.replicate_succ', ← List.append_assoc]
      simp
    have ih := prs_enc (tail := tail) rs (p + 1 + (fig m).length) (f ++ List.replicate m b) (by rw [← List.drop_drop, ed, List.drop_left]) (by rw [hlast]; exact h3) (fun r hr => hm r (List.mem_cons_of_mem _ hr)) (by rw [List.length_append, List.length_replicate]; omega)
    rw [show (m : Int).toNat = m by omega, ih, exp_cons, enc_cons, List.append_assoc, List.length_append, List.length_cons]
    have e : p + 1 + (fig m).length + (enc rs).length = p + ((fig m).length + 1 + (enc rs).length) := by omega
    rw [e]
theorem red_rle {pre f tail : List Int} (hl : f.length ≤ 100000) : red (pre ++ rowR (rle f) ++ tail) pre.length = .ok f (pre.length + (rowR (rle f)).length) := by
  have hn := rle_len f
  have ed : (pre ++ rowR (rle f) ++ tail).drop pre.length = fig (rle f).length ++ (enc (rle f) ++ tail) := by
    unfold rowR
    rw [List.append_assoc, List.drop_left, List.append_assoc]
  unfold red
  rw [ed, rd_fig (by omega)]
  dsimp only
  have ih := prs_enc (tail := tail) (bs := pre ++ rowR (rle f) ++ tail) (rle f) (pre.length + (fig (rle f).length).length) [] (by rw [← List.drop_drop, ed, List.drop_left]) (rle_red f) (fun r hr => by
    have := exp_len_le hr
    rw [exp_rle] at this
    omega) (by rw [exp_rle]; simpa using hl)
  rw [show (((rle f).length : Int)).toNat = (rle f).length by omega, ih, exp_rle]
  unfold rowR
  rw [List.length_append, List.nil_append, Nat.add_assoc]
/-! ### promises -/
def specO {A : Type} (args : A → List D) (pre : A → VH → Prop) (post : A → VH → Out → VH → Prop) : VSp :=
  ⟨fun ds vh R => ∃ a, ds = args a ∧ pre a vh ∧ ∀ o vh', post a vh o vh' → R o vh', fun ds vh R R' f ⟨a, e, p, q⟩ => ⟨a, e, p, fun x vh' h => f _ _ (q x vh' h)⟩, True⟩
theorem sat_specO {A : Type} {Φ : Fns} {Γ : Cns} {irs : List S} {N ps : List Str} {args : A → List D} {pre : A → VH → Prop} {post : A → VH → Out → VH → Prop} (hl : ∀ a, (args a).length = ps.length)
    (h : ∀ a vh (R : Out → VH → Prop), pre a vh → (∀ x vh', post a vh x vh' → R x vh') → wpB Φ Γ irs (fun c xs _ vh => R (.exc c xs) vh) ⟨fun _ vh => R (.ok (.v .non)) vh, fun x vh => R (.ok x) vh, fun _ _ => False, fun _ _ => False⟩ (startE N (args a)) vh) : Sat Φ Γ irs N ps (specO args pre post) := by
  rintro ds vh R ⟨a, rfl, p, q⟩
  exact ⟨hl a, h a vh R p q⟩
theorem call_specO {A : Type} {args : A → List D} {pre : A → VH → Prop} {post : A → VH → Out → VH → Prop} {vh : VH} {k : DV → VH → Prop} {kx : Str → List D → VH → Prop} {ds : List D} (a : A) (e : ds = args a) (p : pre a vh) (q : ∀ o vh', post a vh o vh' → callK k kx o vh') : (specO args pre post).run ds vh (callK k kx) := ⟨a, e, p, q⟩
def isHand (o : VO) : Prop := ∃ (cs : List Int) (a b c d : Int), o = .lst [.lst (cs.map D.int), .int a, .int b, .int c, .int d] ∧ 0 ≤ a
def Hd (n : Nat) (vh : VH) : Prop := ∃ o, vh[n]? = some o ∧ isHand o
/-- a promise of a def that draws, of the value as it comes -/
def specX {A : Type} (n : A → Nat) (args : A → List D) (pre : A → Prop) (post : A → D → Prop) : VSp := spec args (fun a vh => Hd (n a) vh ∧ pre a) fun a vh x vh' => post a x.d ∧ Hd (n a) vh' ∧ Fx (n a) vh vh'
theorem call_X {A : Type} {n : A → Nat} {args : A → List D} {pre : A → Prop} {post : A → D → Prop} {vh : VH} {k : DV → VH → Prop} {kx : Str → List D → VH → Prop} {ds : List D} (a : A) (e : ds = args a) (h : Hd (n a) vh) (p : pre a) (q : ∀ x vh', post a x.d → Hd (n a) vh' → Fx (n a) vh vh' → k x vh') : (specX n args pre post).run ds vh (callK k kx) := call_spec a e ⟨h, p⟩ (by
  rintro x vh' ⟨h1, h2, h3⟩
  exact q x vh' h1 h2 h3)
/-- a promise of a def that makes things that stay behind -/
def Gr (vh vh' : VH) : Prop := vh.length ≤ vh'.length ∧ ∀ j, j < vh.length → vh'[j]? = vh[j]?
theorem Gr.refl {vh : VH} : Gr vh vh := ⟨Nat.le_refl _, fun _ _ => rfl⟩
theorem Gr.trans {a b c : VH} (h : Gr a b) (g : Gr b c) : Gr a c := ⟨Nat.le_trans h.1 g.1, fun j hj => (g.2 j (by have := h.1; omega)).trans (h.2 j hj)⟩
theorem Gr.of {vh vh' : VH} {o : VO} (f : Fx vh.length (vh ++ [o]) vh') : Gr vh vh' := ⟨by rw [f.1, List.length_append]; omega, fun j hj => by rw [f.2 j (by omega), List.getElem?_append_left hj]⟩
theorem Gr.hd {n : Nat} {vh vh' : VH} (g : Gr vh vh') (h : Hd n vh) : Hd n vh' := by
  obtain ⟨o, ho, hh⟩ := h
  exact ⟨o, (g.2 n (List.getElem?_eq_some_iff.mp ho).1).trans ho, hh⟩
def Gam : Cns := fun x => if x = "MOST_BYTES" then some (.int 300000) else if x = "BYTE" then some (.int 256) else if x = "FIGURE" then some (.int 128) else if x = "MOST_FIGURES" then some (.int 10) else if x = "WHOLE_BOUND" then some (.int 18446744073709551616) else if x = "MOST_INPUTS" then some (.int 100000) else if x = "MOST_AGO" then some (.int 100000) else if x = "MOST_HOLD" then some (.int 600) else none
/-- what a reader tells of a place -/
def outR (at_ : Nat) (o : Option (Int × Nat)) : Out := match o with
  | none => .exc "BadRow" [.int at_]
  | some (n, t) => .ok (.v (.tup [.int n, .int (at_ + t)]))
def dataR (at_ : Nat) (o : Option (Int × Nat)) : D := match o with
  | none => .non
  | some (n, t) => .tup [.int n, .int (at_ + t)]
/-- a plain thing, so deep -/
def plD : Nat → D → Bool
  | _, .bl _ => true
  | _, .int _ => true
  | _, .str x => PyData.canLay0 (.str x)
  | n + 1, .tup xs => decide (xs.length ≤ 16777216) && xs.all (plD n)
  | _, _ => false
@[reducible] def FR : List Str := ["row", "at", "last"]
/-- a reader -/
def Rdr (n : Nat) (bs : List Int) (a l : Nat) (vh : VH) : Prop := vh[n]? = some (.ins "Reader" FR [tupI bs, .int a, .int l])
structure RA where
  n : Nat
  bs : List Int
  a : Nat
  l : Nat
def rowAt (a : List Int × Nat) : Prop := Byt a.1 ∧ a.1.length ≤ 300000 ∧ a.2 ≤ a.1.length
@[reducible] def RA.is (r : RA) (vh : VH) : Prop := Rdr r.n r.bs r.a r.l vh ∧ rowAt (r.bs, r.a)
@[reducible] def runD (r : Int × Nat) : D := .tup [.int r.1, .int r.2]
@[reducible] def lstR (rs : List (Int × Nat)) : D := .lst (rs.map runD)
def outQ : Rs → Out
  | .er p => .exc "BadRow" [.int p]
  | .ok f p => .ok (.v (.tup [tupI f, .int p]))
def parD : Rs → D
  | .er p => .tup [.non, .int 0, .int p]
  | .ok f p => .tup [tupI f, .int p, .int (-1)]
def toldD : Rs → D
  | .er p => .tup [.str "bad", .int p]
  | .ok f p => .tup [.str "told", .tup [tupI f, .int p]]
/-- right runs of a law -/
def Rns (rs : List (Int × Nat)) : Prop := rs.length ≤ 14 ∧ ∀ r, r ∈ rs → 0 ≤ r.1 ∧ r.1 < 256 ∧ r.2 ≤ 9223372036854775808
def oI : Option Int → D
  | none => .non
  | some i => .int i
def gs (l : Option Int) (ago hold : Int) : Int := match l with
  | none => 0
  | some b => if ago ≤ hold then b else 0
def okL (l : Option Int) : Prop := ∀ b, l = some b → 0 ≤ b ∧ b < 256
def s_is_integer : VSp := specF (A := D) (fun d => [d]) Ty fun d => .v (.bl (isI d))
def s_is_within : VSp := specF (A := D × Int × Int) (fun a => [a.1, .int a.2.1, .int a.2.2]) (fun a => Ty a.1) fun a => .v (.bl (wIn a.1 a.2.1 a.2.2))
def s_is_below : VSp := specF (A := Int × Int) (fun a => [.int a.1, .int a.2]) (fun _ => True) fun a => .v (.bl (decide (0 ≤ a.1 ∧ a.1 < a.2)))
def s_is_row : VSp := specF (A := List Int) (fun bs => [tupI bs]) (fun bs => Byt bs ∧ bs.length ≤ 300000) fun _ => .v (.bl true)
def s_check_row : VSp := specF (A := List Int) (fun bs => [tupI bs]) (fun bs => Byt bs ∧ bs.length ≤ 300000) fun _ => .v .non
def s_figures_of : VSp := specF (A := Nat) (fun n => [.int n]) (fun n => n < 1180591620717411303424) fun n => .v (tupI (fig n))
def s_number_at : VSp := specF (A := List Int × Nat) (fun a => [tupI a.1, .int a.2]) rowAt fun a => .v (dataR a.2 (rd (a.1.drop a.2)))
def s_taken : VSp := specE (A := List Int × Nat) (fun a => [tupI a.1, .int a.2]) rowAt fun a => outR a.2 (rd (a.1.drop a.2))
def s_check_place : VSp := specF (A := List Int × Nat) (fun a => [tupI a.1, .int a.2]) rowAt fun _ => .v .non
def s_Reader___init__ : VSp := spec (A := Nat × List Int × Nat) (fun a => [.ref a.1, tupI a.2.1, .int a.2.2]) (fun a vh => vh[a.1]? = some (.ins "Reader" [] [])) fun a vh x vh' => x = .v .non ∧ Rdr a.1 a.2.1 a.2.2 a.2.2 vh' ∧ Fx a.1 vh vh'
def s_Reader_next_number : VSp := specO (A := RA) (fun r => [.ref r.n]) (fun r vh => r.is vh) fun r vh o vh' => Fx r.n vh vh' ∧ match rd (r.bs.drop r.a) with
  | none => o = .exc "BadRow" [.int r.a]
  | some (u, t) => o = .ok (.v (.int u)) ∧ Rdr r.n r.bs (r.a + t) r.a vh'
def s_Reader_next_byte : VSp := specO (A := RA) (fun r => [.ref r.n]) (fun r vh => r.is vh) fun r vh o vh' => Fx r.n vh vh' ∧ match r.bs[r.a]? with
  | none => o = .exc "BadRow" [.int r.a]
  | some b => o = .ok (.v (.int b)) ∧ Rdr r.n r.bs (r.a + 1) r.a vh'
def s_is_input : VSp := specF (A := Int) (fun i => [.int i]) (fun _ => True) fun i => .v (.bl (decide (0 ≤ i ∧ i < 256)))
def s_are_inputs : VSp := specF (A := List Int) (fun bs => [tupI bs]) (fun bs => Byt bs ∧ bs.length ≤ 100000) fun _ => .v (.bl true)
def s_check_inputs : VSp := specF (A := List Int) (fun bs => [tupI bs]) (fun bs => Byt bs ∧ bs.length ≤ 100000) fun _ => .v .non
def s_check_input : VSp := specF (A := Int) (fun i => [.int i]) (fun i => 0 ≤ i ∧ i < 256) fun _ => .v .non
def s_runs_of : VSp := specF (A := List Int) (fun bs => [tupI bs]) (fun bs => bs.length ≤ 100000) fun bs => .fr ((rle bs).map runD)
def s_run_row : VSp := specF (A := List Int) (fun bs => [tupI bs]) (fun bs => Byt bs ∧ bs.length ≤ 100000) fun bs => .v (tupI (rowR (rle bs)))
def s_input_row : VSp := specF (A := List Int) (fun bs => [tupI bs]) (fun bs => Byt bs ∧ bs.length ≤ 100000) fun bs => .v (tupI (rowR (rle bs)))
def s_taken_inputs : VSp := specO (A := RA) (fun r => [.ref r.n]) (fun r vh => r.is vh) fun r vh o vh' => Fx r.n vh vh' ∧ match red r.bs r.a with
  | .er p => o = .exc "BadRow" [.int p]
  | .ok f p => o = .ok (.v (tupI f)) ∧ ∃ l, Rdr r.n r.bs p l vh'
def s_read_inputs : VSp := specO (A := List Int × Nat) (fun a => [tupI a.1, .int a.2]) (fun a _ => rowAt a) fun a vh o vh' => Gr vh vh' ∧ o = outQ (red a.1 a.2)
def s_guessed : VSp := specF (A := Option Int × Int × Int) (fun a => [oI a.1, .int a.2.1, .int a.2.2]) (fun _ => True) fun a => .v (.int (gs a.1 a.2.1 a.2.2))
def s_guess : VSp := specF (A := Option Int × Int × Int) (fun a => [oI a.1, .int a.2.1, .int a.2.2]) (fun a => okL a.1 ∧ 0 ≤ a.2.1 ∧ a.2.1 ≤ 100000 ∧ 0 ≤ a.2.2 ∧ a.2.2 ≤ 600) fun a => .v (.int (gs a.1 a.2.1 a.2.2))
def s__law_hand : VSp := spec (A := List Int) (fun ns => [.scr ns]) (fun _ _ => True) fun ns vh x vh' => ∃ ds, x = .fr ds ∧ isHand (.lst ds) ∧ vh' = vh
def s__law_draw : VSp := spec (A := Nat × Int) (fun a => [.ref a.1, .int a.2]) (fun a vh => (∃ o, vh[a.1]? = some o ∧ isHand o) ∧ 0 < a.2 ∧ a.2 ≤ 18446744073709551616) fun a vh x vh' => ∃ k o, x = .v (.int k) ∧ 0 ≤ k ∧ k < a.2 ∧ isHand o ∧ vh' = vh.set a.1 o
def s__law_is : Nat → VSp
  | 0 => none_sp
  | n + 1 => specF (A := D) (fun d => [d, d]) (fun d => plD n d = true) fun _ => .v (.bl true)
def s__law_whole : VSp := specF (A := Nat) (fun n => [.int n]) (fun n => n < 18446744073709551616) fun n => .v (tupI (fig n))
def s__law_read : VSp := specF (A := List Int × Nat) (fun a => [tupI a.1, .int a.2]) rowAt fun a => .v (dataR a.2 (rd (a.1.drop a.2)))
def s__law_byte : VSp := specX (A := Nat) id (fun n => [.ref n]) (fun _ => True) fun _ d => ∃ k, d = .int k ∧ 0 ≤ k ∧ k < 256
def s__law_bytes : VSp := specX (A := Nat × Int) (·.1) (fun a => [.ref a.1, .int a.2]) (fun a => 0 ≤ a.2 ∧ a.2 ≤ 1000) fun a d => ∃ bs : List Int, d = tupI bs ∧ Byt bs ∧ bs.length ≤ a.2
def s__law_spoilt : VSp := specX (A := Nat × List Int) (·.1) (fun a => [.ref a.1, tupI a.2]) (fun a => Byt a.2 ∧ a.2.length ≤ 250000) fun a d => ∃ bs : List Int, d = tupI bs ∧ Byt bs ∧ bs.length ≤ a.2.length + 4
def s__law_runs : VSp := specX (A := Nat) id (fun n => [.ref n]) (fun _ => True) fun _ d => ∃ rs, d = lstR rs ∧ rs.length ≤ 12 ∧ (∀ r, r ∈ rs → 0 ≤ r.1 ∧ r.1 < 256 ∧ r.2 ≤ 20000) ∧ (exp rs).length ≤ 18600
def s__law_ticks : VSp := specF (A := List (Int × Nat)) (fun rs => [lstR rs]) (fun rs => (exp rs).length ≤ 100000) fun rs => .v (tupI (exp rs))
def s__law_run_bytes : VSp := specF (A := List (Int × Nat)) (fun rs => [lstR rs]) (fun rs => rs.length ≤ 100000 ∧ ∀ r, r ∈ rs → r.2 ≤ 9223372036854775808) fun rs => .v (tupI (rowR rs))
def s__law_input_bytes : VSp := specF (A := List Int) (fun bs => [tupI bs]) (fun bs => bs.length ≤ 100000) fun bs => .v (tupI (rowR (rle bs)))
def s__law_parsed : VSp := specF (A := List Int × Nat) (fun a => [tupI a.1, .int a.2]) rowAt fun a => .v (parD (red a.1 a.2))
def s__law_read_told : VSp := spec (A := List Int × Nat) (fun a => [tupI a.1, .int a.2]) (fun a _ => rowAt a) fun a vh x vh' => x = .v (toldD (red a.1 a.2)) ∧ Gr vh vh'
def s__law_is_told : VSp := spec (A := List Int × Nat) (fun a => [tupI a.1, .int a.2]) (fun a _ => rowAt a) fun a vh x vh' => x = .v (.bl true) ∧ Gr vh vh'
def s__law_wrong_runs : VSp := specX (A := Nat × List (Int × Nat)) (·.1) (fun a => [.ref a.1, lstR a.2]) (fun a => a.2.length ≤ 12 ∧ Rns a.2) fun _ d => ∃ rs, d = lstR rs ∧ Rns rs
def s__law_is_guess : VSp := specX (A := Nat) id (fun n => [.ref n]) (fun _ => True) fun _ d => d = .bl true
def s_law : VSp := spec (A := List Int) (fun ns => [.scr ns]) (fun _ _ => True) fun _ _ x _ => x = .v (.bl true)
def PhiL (n : Nat) : Fns := fun x => if x = "is_integer" then s_is_integer else if x = "is_within" then s_is_within else if x = "is_below" then s_is_below else if x = "is_row" then s_is_row else if x = "check_row" then s_check_row else
  if x = "figures_of" then s_figures_of else if x = "number_at" then s_number_at else if x = "taken" then s_taken else if x = "check_place" then s_check_place else if x = "Reader.__init__" then s_Reader___init__ else if x = "Reader.next_number" then s_Reader_next_number else if x = "Reader.next_byte" then s_Reader_next_byte else
  if x = "is_input" then s_is_input else if x = "are_inputs" then s_are_inputs else if x = "check_inputs" then s_check_inputs else if x = "check_input" then s_check_input else if x = "runs_of" then s_runs_of else if x = "run_row" then s_run_row else if x = "input_row" then s_input_row else
  if x = "taken_inputs" then s_taken_inputs else if x = "read_inputs" then s_read_inputs else if x = "guessed" then s_guessed else if x = "guess" then s_guess else
  if x = "_law_hand" then s__law_hand else if x = "_law_draw" then s__law_draw else if x = "_law_is" then s__law_is n else if x = "_law_whole" then s__law_whole else if x = "_law_read" then s__law_read else if x = "_law_byte" then s__law_byte else if x = "_law_bytes" then s__law_bytes else
  if x = "_law_spoilt" then s__law_spoilt else if x = "_law_runs" then s__law_runs else if x = "_law_ticks" then s__law_ticks else if x = "_law_run_bytes" then s__law_run_bytes else if x = "_law_input_bytes" then s__law_input_bytes else if x = "_law_parsed" then s__law_parsed else
  if x = "_law_read_told" then s__law_read_told else if x = "_law_is_told" then s__law_is_told else if x = "_law_wrong_runs" then s__law_wrong_runs else if x = "_law_is_guess" then s__law_is_guess else if x = "law" then s_law else none_sp
@[reducible] def Phi : Fns := PhiL 5
/-! ### calls -/
section
variable {vh : VH} {k : DV → VH → Prop} {kx : Str → List D → VH → Prop} {m : Nat}
theorem c_is_integer {d : D} (h : Ty d) (q : k (.v (.bl (isI d))) vh) : (PhiL m "is_integer").run [d] vh (callK k kx) := call_specF (A := D) d rfl h q
theorem c_is_within {d : D} {l u : Int} (h : Ty d) (q : k (.v (.bl (wIn d l u))) vh) : (PhiL m "is_within").run [d, .int l, .int u] vh (callK k kx) := call_specF (A := D × Int × Int) (d, l, u) rfl h q
theorem c_is_withinI {i l u : Int} (q : k (.v (.bl (decide (l ≤ i ∧ i ≤ u)))) vh) : (PhiL m "is_within").run [.int i, .int l, .int u] vh (callK k kx) := c_is_within (d := .int i) ⟨_, rfl⟩ q
theorem c_is_below {t u : Int} (q : k (.v (.bl (decide (0 ≤ t ∧ t < u)))) vh) : (PhiL m "is_below").run [.int t, .int u] vh (callK k kx) := call_specF (A := Int × Int) (t, u) rfl trivial q
theorem c_is_row {bs : List Int} (h1 : Byt bs ∧ bs.length ≤ 300000) (q : k (.v (.bl true)) vh) : (PhiL m "is_row").run [tupI bs] vh (callK k kx) := call_specF (A := List Int) bs rfl h1 q
theorem c_check_row {bs : List Int} (h1 : Byt bs ∧ bs.length ≤ 300000) (q : k (.v .non) vh) : (PhiL m "check_row").run [tupI bs] vh (callK k kx) := call_specF (A := List Int) bs rfl h1 q
theorem c_figures_of {i : Int} (h0 : 0 ≤ i) (h1 : i < 1180591620717411303424) (q : k (.v (tupI (fig i.toNat))) vh) : (PhiL m "figures_of").run [.int i] vh (callK k kx) := call_specF (A := Nat) i.toNat (by rw [Int.toNat_of_nonneg h0]) (by omega) q
theorem c_number_at {bs : List Int} {at_ : Nat} (h : rowAt (bs, at_)) (q : k (.v (dataR at_ (rd (bs.drop at_)))) vh) : (PhiL m "number_at").run [tupI bs, .int at_] vh (callK k kx) := call_specF (A := List Int × Nat) (bs, at_) rfl h q
theorem c_taken {bs : List Int} {at_ : Nat} (h : rowAt (bs, at_)) (q : callK k kx (outR at_ (rd (bs.drop at_))) vh) : (PhiL m "taken").run [tupI bs, .int at_] vh (callK k kx) := call_specE (A := List Int × Nat) (bs, at_) rfl h q
theorem c_check_place {bs : List Int} {at_ : Nat} (h : rowAt (bs, at_)) (q : k (.v .non) vh) : (PhiL m "check_place").run [tupI bs, .int at_] vh (callK k kx) := call_specF (A := List Int × Nat) (bs, at_) rfl h q
theorem c_init {n a : Nat} {bs : List Int} (h : vh[n]? = some (.ins "Reader" [] [])) (q : ∀ vh', Rdr n bs a a vh' → Fx n vh vh' → k (.v .non) vh') : (PhiL m "Reader.__init__").run [.ref n, tupI bs, .int a] vh (callK k kx) := call_spec (A := Nat × List Int × Nat) (n, bs, a) rfl h (by
  rintro _ vh' ⟨rfl, h1, h2⟩
  exact q vh' h1 h2)
theorem c_next_number {n a l : Nat} {bs : List Int} (h : Rdr n bs a l vh) (g : rowAt (bs, a)) (q0 : rd (bs.drop a) = none → ∀ vh', Fx n vh vh' → kx "BadRow" [.int a] vh') (q : ∀ u t vh', rd (bs.drop a) = some (u, t) → Fx n vh vh' → Rdr n bs (a + t) a vh' → k (.v (.int u)) vh') : (PhiL m "Reader.next_number").run [.ref n] vh (callK k kx) := call_specO (A := RA) ⟨n, bs, a, l⟩ rfl ⟨h, g⟩ (by
  rintro o vh' ⟨f, hp⟩
  dsimp only at f hp
  cases e : rd (bs.drop a) with
  | none =>
    rw [e] at hp
    subst hp
    exact q0 e vh' f
  | some ut =>
    obtain ⟨u, t⟩ := ut
    rw [e] at hp
    obtain ⟨rfl, h1⟩ := hp
    exact q u t vh' e f h1)
theorem c_next_byte {n a l : Nat} {bs : List Int} (h : Rdr n bs a l vh) (g : rowAt (bs, a)) (q0 : bs[a]? = none → ∀ vh', Fx n vh vh' → kx "BadRow" [.int a] vh') (q : ∀ b vh', bs[a]? = some b → Fx n vh vh' → Rdr n bs (a + 1) a vh' → k (.v (.int b)) vh') : (PhiL m "Reader.next_byte").run [.ref n] vh (callK k kx) := call_specO (A := RA) ⟨n, bs, a, l⟩ rfl ⟨h, g⟩ (by
  rintro o vh' ⟨f, hp⟩
  dsimp only at f hp
  cases e : bs[a]? with
  | none =>
    rw [e] at hp
    subst hp
    exact q0 e vh' f
  | some b =>
    rw [e] at hp
    obtain ⟨rfl, h1⟩ := hp
    exact q b vh' e f h1)
theorem c_is_input {i : Int} (q : k (.v (.bl (decide (0 ≤ i ∧ i < 256)))) vh) : (PhiL m "is_input").run [.int i] vh (callK k kx) := call_specF (A := Int) i rfl trivial q
theorem c_are_inputs {bs : List Int} (h1 : Byt bs ∧ bs.length ≤ 100000) (q : k (.v (.bl true)) vh) : (PhiL m "are_inputs").run [tupI bs] vh (callK k kx) := call_specF (A := List Int) bs rfl h1 q
theorem c_check_inputs {bs : List Int} (h1 : Byt bs ∧ bs.length ≤ 100000) (q : k (.v .non) vh) : (PhiL m "check_inputs").run [tupI bs] vh (callK k kx) := call_specF (A := List Int) bs rfl h1 q
theorem c_check_input {i : Int} (h : 0 ≤ i ∧ i < 256) (q : k (.v .non) vh) : (PhiL m "check_input").run [.int i] vh (callK k kx) := call_specF (A := Int) i rfl h q
theorem c_runs_of {bs : List Int} (h1 : bs.length ≤ 100000) (q : k (.fr ((rle bs).map runD)) vh) : (PhiL m "runs_of").run [tupI bs] vh (callK k kx) := call_specF (A := List Int) bs rfl h1 q
theorem c_run_row {bs : List Int} (h1 : Byt bs ∧ bs.length ≤ 100000) (q : k (.v (tupI (rowR (rle bs)))) vh) : (PhiL m "run_row").run [tupI bs] vh (callK k kx) := call_specF (A := List Int) bs rfl h1 q
theorem c_input_row {bs : List Int} (h1 : Byt bs ∧ bs.length ≤ 100000) (q : k (.v (tupI (rowR (rle bs)))) vh) : (PhiL m "input_row").run [tupI bs] vh (callK k kx) := call_specF (A := List Int) bs rfl h1 q
theorem c_taken_inputs {n a l : Nat} {bs : List Int} (h : Rdr n bs a l vh) (g : rowAt (bs, a)) (q0 : ∀ p, red bs a = .er p → ∀ vh', Fx n vh vh' → kx "BadRow" [.int p] vh') (q : ∀ f p l vh', red bs a = .ok f p → Fx n vh vh' → Rdr n bs p l vh' → k (.v (tupI f)) vh') : (PhiL m "taken_inputs").run [.ref n] vh (callK k kx) := call_specO (A := RA) ⟨n, bs, a, l⟩ rfl ⟨h, g⟩ (by
  rintro o vh' ⟨f, hp⟩
  dsimp only at f hp
  cases e : red bs a with
  | er p =>
    rw [e] at hp
    subst hp
    exact q0 p e vh' f
  | ok r p =>
    rw [e] at hp
    obtain ⟨rfl, l, h1⟩ := hp
    exact q r p l vh' e f h1)
theorem c_read_inputs {a : Nat} {bs : List Int} (g : rowAt (bs, a)) (q : ∀ vh', Gr vh vh' → callK k kx (outQ (red bs a)) vh') : (PhiL m "read_inputs").run [tupI bs, .int a] vh (callK k kx) := call_specO (A := List Int × Nat) (bs, a) rfl g (by
  rintro _ vh' ⟨h, rfl⟩
  exact q vh' h)
theorem c_guessed {l : Option Int} {a h : Int} (q : k (.v (.int (gs l a h))) vh) : (PhiL m "guessed").run [oI l, .int a, .int h] vh (callK k kx) := call_specF (A := Option Int × Int × Int) (l, a, h) rfl trivial q
theorem c_guess {l : Option Int} {a h : Int} (g : okL l ∧ 0 ≤ a ∧ a ≤ 100000 ∧ 0 ≤ h ∧ h ≤ 600) (q : k (.v (.int (gs l a h))) vh) : (PhiL m "guess").run [oI l, .int a, .int h] vh (callK k kx) := call_specF (A := Option Int × Int × Int) (l, a, h) rfl g q
theorem c__law_hand {ns : List Int} (q : ∀ ds, isHand (.lst ds) → k (.fr ds) vh) : (PhiL m "_law_hand").run [.scr ns] vh (callK k kx) := call_spec (A := List Int) ns rfl trivial (by
  rintro _ _ ⟨ds, rfl, h, rfl⟩
  exact q ds h)
theorem c__law_draw {n : Nat} {u : Int} (h : Hd n vh) (h3 : 0 < u ∧ u ≤ 18446744073709551616) (q : ∀ (x : Int) (vh' : VH), 0 ≤ x → x < u → Hd n vh' → Fx n vh vh' → k (.v (.int x)) vh') : (PhiL m "_law_draw").run [.ref n, .int u] vh (callK k kx) := by
  obtain ⟨o0, h1, h2⟩ := h
  refine call_spec (A := Nat × Int) (n, u) rfl ⟨⟨o0, h1, h2⟩, h3⟩ ?_
  rintro _ _ ⟨x, o, rfl, a1, a2, a3, rfl⟩
  exact q x _ a1 a2 ⟨o, get_set h1, a3⟩ fx_set
theorem c__law_is {d e : D} (hd : d = e) (h : plD m d = true) (q : k (.v (.bl true)) vh) : (PhiL (m + 1) "_law_is").run [d, e] vh (callK k kx) := by
  subst hd
  exact call_specF (A := D) d rfl h q
theorem c__law_whole {i : Int} (h0 : 0 ≤ i) (h1 : i < 18446744073709551616) (q : k (.v (tupI (fig i.toNat))) vh) : (PhiL m "_law_whole").run [.int i] vh (callK k kx) := call_specF (A := Nat) i.toNat (by rw [Int.toNat_of_nonneg h0]) (by omega) q
theorem c__law_read {bs : List Int} {at_ : Nat} (h : rowAt (bs, at_)) (q : k (.v (dataR at_ (rd (bs.drop at_)))) vh) : (PhiL m "_law_read").run [tupI bs, .int at_] vh (callK k kx) := call_specF (A := List Int × Nat) (bs, at_) rfl h q
theorem c__law_byte {n : Nat} (h : Hd n vh) (q : ∀ (x : DV) (i : Int) (vh' : VH), x.d = .int i → 0 ≤ i → i < 256 → Hd n vh' → Fx n vh vh' → k x vh') : (PhiL m "_law_byte").run [.ref n] vh (callK k kx) := call_X (A := Nat) (n := id) (post := fun _ d => ∃ k, d = .int k ∧ 0 ≤ k ∧ k < 256) n rfl h trivial (by
  rintro x vh' ⟨i, h1, h2, h3⟩ h4 h5
  exact q x i vh' h1 h2 h3 h4 h5)
theorem c__law_bytes {n : Nat} {u : Int} (h : Hd n vh) (h3 : 0 ≤ u ∧ u ≤ 1000) (q : ∀ (x : DV) (bs : List Int) (vh' : VH), x.d = tupI bs → Byt bs → bs.length ≤ u → Hd n vh' → Fx n vh vh' → k x vh') : (PhiL m "_law_bytes").run [.ref n, .int u] vh (callK k kx) := call_X (A := Nat × Int) (post := fun (a : Nat × Int) d => ∃ bs : List Int, d = tupI bs ∧ Byt bs ∧ bs.length ≤ a.2) (n, u) rfl h h3 (by
  rintro x vh' ⟨i, h1, h2, h3⟩ h4 h5
  exact q x i vh' h1 h2 h3 h4 h5)
theorem c__law_spoilt {n : Nat} {bs : List Int} (h : Hd n vh) (h3 : Byt bs ∧ bs.length ≤ 250000) (q : ∀ (x : DV) (cs : List Int) (vh' : VH), x.d = tupI cs → Byt cs → cs.length ≤ bs.length + 4 → Hd n vh' → Fx n vh vh' → k x vh') : (PhiL m "_law_spoilt").run [.ref n, tupI bs] vh (callK k kx) := call_X (A := Nat × List Int) (post := fun (a : Nat × List Int) d => ∃ bs : List Int, d = tupI bs ∧ Byt bs ∧ bs.length ≤ a.2.length + 4) (n, bs) rfl h h3 (by
  rintro x vh' ⟨i, h1, h2, h3⟩ h4 h5
  exact q x i vh' h1 h2 h3 h4 h5)
theorem c__law_runs {n : Nat} (h : Hd n vh) (q : ∀ (x : DV) (rs : List (Int × Nat)) (vh' : VH), x.d = lstR rs → rs.length ≤ 12 → (∀ r, r ∈ rs → 0 ≤ r.1 ∧ r.1 < 256 ∧ r.2 ≤ 20000) → (exp rs).length ≤ 18600 → Hd n vh' → Fx n vh vh' → k x vh') : (PhiL m "_law_runs").run [.ref n] vh (callK k kx) := call_X (A := Nat) (n := id) (post := fun _ d => ∃ rs, d = lstR rs ∧ rs.length ≤ 12 ∧ (∀ r, r ∈ rs → 0 ≤ r.1 ∧ r.1 < 256 ∧ r.2 ≤ 20000) ∧ (exp rs).length ≤ 18600) n rfl h trivial (by
  rintro x vh' ⟨i, h1, h2, h3, h4⟩ h5 h6
  exact q x i vh' h1 h2 h3 h4 h5 h6)
theorem c__law_ticks {rs : List (Int × Nat)} (h : (exp rs).length ≤ 100000) (q : k (.v (tupI (exp rs))) vh) : (PhiL m "_law_ticks").run [lstR rs] vh (callK k kx) := call_specF (A := List (Int × Nat)) rs rfl h q
theorem c__law_run_bytes {rs : List (Int × Nat)} (h : rs.length ≤ 100000 ∧ ∀ r, r ∈ rs → r.2 ≤ 9223372036854775808) (q : k (.v (tupI (rowR rs))) vh) : (PhiL m "_law_run_bytes").run [lstR rs] vh (callK k kx) := call_specF (A := List (Int × Nat)) rs rfl h q
theorem c__law_input_bytes {bs : List Int} (h : bs.length ≤ 100000) (q : k (.v (tupI (rowR (rle bs)))) vh) : (PhiL m "_law_input_bytes").run [tupI bs] vh (callK k kx) := call_specF (A := List Int) bs rfl h q
theorem c__law_parsed {bs : List Int} {at_ : Nat} (h : rowAt (bs, at_)) (q : k (.v (parD (red bs at_))) vh) : (PhiL m "_law_parsed").run [tupI bs, .int at_] vh (callK k kx) := call_specF (A := List Int × Nat) (bs, at_) rfl h q
theorem c__law_read_told {bs : List Int} {at_ : Nat} (h : rowAt (bs, at_)) (q : ∀ vh', Gr vh vh' → k (.v (toldD (red bs at_))) vh') : (PhiL m "_law_read_told").run [tupI bs, .int at_] vh (callK k kx) := call_spec (A := List Int × Nat) (bs, at_) rfl h (by
  rintro _ vh' ⟨rfl, g⟩
  exact q vh' g)
theorem c__law_is_told {bs : List Int} {at_ : Nat} (h : rowAt (bs, at_)) (q : ∀ vh', Gr vh vh' → k (.v (.bl true)) vh') : (PhiL m "_law_is_told").run [tupI bs, .int at_] vh (callK k kx) := call_spec (A := List Int × Nat) (bs, at_) rfl h (by
  rintro _ vh' ⟨rfl, g⟩
  exact q vh' g)
theorem c__law_wrong_runs {n : Nat} {rs : List (Int × Nat)} (h : Hd n vh) (g : rs.length ≤ 12 ∧ Rns rs) (q : ∀ (x : DV) (ss : List (Int × Nat)) (vh' : VH), x.d = lstR ss → Rns ss → Hd n vh' → Fx n vh vh' → k x vh') : (PhiL m "_law_wrong_runs").run [.ref n, lstR rs] vh (callK k kx) := call_X (A := Nat × List (Int × Nat)) (post := fun (_ : Nat × List (Int × Nat)) d => ∃ rs, d = lstR rs ∧ Rns rs) (n, rs) rfl h g (by
  rintro x vh' ⟨i, h1, h2⟩ h4 h5
  exact q x i vh' h1 h2 h4 h5)
theorem c__law_is_guess {n : Nat} (h : Hd n vh) (q : ∀ (x : DV) (vh' : VH), x.d = .bl true → Hd n vh' → Fx n vh vh' → k x vh') : (PhiL m "_law_is_guess").run [.ref n] vh (callK k kx) := call_X (A := Nat) (n := id) (post := fun _ d => d = .bl true) n rfl h trivial q
end
local macro_rules | `(tactic| walk_at "call1") => `(tactic| first
  | ((with_reducible refine' c_is_integer ?h1 ?_); (case h1 => first | exact ⟨_, rfl⟩ | assumption)) | ((with_reducible refine' c_is_withinI ?_)) | ((with_reducible refine' c_is_within ?h1 ?_); (case h1 => first | exact ⟨_, rfl⟩ | assumption)) | ((with_reducible refine' c_is_below ?_)) | ((with_reducible refine' c_is_input ?_)))
/-! ### the defs -/
theorem k_is_integer : Sat Phi Gam ir_is_integer tc_is_integer.N ["thing"] s_is_integer := by
  refine sat_specF (fun _ => rfl) ?_
  rintro d vh R ⟨n, hn⟩ q
  show wpB Phi Gam ir_is_integer _ _ [.val d] vh
  unfold ir_is_integer
  cases d <;> first
    | (cases hn; done)
    | (walk_at "r"; exact q)
theorem k_is_within : Sat Phi Gam ir_is_within tc_is_within.N ["thing", "least", "most"] s_is_within := by
  refine sat_specF (fun _ => rfl) ?_
  rintro ⟨d, l, m⟩ vh R ⟨n, hn⟩ q
  show wpB Phi Gam ir_is_within _ _ [.val d, .val (.int l), .val (.int m)] vh
  unfold ir_is_within
  walk_at "r"
  cases d <;> first
    | (cases hn; done)
    | (walk_at "r"; exact q)
    | (walk_at "r"
       refine p_true ?_
       walk_at "r"
       refine p_dec (fun h1 => ?_) (fun h1 => ?_)
       · walk_at "r"
         simpa [h1, wIn] using q
       · simpa [h1, wIn] using q)
theorem k_is_below : Sat Phi Gam ir_is_below tc_is_below.N ["thing", "many"] s_is_below := by
  refine sat_specF (fun _ => rfl) ?_
  rintro ⟨t, m⟩ vh R _ q
  show wpB Phi Gam ir_is_below _ _ [.val (.int t), .val (.int m)] vh
  unfold ir_is_below
  walk_at "r"
  have e : decide (0 ≤ t ∧ t ≤ m - 1) = decide (0 ≤ t ∧ t < m) := by
    apply decide_eq_decide.mpr
    omega
  (rw [e]; try rfl)
  exact q
theorem k_is_row : Sat Phi Gam ir_is_row tc_is_row.N ["thing"] s_is_row := by
  refine sat_specF (fun _ => rfl) ?_
  rintro bs vh R ⟨hb, hl⟩ q
  show wpB Phi Gam ir_is_row _ _ [.val (tupI bs), .no, .no] vh
  unfold ir_is_row
  walk_at "r"
  refine p_dec (fun h1 => ?_) (fun h1 => ?_)
  · walk_at "r"
    refine lc_map (fun _ => .bl true) _ _ _ (fun d hd R q => ?_) ?_ ?_
    · obtain ⟨b, hbm, rfl⟩ := List.mem_map.mp hd
      walk_at "r"
      rw [decide_eq_true (hb b hbm)]
      exact q
    · rw [List.length_map]
      simp
      omega
    · walk_at "r"
      refine f_all (bs := bs.map fun _ => true) (by simp) ?_
      have e : (bs.map fun _ => true).all id = true := by simp
      (rw [e]; try rfl)
      exact q
  · rw [List.length_map] at h1
    omega
theorem k_check_row : Sat Phi Gam ir_check_row tc_check_row.N ["thing"] s_check_row := by
  refine sat_specF (fun _ => rfl) ?_
  rintro bs vh R h q
  show wpB Phi Gam ir_check_row _ _ [.val (tupI bs)] vh
  unfold ir_check_row
  walk_at "r"
  refine c_is_row h ?_
  walk_at "r"
  exact q
theorem k_figures_of : Sat Phi Gam ir_figures_of tc_figures_of.N ["number"] s_figures_of := by
  refine sat_specF (fun _ => rfl) ?_
  rintro n vh R hn q
  show wpB Phi Gam ir_figures_of _ _ [.val (.int n), .no, .no] vh
  unfold ir_figures_of
  walk_at "r"
  have hl := fig_len10 hn
  refine b_cut (fun e h => h = vh ∧ ∃ (a : List Int) (j : Nat), j < 128 ∧ a ++ [(j : Int)] = fig n ∧ e = [.val (.int n), .own (a.map D.int), .val (.int j)]) ?_ ?_
  · refine s_whl (fun w e h => h = vh ∧ ∃ (a : List Int), a ++ fig w = fig n ∧ e = [.val (.int n), .own (a.map D.int), .val (.int (w : Int))]) ⟨n, rfl, [], rfl, rfl⟩ ?_
    rintro j _ _ ⟨rfl, a, ha, rfl⟩
    walk_at "r"
    refine p_dec (fun h1 => ?_) (fun h1 => ?_)
    · have hj := fig_ge (n := j) (by omega)
      have hla : a.length ≤ 10 := by
        have := congrArg List.length ha
        rw [List.length_append] at this
        omega
      walk_at "r"
      refine ⟨by rw [List.length_map]; omega, ?_⟩
      walk_at "r"
      refine ⟨j / 128, by omega, rfl, a ++ [((j % 128 + 128 : Nat) : Int)], ?_, ?_⟩
      · rw [List.append_assoc, List.singleton_append, ← hj]
        exact ha
      · rw [List.map_append]
        have e1 : (j : Int) % 128 + 128 = ((j % 128 + 128 : Nat) : Int) := by omega
        have e2 : (j : Int) / 128 = ((j / 128 : Nat) : Int) := by omega
        rw [e1, e2]
        rfl
    · refine hold ⟨rfl, a, j, by omega, ?_, rfl⟩
      rw [← ha, fig_lt (by omega)]
  · rintro _ _ ⟨rfl, a, j, hj, ha, rfl⟩
    have hla : a.length ≤ 10 := by
      have := congrArg List.length ha
      rw [List.length_append] at this
      omega
    walk_at "r"
    have e : (a.map D.int ++ [D.int j]) = (fig n).map D.int := by rw [← ha, List.map_append]; rfl
    · rw [e]
      exact q
    · simp
      omega
theorem val_snoc : ∀ (a : List Int) (b : Int), val (a ++ [b]) = val a + b % 128 * 128 ^ a.length
  | [], b => by
    show b % 128 + 128 * 0 = 0 + b % 128 * 1
    omega
  | x :: a, b => by
    show x % 128 + 128 * val (a ++ [b]) = (x % 128 + 128 * val a) + b % 128 * 128 ^ (a.length + 1)
    rw [val_snoc a b, Int.pow_succ]
    grind
theorem rd_hit {l : List Int} {k : Nat} (hk : k < 10) (hl : k < l.length) (h1 : l[k] < 128) (h2 : ∀ j (hj : j < k), 128 ≤ l[j]) :
    rd l = if (0 < k ∧ l[k] = 0) ∨ 18446744073709551616 ≤ val (l.take (k + 1)) then none else some (val (l.take (k + 1)), k + 1) := by
  unfold rd
  have e : (l.take 10).findIdx? (fun b => decide (b < 128)) = some k := by
    rw [List.findIdx?_eq_some_iff_getElem]
    refine ⟨by rw [List.length_take]; omega, by rw [List.getElem_take]; simpa using h1, fun j hj => ?_⟩
    rw [List.getElem_take]
    have := h2 j hj
    simp
    omega
  rw [e]
  dsimp only
  have e2 : (l[k]? = some 0) = (l[k] = 0) := by
    rw [List.getElem?_eq_getElem hl]
    simp
  simp only [e2]
theorem rd_miss {l : List Int} (h : ∀ j (hj : j < l.length), j < 10 → 128 ≤ l[j]) : rd l = none := by
  unfold rd
  have e : (l.take 10).findIdx? (fun b => decide (b < 128)) = none := by
    rw [List.findIdx?_eq_none_iff]
    intro x hx
    obtain ⟨j, hj, rfl⟩ := List.mem_iff_getElem.mp hx
    rw [List.length_take] at hj
    rw [List.getElem_take]
    have := h j (by omega) (by omega)
    simp
    omega
  rw [e]
theorem atI_drop {bs : List Int} {at_ k : Nat} (h : k < (bs.drop at_).length) {i : Int} (e : i = (at_ : Int) + (k : Int)) : atI (bs.map D.int) i = some (.int (bs.drop at_)[k]) := by
  subst e
  rw [List.length_drop] at h
  unfold atI ixN
  rw [List.length_map, if_pos (by omega), if_pos (by omega)]
  have e : ((at_ : Int) + (k : Int)).toNat = at_ + k := by omega
  rw [e]
  show (bs.map D.int)[at_ + k]? = _
  rw [List.getElem?_map, List.getElem?_eq_getElem (by omega), List.getElem_drop]
  rfl
theorem pow128 (k : Nat) : (0 : Int) < 128 ^ k := Int.pow_pos (by decide)
theorem k_number_at : Sat Phi Gam ir_number_at tc_number_at.N ["row", "at"] s_number_at := by
  refine sat_specF (fun _ => rfl) ?_
  rintro ⟨bs, at_⟩ vh R ⟨hb, hl, ha⟩ q
  dsimp only at hb hl ha q
  show wpB Phi Gam ir_number_at _ _ [.val (tupI bs), .val (.int at_), .no, .no, .no, .no] vh
  unfold ir_number_at
  have hlm : (List.map D.int bs).length = bs.length := List.length_map _
  obtain ⟨l, hll⟩ : ∃ l, l = bs.drop at_ := ⟨_, rfl⟩
  have hlen : l.length = bs.length - at_ := by rw [hll, List.length_drop]
  walk_at "r"
  obtain ⟨b, hb0⟩ : ∃ b, b = (if (at_ : Int) + 10 < ((List.map D.int bs).length : Int) then (at_ : Int) + 10 else ((List.map D.int bs).length : Int)) := ⟨_, rfl⟩
  have hb1 : (at_ : Int) ≤ b ∧ b ≤ 300000 ∧ (b - at_).toNat = min 10 l.length := by
    rw [hb0]
    split <;> omega
  rw [← hb0]
  obtain ⟨c, hc⟩ : ∃ c, c = min 10 l.length := ⟨_, rfl⟩
  have ec : (b - (at_ : Int)).toNat = c := by omega
  rw [ec]
  refine for_rule (fun rest e h => h = vh ∧ ∃ (k : Nat) (s4 s5 : Slot), k ≤ c ∧ rest = ((List.range c).drop k).map (fun (i : Nat) => D.int ((at_ : Int) + (i : Int))) ∧ (∀ j (hj : j < l.length), j < k → 128 ≤ l[j]) ∧ e = [.val (tupI bs), .val (.int at_), .val (.int (val (l.take k))), .val (.int (128 ^ k)), s4, s5]) ?_ ?_ _ _ _ ⟨rfl, 0, .no, .no, by omega, by simp, fun j hj h => absurd h (by omega), rfl⟩
  · rintro _ _ ⟨rfl, k, s4, s5, hk, hr, hj, rfl⟩
    have ek : k = c := by
      have := congrArg List.length hr
      simp at this
      omega
    subst ek
    walk_at "r"
    rw [← hll, rd_miss (fun j h1 h2 => hj j h1 (by omega))] at q
    exact q
  · rintro d ds _ _ ⟨rfl, k, s4, s5, hk, hr, hj, rfl⟩ ih
    have hkc : k < c := by
      have := congrArg List.length hr
      simp at this
      omega
    have hkl : k < l.length := by omega
    rw [List.drop_eq_getElem_cons (by simpa using hkc), List.map_cons] at hr
    cases hr
    rw [List.getElem_range]
    have hat : atI (List.map D.int bs) ((at_ : Int) + (k : Int)) = some (.int l[k]) := by
      have := atI_drop (bs := bs) (at_ := at_) (k := k) (by rw [← hll]; exact hkl) rfl
      rw [this]
      simp only [hll]
    have hval : val (l.take k) + l[k] % 128 * 128 ^ k = val (l.take (k + 1)) := by
      have e : l.take (k + 1) = l.take k ++ [l[k]] := by rw [List.take_append_getElem]
      rw [e, val_snoc, List.length_take, Nat.min_eq_left (by omega)]
    walk_at "r"
    refine i_tup hat ?_
    walk_at "r"
    · rw [hval]
      refine i_tup hat ?_
      walk_at "r"
      refine p_dec (fun h1 => ?_) (fun h1 => ?_)
      · have hh := rd_hit (by omega) hkl h1 (fun j h2 => hj j (by omega) h2)
        walk_at "r"
        refine i_tup hat ?_
        walk_at "r"
        refine p_dec (fun h2 => ?_) (fun h2 => ?_)
        · walk_at "r"
          refine p_dec (fun h3 => ?_) (fun h3 => ?_)
          · walk_at "r"
            rw [← hll, hh, if_pos (.inl ⟨by omega, h2⟩)] at q
            exact q
          · walk_at "r"
            refine p_dec (fun h4 => ?_) (fun h4 => ?_)
            · walk_at "r"
              rw [← hll, hh, if_pos (.inr h4)] at q
              exact q
            · walk_at "r"
              rw [← hll, hh, if_neg (by omega)] at q
              have e : (at_ : Int) + (k : Int) + 1 = (at_ : Int) + ((k + 1 : Nat) : Int) := by omega
              rw [e]
              exact q
        · walk_at "r"
          refine p_dec (fun h3 => absurd h3 h2) (fun _ => ?_)
          walk_at "r"
          refine p_dec (fun h4 => ?_) (fun h4 => ?_)
          · walk_at "r"
            rw [← hll, hh, if_pos (.inr h4)] at q
            exact q
          · walk_at "r"
            rw [← hll, hh, if_neg (by omega)] at q
            have e : (at_ : Int) + (k : Int) + 1 = (at_ : Int) + ((k + 1 : Nat) : Int) := by omega
            rw [e]
            exact q
      · walk_at "r"
        rw [← Int.pow_succ]
        refine ih _ _ ⟨rfl, k + 1, _, _, hkc, rfl, fun j h2 h3 => ?_, rfl⟩
        by_cases e : j = k
        · subst e
          omega
        · exact hj j h2 (by omega)
theorem k_taken : Sat Phi Gam ir_taken tc_taken.N ["row", "at"] s_taken := by
  refine sat_specE (fun _ => rfl) ?_
  rintro ⟨bs, at_⟩ vh R h q
  dsimp only at q
  show wpB Phi Gam ir_taken _ _ [.val (tupI bs), .val (.int at_), .no] vh
  unfold ir_taken
  walk_at "r"
  refine c_number_at h ?_
  cases e : rd (bs.drop at_) with
  | none =>
    rw [e] at q
    unfold dataR
    dsimp only
    walk_at "r"
    exact q
  | some p =>
    rw [e] at q
    unfold dataR
    dsimp only
    walk_at "r"
    exact q
theorem k_check_place : Sat Phi Gam ir_check_place tc_check_place.N ["row", "at"] s_check_place := by
  refine sat_specF (fun _ => rfl) ?_
  rintro ⟨bs, at_⟩ vh R ⟨h1, h2, h3⟩ q
  dsimp only at h1 h2 h3
  have hlm : (List.map D.int bs).length = bs.length := List.length_map _
  show wpB Phi Gam ir_check_place _ _ [.val (tupI bs), .val (.int at_)] vh
  unfold ir_check_place
  walk_at "r"
  refine c_check_row ⟨h1, h2⟩ ?_
  walk_at "r"
  refine p_nd (by omega) ?_
  walk_at "r"
  exact q
theorem k_law_hand : Sat Phi Gam ir__law_hand tc__law_hand.N ["script"] s__law_hand := by
  refine sat_spec (fun _ => rfl) ?_
  rintro ns vh R _ q
  show wpB Phi Gam ir__law_hand _ _ [.val (.scr ns), .no, .no] vh
  unfold ir__law_hand
  walk_at "r"
  refine lc_map (fun d => d) _ _ _ (fun d hd R q => ?_) ?_ ?_
  · obtain ⟨b, hbm, rfl⟩ := List.mem_map.mp hd
    walk_at "r"
    exact q
  · rw [List.length_map, cut_take (by omega), List.length_take]
    simp
    omega
  · walk_at "r"
    refine q _ _ ⟨_, rfl, ⟨cutL ns none (some 63), 0, 0, 1 + ((cutL ns none (some 63)).length : Int), 0, ?_, by omega⟩, rfl⟩
    simp
theorem k_law_draw : Sat Phi Gam ir__law_draw tc__law_draw.N ["hand", "many"] s__law_draw := by
  refine sat_spec (fun _ => rfl) ?_
  rintro ⟨n, m⟩ vh R ⟨⟨o, ho, cs, a, b, c, d, rfl, ha⟩, m0, m1⟩ q
  dsimp only at ho m0 m1 q
  show wpB Phi Gam ir__law_draw _ _ [.val (.ref n), .val (.int m), .no, .no, .no] vh
  unfold ir__law_draw
  refine b_cut (fun e h => ∃ (sl : Slot) (cs : List Int) (a b c d : Int), e = [.val (.ref n), .val (.int m), sl, .no, .no] ∧ h[n]? = some (.lst [.lst (cs.map D.int), .int a, .int b, .int c, .int d]) ∧ 0 ≤ a ∧ ∀ o, h.set n o = vh.set n o) ?_ ?_
  · walk_at "r"
    refine p_dec (fun h1 => ?_) (fun h1 => ?_)
    · walk_at "r"
      refine p_dec (fun h1 => ?_) (fun h1 => ?_)
      · obtain ⟨u, hu, _⟩ := atI_int (xs := cs) ha (by rw [List.length_map] at h1; exact h1)
        walk_at "r"
        refine i_lst hu ?_
        walk_at "r"
        intro vh1 g1 g2
        walk_at "r"
        intro vh2 g3 g4
        walk_at "r"
        refine p_dec (fun h1 => ?_) (fun h1 => ?_)
        · walk_at "r"
          intro vh3 g5 g6
          walk_at "r"
          refine hold ⟨_, _, _, _, _, _, rfl, g5, by omega, fun o => by rw [g6, g4, g2]⟩
        · walk_at "r"
          refine hold ⟨_, _, _, _, _, _, rfl, g3, by omega, fun o => by rw [g4, g2]⟩
      · walk_at "r"
        refine hold ⟨_, _, _, _, _, _, rfl, ho, ha, fun _ => rfl⟩
    · walk_at "r"
      refine hold ⟨_, _, _, _, _, _, rfl, ho, ha, fun _ => rfl⟩
  · rintro _ vh1 ⟨sl, cs, a, b, c, d, rfl, ho1, ha, hs⟩
    walk_at "r"
    refine p_dec (fun h1 => ?_) (fun h1 => ?_)
    · walk_at "r"
      intro vh2 g1 g2
      walk_at "r"
      refine' q _ _ ⟨_, _, rfl, Int.emod_nonneg _ (by omega), Int.emod_lt_of_pos _ m0, ?_, set_eq g1 fun o => by rw [g2, hs]⟩
      exact ⟨_, _, _, _, _, rfl, ha⟩
    · walk_at "r"
      intro vh2 g1 g2
      walk_at "r"
      refine' q _ _ ⟨_, _, rfl, Int.emod_nonneg _ (by omega), Int.emod_lt_of_pos _ m0, ?_, set_eq g1 fun o => by rw [g2, hs]⟩
      exact ⟨_, _, _, _, _, rfl, ha⟩
theorem zip_same : ∀ xs : List D, List.zipWith (fun x y => D.tup [x, y]) xs xs = xs.map fun x => D.tup [x, x]
  | [] => rfl
  | x :: xs => by rw [List.zipWith_cons_cons, zip_same xs, List.map_cons]
theorem k_law_is_none : ∀ ds vh R, ¬ (PhiL 0 "_law_is").run ds vh R := fun _ _ _ h => h
theorem k_law_is (n : Nat) : Sat (PhiL n) Gam ir__law_is tc__law_is.N ["told", "due"] (s__law_is (n + 1)) := by
  refine sat_specF (fun _ => rfl) ?_
  rintro d vh R hd q
  show wpB (PhiL n) Gam ir__law_is _ _ [.val d, .val d, .no, .no, .no] vh
  unfold ir__law_is
  cases d with
  | bl b =>
    walk_at "r"
    rw [show eqD (D.bl b) (D.bl b) = true from eqD_refl 64 _ rfl]
    exact q
  | int i =>
    walk_at "r"
    rw [decide_eq_true rfl]
    exact q
  | str x =>
    have hd : PyData.canLay0 (.str x) = true := by cases n <;> exact hd
    walk_at "r"
    rw [show eqD (D.str x) (D.str x) = true from eqD_refl 64 _ hd]
    exact q
  | tup xs =>
    cases n with
    | zero => cases hd
    | succ n =>
      have hd : (decide (xs.length ≤ 16777216) && xs.all (plD n)) = true := hd
      rw [Bool.and_eq_true] at hd
      obtain ⟨hz, hd⟩ := hd
      have hz := of_decide_eq_true hz
      walk_at "r"
      refine p_d rfl ?_
      walk_at "r"
      rw [zip_same]
      refine lc_map (fun _ => .bl true) _ _ _ (fun d hd2 R q => ?_) ?_ ?_
      · obtain ⟨x, hx, rfl⟩ := List.mem_map.mp hd2
        walk_at "r"
        refine c__law_is rfl (List.all_eq_true.mp hd x hx) ?_
        walk_at "r"
        exact q
      · rw [List.length_map]
        simpa using hz
      · walk_at "r"
        refine f_all (bs := xs.map fun _ => true) (by simp) ?_
        have e : (xs.map fun _ => true).all id = true := by simp
        (rw [e]; try rfl)
        exact q
  | _ => cases n <;> cases hd
theorem fxT {n : Nat} {a b c : VH} (h1 : Fx n a b) (h2 : Fx n b c) : Fx n a c := ⟨h2.1.trans h1.1, fun j e => (h2.2 j e).trans (h1.2 j e)⟩
theorem fxR {n : Nat} {a : VH} : Fx n a a := ⟨rfl, fun _ _ => rfl⟩
theorem k_law_byte : Sat Phi Gam ir__law_byte tc__law_byte.N ["hand"] s__law_byte := by
  refine sat_spec (fun _ => rfl) ?_
  rintro n vh R ⟨hd, _⟩ q
  have hd : Hd n vh := hd
  have q : ∀ (i : Int) vh', 0 ≤ i → i < 256 → Hd n vh' → Fx n vh vh' → R (.ok (.v (.int i))) vh' := fun i vh' h1 h2 h3 h4 => q _ vh' ⟨⟨i, rfl, h1, h2⟩, h3, h4⟩
  show wpB Phi Gam ir__law_byte _ _ [.val (.ref n)] vh
  unfold ir__law_byte
  walk_at "r"
  refine c__law_draw hd (by decide) fun u vh1 h2 h3 hh1 hf => ?_
  walk_at "r"
  refine p_dec (fun h1 => ?_) (fun h1 => ?_)
  · walk_at "r"
    refine c__law_draw hh1 (by decide) fun u2 vh2 g2 g3 hh2 hf2 => ?_
    obtain ⟨d, hd, hm⟩ := atI_ok (xs := [D.int 0, .int 1, .int 127, .int 128, .int 129, .int 255]) g2 g3
    walk_at "r"
    refine i_lst hd ?_
    obtain ⟨z, rfl, z1, z2⟩ : ∃ z : Int, d = .int z ∧ 0 ≤ z ∧ z < 256 := by
      simp only [List.mem_cons, List.not_mem_nil, or_false] at hm
      rcases hm with rfl | rfl | rfl | rfl | rfl | rfl <;> exact ⟨_, rfl, by omega, by omega⟩
    exact q z _ z1 z2 hh2 (fxT hf hf2)
  · walk_at "r"
    refine c__law_draw hh1 (by decide) fun u2 vh2 g2 g3 hh2 hf2 => ?_
    exact q _ _ g2 g3 hh2 (fxT hf hf2)
theorem k_law_bytes : Sat Phi Gam ir__law_bytes tc__law_bytes.N ["hand", "most"] s__law_bytes := by
  refine sat_spec (fun _ => rfl) ?_
  rintro ⟨n, m⟩ vh R ⟨hd, h0, h1⟩ q
  have hd : Hd n vh := hd
  have h0 : 0 ≤ m := h0
  have h1 : m ≤ 1000 := h1
  have q : ∀ (bs : List Int) vh', Byt bs → bs.length ≤ m → Hd n vh' → Fx n vh vh' → R (.ok (.v (tupI bs))) vh' := fun i vh' h1 h2 h3 h4 => q _ vh' ⟨⟨i, rfl, h1, h2⟩, h3, h4⟩
  show wpB Phi Gam ir__law_bytes _ _ [.val (.ref n), .val (.int m), .no, .no] vh
  unfold ir__law_bytes
  walk_at "r"
  refine c__law_draw hd ⟨by omega, by omega⟩ fun u vh1 h2 h3 hh1 hf => ?_
  walk_at "r"
  refine lc_rule (fun rest h acc => Hd n h ∧ Fx n vh h ∧ ∃ bs : List Int, acc = bs.map D.int ∧ Byt bs ∧ bs.length + rest.length = u.toNat) ?_ ?_ _ _ _ ⟨hh1, hf, [], rfl, fun _ h => (by cases h), by simp⟩
  · rintro vh3 _ ⟨g3, f3, bs, rfl, hb, hl⟩
    walk_at "r"
    exact q bs _ hb (by simp at hl; omega) g3 f3
  · rintro d2 ds2 vh3 _ ⟨h3', f3, bs, rfl, hb, hl⟩ ih2
    walk_at "r"
    refine c__law_byte h3' fun x w vh4 ex g1 g2 h4 f4 => ?_
    walk_at "r"
    rw [ex]
    refine ⟨?_, ih2 _ _ ⟨h4, fxT f3 f4, bs ++ [w], by simp, byt_app hb (fun x hx => ?_), ?_⟩⟩
    · rw [List.length_map]
      simp at hl
      omega
    · simp at hx
      omega
    · rw [List.length_append]
      simp at hl ⊢
      omega
theorem plD_tupI {bs : List Int} {n : Nat} (h : bs.length ≤ 16777216) : plD (n + 1) (tupI bs) = true := by
  show (decide _ && _) = true
  rw [List.length_map, decide_eq_true h, Bool.true_and, List.all_eq_true]
  intro x hx
  obtain ⟨b, _, rfl⟩ := List.mem_map.mp hx
  cases n <;> rfl
theorem k_law_whole : Sat Phi Gam ir__law_whole tc__law_whole.N ["number"] s__law_whole := by
  refine sat_specF (fun _ => rfl) ?_
  rintro n vh R hn q
  show wpB Phi Gam ir__law_whole _ _ [.val (.int n), .no, .no] vh
  unfold ir__law_whole
  have hl := fig_len10 (n := n) (by omega)
  walk_at "r"
  refine for_rule (fun rest e h => h = vh ∧ ∃ (a : List Int) (j : Nat) (s2 : Slot), a ++ fig j = fig n ∧ a.length + rest.length = 10 ∧ e = [.val (.int j), .own (a.map D.int), s2]) ?_ ?_ _ _ _ ⟨rfl, [], n, .no, rfl, rfl, rfl⟩
  · rintro _ _ ⟨rfl, a, j, s2, ha, hr, rfl⟩
    have h0 := fig_pos j
    have h1 := congrArg List.length ha
    rw [List.length_append] at h1
    simp at hr
    have hj : (fig j).length = 0 := by omega
    omega
  · rintro d ds _ _ ⟨rfl, a, j, s2, ha, hr, rfl⟩ ih
    walk_at "r"
    refine p_dec (fun h1 => ?_) (fun h1 => ?_)
    · rw [fig_lt (by omega)] at ha
      have hla : a.length ≤ 10 := by
        have := congrArg List.length ha
        rw [List.length_append] at this
        omega
      walk_at "r"
      · have e : (a.map D.int ++ [D.int j]) = (fig n).map D.int := by rw [← ha, List.map_append]; rfl
        rw [show (a.map D.int ++ [(DV.v (D.int (j : Int))).d]) = (fig n).map D.int from e]
        exact q
      · simp
        omega
    · have hj := fig_ge (n := j) (by omega)
      rw [List.length_cons] at hr
      walk_at "r"
      refine ⟨by rw [List.length_map]; omega, ?_⟩
      walk_at "r"
      refine ih _ _ ⟨rfl, a ++ [((j % 128 + 128 : Nat) : Int)], j / 128, .val d, ?_, ?_, ?_⟩
      · rw [List.append_assoc, List.singleton_append, ← hj]
        exact ha
      · rw [List.length_append, List.length_singleton]
        omega
      · rw [List.map_append]
        have e1 : (j : Int) % 128 + 128 = ((j % 128 + 128 : Nat) : Int) := by omega
        have e2 : (j : Int) / 128 = ((j / 128 : Nat) : Int) := by omega
        rw [e1, e2]
        rfl
theorem k_law_read : Sat Phi Gam ir__law_read tc__law_read.N ["row", "at"] s__law_read := by
  refine sat_specF (fun _ => rfl) ?_
  rintro ⟨bs, at_⟩ vh R ⟨hb, hl, ha⟩ q
  dsimp only at hb hl ha q
  show wpB Phi Gam ir__law_read _ _ [.val (tupI bs), .val (.int at_), .no, .no, .no] vh
  unfold ir__law_read
  have hlm : (List.map D.int bs).length = bs.length := List.length_map _
  obtain ⟨l, hll⟩ : ∃ l, l = bs.drop at_ := ⟨_, rfl⟩
  have hlen : l.length = bs.length - at_ := by rw [hll, List.length_drop]
  walk_at "r"
  refine for_rule (fun rest e h => h = vh ∧ ∃ (k : Nat) (s2 s3 s4 : Slot), k ≤ 10 ∧ k ≤ l.length ∧ rest = ((List.range 10).drop k).map (fun (i : Nat) => D.int (i : Int)) ∧ (∀ j (hj : j < l.length), j < k → 128 ≤ l[j]) ∧ e = [.val (tupI bs), .val (.int at_), s2, s3, s4]) ?_ ?_ _ _ _ ⟨rfl, 0, .no, .no, .no, by omega, by omega, by simp, fun j hj h => absurd h (by omega), rfl⟩
  · rintro _ _ ⟨rfl, k, s2, s3, s4, hk, hkl, hr, hj, rfl⟩
    have ek : k = 10 := by
      have := congrArg List.length hr
      simp at this
      omega
    subst ek
    walk_at "r"
    rw [← hll, rd_miss (fun j h1 h2 => hj j h1 (by omega))] at q
    exact q
  · rintro d ds _ h0 ⟨e0, k, s2, s3, s4, hk, hkl, hr, hj, rfl⟩ ih
    subst h0
    have hkc : k < 10 := by
      have := congrArg List.length hr
      simp at this
      omega
    rw [List.drop_eq_getElem_cons (by simpa using hkc), List.map_cons] at hr
    cases hr
    rw [List.getElem_range]
    walk_at "r"
    refine p_dec (fun h1 => ?_) (fun h1 => ?_)
    · walk_at "r"
      rw [← hll, rd_miss (fun j h2 h3 => hj j h2 (by omega))] at q
      exact q
    · have hkl2 : k < l.length := by omega
      have hat : ∀ i : Nat, (hi : i < l.length) → ∀ z : Int, z = (at_ : Int) + (i : Int) → atI (List.map D.int bs) z = some (.int l[i]) := fun i hi z hz => by
        have := atI_drop (bs := bs) (at_ := at_) (k := i) (by rw [← hll]; exact hi) hz
        rw [this]
        simp only [hll]
      walk_at "r"
      refine i_tup (hat k hkl2 _ rfl) ?_
      walk_at "r"
      refine p_dec (fun h2 => ?_) (fun h2 => ?_)
      · have hh := rd_hit hkc hkl2 h2 (fun j h2 => hj j (by omega) h2)
        have fin : ∀ (sl3 sl4 : Slot), ¬ (0 < k ∧ l[k] = 0) → ∀ V : VEnds, (∀ x h, V.rt x h = R (.ok x) h) → wpB Phi Gam [S.set 3 (E.int 0), S.forS (Tg.one 4) Ik.rng3 [E.bin Operator.Add (E.bor 1) (E.bor 2), E.bin Operator.Sub (E.bor 1) (E.int 1), E.neg (E.int 1)] [S.set 3 (E.bin Operator.Add (E.bin Operator.Mult (E.bor 3) (E.int 128)) (E.bin Operator.Mod (E.blt Bf.int [E.idx (E.bor 0) (E.bor 4)]) (E.int 128)))], S.cond (E.cmp CmpOp.GtE (E.bor 3) (E.bin Operator.Pow (E.int 2) (E.int 64))) [S.ret E.non] [], S.ret (E.tup [E.var 3, E.bin Operator.Add (E.bin Operator.Add (E.bor 1) (E.bor 2)) (E.int 1)])] (fun c xs _ vh => R (.exc c xs) vh) V [.val (tupI bs), .val (.int at_), .val (.int (k : Int)), sl3, sl4] vh := by
          intro sl3 sl4 hz V hV
          obtain ⟨nx, rt, bk, ct⟩ := V
          have hV : ∀ x h, rt x h = R (.ok x) h := hV
          walk_at "r"
          have ec : (((at_ : Int) + (k : Int)) - ((at_ : Int) - 1)).toNat = k + 1 := by omega
          rw [ec]
          refine for_rule (fun rest e h => h = vh ∧ ∃ (i : Nat) (s4 : Slot), i ≤ k + 1 ∧ rest = ((List.range (k + 1)).drop i).map (fun (i : Nat) => D.int ((at_ : Int) + (k : Int) - (i : Int))) ∧ e = [.val (tupI bs), .val (.int at_), .val (.int (k : Int)), .val (.int (val ((l.take (k + 1)).drop (k + 1 - i)))), s4]) ?_ ?_ _ _ _ ⟨rfl, 0, sl4, by omega, by simp, by
            rw [Nat.sub_zero, List.drop_eq_nil_of_le (by rw [List.length_take]; omega)]
            rfl⟩
          · rintro _ _ ⟨rfl, i, s4, hi, hr, rfl⟩
            have ei : i = k + 1 := by
              have := congrArg List.length hr
              simp at this
              omega
            subst ei
            rw [Nat.sub_self, List.drop_zero]
            have e64 : (2 : Int) ^ (Int.toNat 64) = 18446744073709551616 := by decide
            walk_at "r"
            rw [e64]
            refine p_dec (fun h4 => ?_) (fun h4 => ?_)
            · walk_at "r"
              rw [← hll, hh, if_pos (.inr h4)] at q
              rw [hV]
              exact q
            · walk_at "r"
              rw [← hll, hh, if_neg (by omega)] at q
              rw [hV]
              have e : (at_ : Int) + (k : Int) + 1 = (at_ : Int) + ((k + 1 : Nat) : Int) := by omega
              rw [e]
              exact q
          · rintro d ds _ _ ⟨rfl, i, s4, hi, hr, rfl⟩ ih2
            have hik : i < k + 1 := by
              have := congrArg List.length hr
              simp at this
              omega
            rw [List.drop_eq_getElem_cons (by simpa using hik), List.map_cons] at hr
            cases hr
            rw [List.getElem_range]
            walk_at "r"
            refine i_tup (hat (k - i) (by omega) _ (by omega)) ?_
            walk_at "r"
            refine ih2 _ _ ⟨rfl, i + 1, .val (.int ((at_ : Int) + (k : Int) - (i : Int))), by omega, rfl, ?_⟩
            have e1 : (l.take (k + 1)).drop (k + 1 - (i + 1)) = l[k - i] :: (l.take (k + 1)).drop (k + 1 - i) := by
              rw [List.drop_eq_getElem_cons (by rw [List.length_take]; omega)]
              have e2 : k + 1 - (i + 1) = k - i := by omega
              have e3 : k + 1 - (i + 1) + 1 = k + 1 - i := by omega
              rw [e3]
              congr 1
              rw [List.getElem_take]
              congr 1
            rw [e1]
            have e4 : val (List.drop (k + 1 - i) (List.take (k + 1) l)) * 128 + l[k - i] % 128 = val (l[k - i] :: List.drop (k + 1 - i) (List.take (k + 1) l)) := by
              show _ = l[k - i] % 128 + 128 * _
              omega
            rw [e4]
            rfl
        walk_at "r"
        refine p_dec (fun h3 => ?_) (fun h3 => ?_)
        · walk_at "r"
          refine i_tup (hat k hkl2 _ rfl) ?_
          walk_at "r"
          refine p_dec (fun h4 => ?_) (fun h4 => ?_)
          · walk_at "r"
            rw [← hll, hh, if_pos (.inl ⟨by omega, h4⟩)] at q
            exact q
          · refine fin _ _ (fun z => h4 z.2) _ ?_
            exact fun _ _ => rfl
        · refine ⟨_, rfl, ?_⟩
          refine fin _ _ (fun z => h3 (by omega)) _ ?_
          exact fun _ _ => rfl
      · walk_at "r"
        refine ih _ _ ⟨rfl, k + 1, _, _, _, hkc, hkl2, rfl, fun j h3 h4 => ?_, rfl⟩
        by_cases e : j = k
        · subst e
          omega
        · exact hj j h3 (by omega)
theorem k_Reader___init__ : Sat Phi Gam ir_Reader___init__ tc_Reader___init__.N ["self", "row", "at"] s_Reader___init__ := by
  refine sat_spec (fun _ => rfl) ?_
  rintro ⟨n, bs, a⟩ vh R hn q
  dsimp only at hn q
  show wpB Phi Gam ir_Reader___init__ _ _ [.val (.ref n), .val (tupI bs), .val (.int a)] vh
  unfold ir_Reader___init__
  walk_at "r"
  refine put_go rfl (get_set hn) (Nat.le_of_ble_eq_true rfl) ?_
  walk_at "r"
  refine put_go rfl (get_set (get_set hn)) (Nat.le_of_ble_eq_true rfl) ?_
  walk_at "r"
  refine q _ _ ⟨rfl, get_set (get_set (get_set hn)), ?_⟩
  rw [List.set_set, List.set_set]
  exact fx_set
theorem k_Reader_next_number : Sat Phi Gam ir_Reader_next_number tc_Reader_next_number.N ["self"] s_Reader_next_number := by
  refine sat_specO (fun _ => rfl) ?_
  rintro ⟨n, bs, a, l⟩ vh R ⟨hn, hr⟩ q
  have hn : vh[n]? = some (.ins "Reader" FR [tupI bs, .int a, .int l]) := hn
  have hr : rowAt (bs, a) := hr
  dsimp only at q
  show wpB Phi Gam ir_Reader_next_number _ _ [.val (.ref n), .no] vh
  unfold ir_Reader_next_number
  refine b_cut (fun e h => e = [.val (.ref n), .no] ∧ Fx n vh h ∧ h[n]? = some (.ins "Reader" FR [tupI bs, .int a, .int a])) ?_ ?_
  · walk_at "r"
    exact hold ⟨rfl, fx_set, get_set hn⟩
  rintro _ vh1 ⟨rfl, f1, h1⟩
  walk_at "r"
  refine c_taken hr ?_
  cases e : rd (bs.drop a) with
  | none =>
    rw [e] at q
    exact q _ _ ⟨f1, rfl⟩
  | some ut =>
    obtain ⟨u, t⟩ := ut
    rw [e] at q
    show callK _ _ (.ok (.v (.tup [.int u, .int (a + t)]))) vh1
    walk_at "r"
    refine q _ _ ⟨fxT f1 fx_set, rfl, ?_⟩
    have := get_set (o := .ins "Reader" FR [tupI bs, .int ((a : Int) + (t : Int)), .int a]) h1
    exact this
theorem k_Reader_next_byte : Sat Phi Gam ir_Reader_next_byte tc_Reader_next_byte.N ["self"] s_Reader_next_byte := by
  refine sat_specO (fun _ => rfl) ?_
  rintro ⟨n, bs, a, l⟩ vh R ⟨hn, hr⟩ q
  have hn : vh[n]? = some (.ins "Reader" FR [tupI bs, .int a, .int l]) := hn
  obtain ⟨b1, b2, b3⟩ : rowAt (bs, a) := hr
  dsimp only at q b1 b2 b3
  have hlm : (List.map D.int bs).length = bs.length := List.length_map _
  show wpB Phi Gam ir_Reader_next_byte _ _ [.val (.ref n)] vh
  unfold ir_Reader_next_byte
  refine b_cut (fun e h => e = [.val (.ref n)] ∧ Fx n vh h ∧ h[n]? = some (.ins "Reader" FR [tupI bs, .int a, .int a])) ?_ ?_
  · walk_at "r"
    exact hold ⟨rfl, fx_set, get_set hn⟩
  rintro _ vh1 ⟨rfl, f1, h1⟩
  walk_at "r"
  refine p_dec (fun h => ?_) (fun h => ?_)
  · walk_at "r"
    rw [List.getElem?_eq_none (by omega)] at q
    exact q _ _ ⟨f1, rfl⟩
  · have hl : a < bs.length := by omega
    rw [List.getElem?_eq_getElem hl] at q
    walk_at "r"
    have h2 := get_set (o := .ins "Reader" FR [tupI bs, .int ((a : Int) + 1), .int a]) h1
    refine fld_go rfl h2 rfl ?_
    walk_at "r"
    have ha : atI (bs.map D.int) ((a : Int) + 1 - 1) = some (.int bs[a]) := by
      rw [show (a : Int) + 1 - 1 = a by omega]
      unfold atI ixN
      rw [hlm, if_pos (by omega), if_pos (by omega)]
      show (bs.map D.int)[(a : Int).toNat]? = _
      rw [show (a : Int).toNat = a by omega, List.getElem?_map, List.getElem?_eq_getElem hl]
      rfl
    refine i_tup ha ?_
    exact q _ _ ⟨fxT f1 fx_set, rfl, h2⟩
theorem k_is_input : Sat Phi Gam ir_is_input tc_is_input.N ["thing"] s_is_input := by
  refine sat_specF (fun _ => rfl) ?_
  rintro i vh R _ q
  show wpB Phi Gam ir_is_input _ _ [.val (.int i)] vh
  unfold ir_is_input
  walk_at "r"
  exact q
theorem k_are_inputs : Sat Phi Gam ir_are_inputs tc_are_inputs.N ["thing"] s_are_inputs := by
  refine sat_specF (fun _ => rfl) ?_
  rintro bs vh R ⟨hb, hl⟩ q
  show wpB Phi Gam ir_are_inputs _ _ [.val (tupI bs), .no, .no] vh
  unfold ir_are_inputs
  walk_at "r"
  refine p_dec (fun h1 => ?_) (fun h1 => ?_)
  · walk_at "r"
    refine lc_map (fun _ => .bl true) _ _ _ (fun d hd R q => ?_) ?_ ?_
    · obtain ⟨b, hbm, rfl⟩ := List.mem_map.mp hd
      walk_at "r"
      rw [decide_eq_true (hb b hbm)]
      exact q
    · rw [List.length_map]
      simp
      omega
    · walk_at "r"
      refine f_all (bs := bs.map fun _ => true) (by simp) ?_
      have e : (bs.map fun _ => true).all id = true := by simp
      (rw [e]; try rfl)
      exact q
  · rw [List.length_map] at h1
    omega
theorem k_check_inputs : Sat Phi Gam ir_check_inputs tc_check_inputs.N ["thing"] s_check_inputs := by
  refine sat_specF (fun _ => rfl) ?_
  rintro bs vh R h q
  show wpB Phi Gam ir_check_inputs _ _ [.val (tupI bs)] vh
  unfold ir_check_inputs
  walk_at "r"
  refine c_are_inputs h ?_
  walk_at "r"
  exact q
theorem k_check_input : Sat Phi Gam ir_check_input tc_check_input.N ["thing"] s_check_input := by
  refine sat_specF (fun _ => rfl) ?_
  rintro i vh R h q
  show wpB Phi Gam ir_check_input _ _ [.val (.int i)] vh
  unfold ir_check_input
  walk_at "r"
  refine p_nd h ?_
  walk_at "r"
  exact q
theorem k_guessed : Sat Phi Gam ir_guessed tc_guessed.N ["last", "ago", "hold"] s_guessed := by
  refine sat_specF (fun _ => rfl) ?_
  rintro ⟨l, a, h⟩ vh R _ q
  have q : R (.ok (.v (.int (gs l a h)))) vh := q
  show wpB Phi Gam ir_guessed _ _ [.val (oI l), .val (.int a), .val (.int h)] vh
  unfold ir_guessed
  unfold gs at q
  cases l with
  | none =>
    show wpB Phi Gam _ _ _ [.val .non, .val (.int a), .val (.int h)] vh
    walk_at "r"
    exact q
  | some b =>
    show wpB Phi Gam _ _ _ [.val (.int b), .val (.int a), .val (.int h)] vh
    dsimp only at q
    walk_at "r"
    refine p_dec (fun h1 => ?_) (fun h1 => ?_)
    · walk_at "r"
      rw [if_pos h1] at q
      exact q
    · walk_at "r"
      rw [if_neg h1] at q
      exact q
theorem k_guess : Sat Phi Gam ir_guess tc_guess.N ["last", "ago", "hold"] s_guess := by
  refine sat_specF (fun _ => rfl) ?_
  rintro ⟨l, a, h⟩ vh R ⟨hl, a0, a1, h0, h1⟩ q
  have q : R (.ok (.v (.int (gs l a h)))) vh := q
  dsimp only at hl a0 a1 h0 h1
  show wpB Phi Gam ir_guess _ _ [.val (oI l), .val (.int a), .val (.int h)] vh
  unfold ir_guess
  cases l with
  | none =>
    show wpB Phi Gam _ _ _ [.val .non, .val (.int a), .val (.int h)] vh
    walk_at "r"
    refine p_nd ⟨a0, a1⟩ ?_
    walk_at "r"
    refine p_nd ⟨h0, h1⟩ ?_
    walk_at "r"
    refine c_guessed (l := none) ?_
    exact q
  | some b =>
    show wpB Phi Gam _ _ _ [.val (.int b), .val (.int a), .val (.int h)] vh
    walk_at "r"
    refine c_check_input (hl b rfl) ?_
    walk_at "r"
    refine p_nd ⟨a0, a1⟩ ?_
    walk_at "r"
    refine p_nd ⟨h0, h1⟩ ?_
    walk_at "r"
    refine c_guessed (l := some b) ?_
    exact q
/-! ### runs, from the left -/
/-- one more of an item behind -/
def rsnoc (rs : List (Int × Nat)) (b : Int) : List (Int × Nat) := match rs.getLast? with
  | some (c, m) => if c = b then rs.dropLast ++ [(c, m + 1)] else rs ++ [(b, 1)]
  | none => [(b, 1)]
theorem rsnoc_nil {b : Int} : rsnoc [] b = [(b, 1)] := rfl
theorem rsnoc_app {rs : List (Int × Nat)} {c : Int} {m : Nat} {b : Int} : rsnoc (rs ++ [(c, m)]) b = if c = b then rs ++ [(c, m + 1)] else rs ++ [(c, m), (b, 1)] := by
  unfold rsnoc
  rw [show (rs ++ [(c, m)]).getLast? = some (c, m) by simp]
  dsimp only
  rw [List.dropLast_concat, List.append_assoc]
  rfl
theorem last_cases {α : Type} (l : List α) : l = [] ∨ ∃ i x, l = i ++ [x] := by
  rcases List.eq_nil_or_concat l with h | ⟨i, x, h⟩
  · exact .inl h
  · exact .inr ⟨i, x, by rw [h, List.concat_eq_append]⟩
theorem rle_last {f : List Int} {b : Int} : ∀ (m : Nat), f.getLast? ≠ some b → rle (f ++ List.replicate (m + 1) b) = rle f ++ [(b, m + 1)] := fun m h => rle_app (by omega) f h
/-- f is runs and a last run -/
theorem split_last : ∀ (f : List Int), f = [] ∨ ∃ (g : List Int) (b : Int) (m : Nat), f = g ++ List.replicate (m + 1) b ∧ g.getLast? ≠ some b
  | [] => .inl rfl
  | x :: f => by
    refine .inr ?_
    rcases split_last f with rfl | ⟨g, b, m, rfl, hg⟩
    · exact ⟨[], x, 0, rfl, by simp⟩
    · cases g with
      | nil =>
        by_cases e : x = b
        · subst e
          exact ⟨[], x, m + 1, rfl, by simp⟩
        · exact ⟨[x], b, m, rfl, by simpa using e⟩
      | cons y g =>
        exact ⟨x :: y :: g, b, m, rfl, by rw [List.getLast?_cons_cons]; exact hg⟩
theorem rle_snoc (f : List Int) (b : Int) : rle (f ++ [b]) = rsnoc (rle f) b := by
  rcases split_last f with rfl | ⟨g, c, m, rfl, hg⟩
  · rfl
  · rw [rle_last m hg, rsnoc_app]
    by_cases e : c = b
    · subst e
      rw [if_pos rfl, List.append_assoc, show List.replicate (m + 1) c ++ [c] = List.replicate (m + 1 + 1) c from List.replicate_succ'.symm, rle_last (m + 1) hg]
    · rw [if_neg e]
      have h := rle_last (f := g ++ List.replicate (m + 1) c) (b := b) 0 (by
        rw [List.replicate_succ', ← List.append_assoc]
        simpa using e)
      rw [show List.replicate (0 + 1) b = [b] from rfl] at h
      rw [h, rle_last m hg, List.append_assoc]
      rfl
theorem at_last {α : Type} {xs : List α} {x : α} : atI (xs ++ [x]) (-1) = some x := by
  unfold atI ixN
  simp
  rw [if_pos (by omega), show (-1 + ((xs.length : Int) + 1)).toNat = xs.length by omega]
  simp
theorem ix_last {α : Type} {xs : List α} {x : α} : ixN (xs ++ [x]).length (-1) = some xs.length := by
  unfold ixN
  simp
  omega
theorem k_runs_of : Sat Phi Gam ir_runs_of tc_runs_of.N ["inputs"] s_runs_of := by
  refine sat_specF (fun _ => rfl) ?_
  rintro bs vh R hl q
  have hl : bs.length ≤ 100000 := hl
  show wpB Phi Gam ir_runs_of _ _ [.val (tupI bs), .no, .no] vh
  unfold ir_runs_of
  walk_at "r"
  refine for_rule (fun rest e hp => hp = vh ∧ ∃ (f g : List Int) (s2 : Slot), bs = f ++ g ∧ rest = g.map D.int ∧ e = [.val (tupI bs), .own ((rle f).map runD), s2]) ?_ ?_ _ _ _ ⟨rfl, [], bs, _, rfl, rfl, rfl⟩
  · rintro _ _ ⟨rfl, f, g, s2, hfg, hr, rfl⟩
    cases g with
    | cons _ _ => cases hr
    | nil =>
      rw [List.append_nil] at hfg
      subst hfg
      walk_at "r"
      exact q
  · rintro d ds _ vh ⟨rfl, f, g, s2, hfg, hr, rfl⟩ IH
    cases g with
    | nil => cases hr
    | cons b g =>
      obtain ⟨rfl, rfl⟩ := List.cons.inj hr
      have hf : f.length < 100000 := by
        rw [hfg, List.length_append, List.length_cons] at hl
        omega
      have hrl := rle_len f
      have done : ∀ s2 : Slot, (rsnoc (rle f) b).map runD = (rle (f ++ [b])).map runD := fun _ => by rw [rle_snoc]
      refine ⟨_, rfl, ?_⟩
      rcases last_cases (rle f) with h0 | ⟨rs, ⟨c, m⟩, h0⟩
      · rw [h0]
        walk_at "r"
        refine p_dec (fun h1 => ?_) (fun _ => ?_)
        · simp at h1
        walk_at "r"
        refine ⟨by simp, ?_⟩
        refine IH _ _ ⟨rfl, f ++ [b], g, .val (.int b), by rw [hfg, List.append_assoc]; rfl, rfl, ?_⟩
        rw [rle_snoc, h0, rsnoc_nil]
        rfl
      · rw [h0, List.map_append, List.map_singleton]
        walk_at "r"
        refine p_dec (fun _ => ?_) (fun h1 => ?_)
        · walk_at "r"
          refine i_lst at_last ?_
          walk_at "r"
          refine p_dec (fun h2 => ?_) (fun h2 => ?_)
          · walk_at "r"
            refine i_lst at_last ?_
            walk_at "r"
            refine ⟨_, ix_last, ?_⟩
            refine IH _ _ ⟨rfl, f ++ [b], g, .val (.int b), by rw [hfg, List.append_assoc]; rfl, rfl, ?_⟩
            rw [rle_snoc, h0, rsnoc_app, if_pos h2, List.map_append, ← h2]
            simp [runD]
          · walk_at "r"
            rw [h0, List.length_append, List.length_singleton] at hrl
            refine ⟨by rw [List.length_append, List.length_map, List.length_singleton]; omega, ?_⟩
            refine IH _ _ ⟨rfl, f ++ [b], g, .val (.int b), by rw [hfg, List.append_assoc]; rfl, rfl, ?_⟩
            rw [rle_snoc, h0, rsnoc_app, if_neg h2, List.map_append]
            simp [runD]
        · rw [List.length_append, List.length_singleton] at h1
          omega
theorem fx_len {vh vh' : VH} {n : Nat} (f : Fx n vh vh') : vh'.length = vh.length := f.1
theorem flat_rep {b : Int} {m : Nat} : (List.replicate m [D.int b]).flatten = (List.replicate m b).map D.int := by
  induction m with
  | zero => rfl
  | succ m ih => rw [List.replicate_succ, List.flatten_cons, ih, List.replicate_succ, List.map_cons]; rfl
theorem enc_app {rs ss : List (Int × Nat)} : enc (rs ++ ss) = enc rs ++ enc ss := List.flatMap_append
theorem enc_len {rs : List (Int × Nat)} (h : ∀ r, r ∈ rs → r.2 < 1180591620717411303424) : (enc rs).length ≤ 11 * rs.length := by
  induction rs with
  | nil => simp [enc]
  | cons r rs ih =>
    have := ih fun s hs => h s (List.mem_cons_of_mem _ hs)
    have := fig_len10 (h r List.mem_cons_self)
    rw [enc_cons, List.length_append, List.length_cons, List.length_cons]
    omega
theorem k_run_row : Sat Phi Gam ir_run_row tc_run_row.N ["inputs"] s_run_row := by
  refine sat_specF (fun _ => rfl) ?_
  rintro bs vh R ⟨hb, hl⟩ q
  show wpB Phi Gam ir_run_row _ _ [.val (tupI bs), .no, .no, .no, .no] vh
  unfold ir_run_row
  have hrl := rle_len bs
  have hlm : ((rle bs).map runD).length = (rle bs).length := List.length_map _
  have hb2 : ∀ r, r ∈ rle bs → r.2 ≤ 100000 := fun r hr => by
    have := (rle_byt hb hr).2.2.2
    omega
  walk_at "r"
  refine c_runs_of hl ?_
  walk_at "r"
  refine c_figures_of (by omega) (by omega) ?_
  walk_at "r"
  rw [hlm, show ((rle bs).length : Int).toNat = (rle bs).length by omega]
  refine for_rule (fun rest e hp => hp = vh ∧ ∃ (rs ss : List (Int × Nat)) (s3 s4 : Slot), rle bs = rs ++ ss ∧ rest = ss.map runD ∧ e = [.val (tupI bs), .val (.lst ((rle bs).map runD)), .own ((fig (rle bs).length ++ enc rs).map D.int), s3, s4]) ?_ ?_ _ _ _ ⟨rfl, [], rle bs, _, _, rfl, rfl, by rw [show enc [] = [] from rfl, List.append_nil]⟩
  · rintro _ _ ⟨rfl, rs, ss, s3, s4, hs, hr, rfl⟩
    cases ss with
    | cons _ _ => cases hr
    | nil =>
      rw [List.append_nil] at hs
      walk_at "r"
      rw [← hs] at *
      exact q
  · rintro d ds _ vh ⟨rfl, rs, ss, s3, s4, hs, hr, rfl⟩ IH
    cases ss with
    | nil => cases hr
    | cons r ss =>
      obtain ⟨rfl, rfl⟩ := List.cons.inj hr
      obtain ⟨b, m⟩ := r
      have hm : m ≤ 100000 := hb2 (b, m) (by rw [hs]; simp)
      have he := enc_len (rs := rs) fun r hr => by have := hb2 r (by rw [hs]; exact List.mem_append_left _ hr); omega
      have hsl : rs.length + (ss.length + 1) = (rle bs).length := by rw [hs, List.length_append, List.length_cons]
      have hf := fig_len10 (n := (rle bs).length) (by omega)
      have hf2 := fig_len10 (n := m) (by omega)
      refine ⟨_, rfl, ?_⟩
      walk_at "r"
      refine ⟨by rw [List.length_map, List.length_append]; omega, ?_⟩
      walk_at "r"
      refine c_figures_of (by omega) (by omega) ?_
      walk_at "r"
      rw [show (m : Int).toNat = m by omega]
      refine ⟨by rw [List.length_append, List.length_map, List.length_map, List.length_singleton, List.length_append]; omega, ?_⟩
      refine IH _ _ ⟨rfl, rs ++ [(b, m)], ss, .val (.int b), .val (.int m), by rw [hs, List.append_assoc]; rfl, rfl, ?_⟩
      rw [enc_app]
      simp [enc, runD]
theorem k_input_row : Sat Phi Gam ir_input_row tc_input_row.N ["inputs"] s_input_row := by
  refine sat_specF (fun _ => rfl) ?_
  rintro bs vh R h q
  show wpB Phi Gam ir_input_row _ _ [.val (tupI bs)] vh
  unfold ir_input_row
  walk_at "r"
  refine c_check_inputs h ?_
  walk_at "r"
  refine c_run_row h ?_
  exact q
theorem prs_eb {bs f : List Int} {k p : Nat} (e : bs[p]? = none) : prs bs (k + 1) p f = .er p := by
  unfold prs
  rw [e]
theorem prs_en {bs f : List Int} {k p : Nat} {b : Int} (e : bs[p]? = some b) (e2 : rd (bs.drop (p + 1)) = none) : prs bs (k + 1) p f = .er (p + 1) := by
  unfold prs
  rw [e]
  dsimp only
  rw [e2]
theorem prs_bad {bs f : List Int} {k p t : Nat} {b m : Int} (e : bs[p]? = some b) (e2 : rd (bs.drop (p + 1)) = some (m, t)) (h : m = 0 ∨ 100000 < f.length + m ∨ f.getLast? = some b) : prs bs (k + 1) p f = .er p := by
  unfold prs
  rw [e]
  dsimp only
  rw [e2]
  dsimp only
  rw [if_pos h]
theorem prs_go {bs f : List Int} {k p t : Nat} {b m : Int} (e : bs[p]? = some b) (e2 : rd (bs.drop (p + 1)) = some (m, t)) (h : ¬ (m = 0 ∨ 100000 < f.length + m ∨ f.getLast? = some b)) : prs bs (k + 1) p f = prs bs k (p + 1 + t) (f ++ List.replicate m.toNat b) := by
  conv => lhs; unfold prs
  rw [e]
  dsimp only
  rw [e2]
  dsimp only
  rw [if_neg h]
theorem rd_le {bs : List Int} {p t : Nat} {u : Int} (hb : Byt bs) (hp : p ≤ bs.length) (h : rd (bs.drop p) = some (u, t)) : p + t ≤ bs.length ∧ 1 ≤ t := by
  have := rd_take (fun x hx => hb x (List.mem_of_mem_drop hx)) h
  rw [List.length_drop] at this
  omega
theorem Rdr.fx {n a l m : Nat} {bs : List Int} {vh vh' : VH} (h : Rdr n bs a l vh) (f : Fx m vh vh') (ne : n ≠ m) : Rdr n bs a l vh' := (f.2 n ne).trans h
theorem lst_nil {f : List Int} (h : ¬ 0 < (f.map D.int).length) : f = [] := by
  cases f with
  | nil => rfl
  | cons _ _ => simp at h
theorem lst_snoc {f : List Int} (h : 0 < (f.map D.int).length) : ∃ g b, f = g ++ [b] := by
  rcases last_cases f with rfl | h1
  · simp at h
  · exact h1
theorem k_taken_inputs : Sat Phi Gam ir_taken_inputs tc_taken_inputs.N ["reader"] s_taken_inputs := by
  refine sat_specO (fun _ => rfl) ?_
  rintro ⟨n, bs, a, l⟩ vh R ⟨hn, hr⟩ q
  have hn : vh[n]? = some (.ins "Reader" FR [tupI bs, .int a, .int l]) := hn
  have hr : rowAt (bs, a) := hr
  obtain ⟨hb, hl, ha⟩ := id hr
  dsimp only at q hb hl ha
  show wpB Phi Gam ir_taken_inputs _ _ [.val (.ref n), .no, .no, .no, .no, .no] vh
  unfold ir_taken_inputs
  have bad : ∀ p vh', red bs a = .er p → Fx n vh vh' → R (.exc "BadRow" [.int p]) vh' := fun p vh' e f => by
    rw [e] at q
    exact q _ _ ⟨f, rfl⟩
  walk_at "r"
  refine c_next_number hn hr (fun e vh1 f1 => ?_) (fun u t vh1 e f1 r1 => ?_)
  · exact bad a vh1 (by unfold red; rw [e]) f1
  have er : red bs a = prs bs u.toNat (a + t) [] := by
    unfold red
    rw [e]
  have hat := rd_le hb ha e
  walk_at "r"
  refine for_rule (fun rest e hp => Fx n vh hp ∧ ∃ (p l : Nat) (f : List Int) (s2 s3 s4 s5 : Slot), prs bs rest.length p f = red bs a ∧ Rdr n bs p l hp ∧ p ≤ bs.length ∧ f.length ≤ 100000 ∧ e = [.val (.ref n), .own (f.map D.int), s2, s3, s4, s5]) ?_ ?_ _ _ _ ⟨f1, a + t, a, [], _, _, _, _, by rw [List.length_map, List.length_range, er], r1, hat.1, by simp, rfl⟩
  · rintro _ vh2 ⟨f2, p, l2, f, s2, s3, s4, s5, hp, r2, hpl, hfl, rfl⟩
    have hp : Rs.ok f p = red bs a := hp
    walk_at "r"
    rw [← hp] at q
    exact q _ _ ⟨f2, rfl, l2, r2⟩
  · rintro d ds _ vh2 ⟨f2, p, l2, f, s2, s3, s4, s5, hp, r2, hpl, hfl, rfl⟩ IH
    rw [List.length_cons] at hp
    have r2' : vh2[n]? = some (.ins "Reader" FR [tupI bs, .int p, .int l2]) := r2
    have hlf : (f.map D.int).length = f.length := List.length_map _
    refine ⟨_, rfl, ?_⟩
    walk_at "r"
    refine c_next_byte r2 ⟨hb, hl, hpl⟩ (fun eb vh3 f3 => ?_) (fun b vh3 eb f3 r3 => ?_)
    · exact bad p vh3 (hp.symm.trans (prs_eb eb)) (fxT f2 f3)
    have hpl2 : p < bs.length := (List.getElem?_eq_some_iff.mp eb).1
    have r3' : vh3[n]? = some (.ins "Reader" FR [tupI bs, .int ((p + 1 : Nat) : Int), .int p]) := r3
    walk_at "r"
    refine c_next_number r3 ⟨hb, hl, hpl2⟩ (fun e vh4 f4 => ?_) (fun m t vh4 e f4 r4 => ?_)
    · exact bad (p + 1) vh4 (hp.symm.trans (prs_en eb e)) (fxT (fxT f2 f3) f4)
    have f5 := fxT (fxT f2 f3) f4
    have hpt := rd_le hb (show p + 1 ≤ bs.length from hpl2) e
    have hm := rd_nonneg e
    have er : (m = 0 ∨ 100000 < f.length + m ∨ f.getLast? = some b) → R (.exc "BadRow" [.int p]) vh4 := fun h => bad p vh4 (hp.symm.trans (prs_bad eb e h)) f5
    have go : ¬ (m = 0 ∨ 100000 < f.length + m ∨ f.getLast? = some b) → (f.map D.int).length + ((List.replicate m.toNat [D.int b]).flatten).length ≤ 16777216 ∧ ∀ s2 s3 s4 s5, forGo _ ds [.val (.ref n), .own (f.map D.int ++ (List.replicate m.toNat [D.int b]).flatten), s2, s3, s4, s5] vh4 _ := fun h => by
      have h1 : m ≠ 0 := fun z => h (.inl z)
      have h2 : ¬ 100000 < f.length + m := fun z => h (.inr (.inl z))
      refine ⟨by rw [flat_rep, List.length_map, List.length_map, List.length_replicate]; omega, fun s2 s3 s4 s5 => ?_⟩
      refine IH _ _ ⟨f5, p + 1 + t, p + 1, f ++ List.replicate m.toNat b, s2, s3, s4, s5, ?_, r4, hpt.1, by rw [List.length_append, List.length_replicate]; omega, by rw [flat_rep, List.map_append]⟩
      rw [← prs_go eb e h]
      exact hp
    walk_at "r"
    refine p_dec (fun h1 => ?_) (fun h1 => ?_)
    · walk_at "r"
      exact er (.inl h1)
    walk_at "r"
    refine p_dec (fun h2 => ?_) (fun h2 => ?_)
    · walk_at "r"
      exact er (.inr (.inl (by omega)))
    walk_at "r"
    refine p_dec (fun h3 => ?_) (fun h3 => ?_)
    · obtain ⟨g, c, rfl⟩ := lst_snoc (by simpa using h3)
      walk_at "r"
      refine i_lst (d := .int c) (by rw [List.map_append]; exact at_last) ?_
      walk_at "r"
      refine p_dec (fun h4 => ?_) (fun h4 => ?_)
      · walk_at "r"
        exact er (.inr (.inr (by rw [h4]; simp)))
      · walk_at "r"
        obtain ⟨g1, g2⟩ := go (by
          rintro (z | z | z)
          · exact h1 z
          · omega
          · simp at z
            exact h4 z)
        exact ⟨g1, g2 _ _ _ _⟩
    · have hf0 := lst_nil (by simpa using h3)
      subst hf0
      walk_at "r"
      obtain ⟨g1, g2⟩ := go (by
        rintro (z | z | z)
        · exact h1 z
        · omega
        · simp at z)
      exact ⟨g1, g2 _ _ _ _⟩
theorem k_read_inputs : Sat Phi Gam ir_read_inputs tc_read_inputs.N ["row", "at"] s_read_inputs := by
  refine sat_specO (fun _ => rfl) ?_
  rintro ⟨bs, a⟩ vh R hr q
  have q : ∀ vh', Gr vh vh' → R (outQ (red bs a)) vh' := fun vh' g => q _ vh' ⟨g, rfl⟩
  show wpB Phi Gam ir_read_inputs _ _ [.val (tupI bs), .val (.int a), .no, .no] vh
  unfold ir_read_inputs
  walk_at "r"
  refine c_check_place hr ?_
  walk_at "r"
  refine c_init (by simp) fun vh1 r1 f1 => ?_
  refine ⟨rfl, ?_⟩
  walk_at "r"
  refine c_taken_inputs r1 hr (fun p e vh2 f2 => ?_) (fun f p l vh2 e f2 r2 => ?_)
  · rw [e] at q
    exact q _ (Gr.of (fxT f1 f2))
  · rw [e] at q
    have r2' : vh2[vh.length]? = some (.ins "Reader" FR [tupI bs, .int p, .int l]) := r2
    walk_at "r"
    exact q _ (Gr.of (fxT f1 f2))
theorem k_law_read_told : Sat Phi Gam ir__law_read_told tc__law_read_told.N ["row", "at"] s__law_read_told := by
  refine sat_spec (fun _ => rfl) ?_
  rintro ⟨bs, a⟩ vh R hr q
  have q : ∀ vh', Gr vh vh' → R (.ok (.v (toldD (red bs a)))) vh' := fun vh' g => q _ vh' ⟨rfl, g⟩
  show wpB Phi Gam ir__law_read_told _ _ [.val (tupI bs), .val (.int a), .no] vh
  unfold ir__law_read_told
  walk_at "r"
  refine c_read_inputs hr fun vh1 g1 => ?_
  have q := q vh1 g1
  cases e : red bs a with
  | er p =>
    rw [e] at q
    unfold outQ callK
    dsimp only
    walk_at "r"
    exact q
  | ok f p =>
    rw [e] at q
    unfold outQ callK
    dsimp only
    walk_at "r"
    exact q
theorem cut_mid {α : Type} {xs : List α} {a p : Nat} (h1 : a ≤ p) (h2 : p ≤ xs.length) : cutL xs (some (a : Int)) (some (p : Int)) = (xs.drop a).take (p - a) := by
  unfold cutL HT.sIx
  dsimp only
  rw [if_neg (by omega), if_neg (by omega)]
  rw [show min ((a : Int)).toNat xs.length = a by omega, show min ((p : Int)).toNat xs.length = p by omega]
theorem cut_m1 {α : Type} {xs : List α} : cutL xs (some (-1)) none = xs.drop (xs.length - 1) := by
  unfold cutL HT.sIx
  dsimp only
  rw [if_pos (by omega), List.take_of_length_le]
  · rw [show (-1 + (xs.length : Int)).toNat = xs.length - 1 by omega]
  · rw [List.length_drop]
    exact Nat.le_refl _
theorem last_ints {f : List Int} : cutL (f.map D.int) (some (-1)) none = (f.drop (f.length - 1)).map D.int := by rw [cut_m1, List.length_map, List.map_drop]
theorem eqD_lstI {xs ys : List Int} : eqD (.lst (xs.map D.int)) (.lst (ys.map D.int)) = decide (xs = ys) := by
  unfold eqD
  exact eqDs_ints xs ys
theorem last_eq {f : List Int} {b : Int} : eqD (.lst (cutL (f.map D.int) (some (-1)) none)) (.lst [.int b]) = decide (f.getLast? = some b) := by
  rw [last_ints, show [D.int b] = [b].map D.int from rfl, eqD_lstI]
  rcases last_cases f with rfl | ⟨g, c, rfl⟩
  · simp
  · simp
theorem okD_str {n : Nat} {x : Str} (h : PyData.canLay0 (.str x) = true) : okD n (.str x) = true := by cases n <;> exact h
theorem lay_told : PyData.canLay0 (.str "told") = true := by decide +kernel
theorem lay_bad : PyData.canLay0 (.str "bad") = true := by decide +kernel
theorem ok_told {f : List Int} {p : Int} : okD 64 (.tup [.str "told", .tup [tupI f, .int p]]) = true := by
  show (okD 63 (.str "told") && (okD 63 (.tup [tupI f, .int p]) && true)) = true
  rw [okD_str lay_told]
  show (true && ((okD 62 (tupI f) && (okD 62 (.int p) && true)) && true)) = true
  rw [show okD 62 (tupI f) = true from okD_tupI]
  rfl
theorem pl_bad {p : Int} : plD 4 (.tup [.str "bad", .int p]) = true := by
  show (decide (2 ≤ 16777216) && ([D.str "bad", .int p].all (plD 3))) = true
  rw [List.all_cons, show plD 3 (.str "bad") = true from lay_bad]
  rfl
theorem k_law_parsed : Sat Phi Gam ir__law_parsed tc__law_parsed.N ["row", "at"] s__law_parsed := by
  refine sat_specF (fun _ => rfl) ?_
  rintro ⟨bs, a⟩ vh R hr q
  have hr : rowAt (bs, a) := hr
  obtain ⟨hb, hl, ha⟩ := id hr
  have q : R (.ok (.v (parD (red bs a)))) vh := q
  dsimp only at hb hl ha
  have hlm : (bs.map D.int).length = bs.length := List.length_map _
  show wpB Phi Gam ir__law_parsed _ _ [.val (tupI bs), .val (.int a), .no, .no, .no, .no, .no] vh
  unfold ir__law_parsed
  have bad : ∀ p, red bs a = .er p → R (.ok (.v (.tup [.non, .int 0, .int p]))) vh := fun p e => by
    rw [e] at q
    exact q
  walk_at "r"
  refine c__law_read hr ?_
  cases e : rd (bs.drop a) with
  | none =>
    unfold dataR
    dsimp only
    walk_at "r"
    exact bad a (by unfold red; rw [e])
  | some ut =>
    obtain ⟨u, t⟩ := ut
    have er : red bs a = prs bs u.toNat (a + t) [] := by
      unfold red
      rw [e]
    have hat := rd_le hb ha e
    have hu := rd_nonneg e
    unfold dataR
    dsimp only
    walk_at "r"
    generalize hN : (if ((bs.map D.int).length : Int) + 1 < u then ((bs.map D.int).length : Int) + 1 else u).toNat = N
    have hN1 : (bs.length + 1 < u ∧ N = bs.length + 1) ∨ (u ≤ bs.length + 1 ∧ N = u.toNat) := by
      rw [← hN, hlm]
      split <;> omega
    refine for_rule (fun rest e hp => hp = vh ∧ ∃ (k p : Nat) (f : List Int) (s5 s6 : Slot), k + rest.length = N ∧ prs bs (u.toNat - k) p f = red bs a ∧ k ≤ p ∧ p ≤ bs.length ∧ f.length ≤ 100000 ∧ e = [.val (tupI bs), .val (.int a), .val (.tup [.int u, .int ((a : Int) + (t : Int))]), .val (.int p), .own (f.map D.int), s5, s6]) ?_ ?_ _ _ _ ⟨rfl, 0, a + t, [], _, _, by simp, by rw [er]; rfl, Nat.zero_le _, hat.1, by simp, rfl⟩
    · rintro _ _ ⟨rfl, k, p, f, s5, s6, hk, hp, hkp, hpl, hfl, rfl⟩
      rw [List.length_nil] at hk
      have hz : u.toNat - k = 0 := by omega
      rw [hz] at hp
      have hp : Rs.ok f p = red bs a := hp
      walk_at "r"
      rw [← hp] at q
      exact q
    · rintro d ds _ vh ⟨rfl, k, p, f, s5, s6, hk, hp, hkp, hpl, hfl, rfl⟩ IH
      rw [List.length_cons] at hk
      obtain ⟨r, hr1⟩ : ∃ r, u.toNat - k = r + 1 := ⟨u.toNat - k - 1, by omega⟩
      rw [hr1] at hp
      refine ⟨_, rfl, ?_⟩
      walk_at "r"
      refine p_dec (fun h1 => ?_) (fun h1 => ?_)
      · walk_at "r"
        exact bad p (hp.symm.trans (prs_eb (List.getElem?_eq_none (by omega))))
      have hpl2 : p < bs.length := by omega
      obtain ⟨b, eb⟩ : ∃ b, bs[p]? = some b := ⟨_, List.getElem?_eq_getElem hpl2⟩
      have ab : atI (bs.map D.int) (p : Int) = some (.int b) := by
        unfold atI ixN
        rw [hlm, if_pos (by omega), if_pos (by omega)]
        show (bs.map D.int)[(p : Int).toNat]? = _
        rw [show (p : Int).toNat = p by omega, List.getElem?_map, eb]
        rfl
      walk_at "r"
      rw [show ((p : Int) + 1) = ((p + 1 : Nat) : Int) by omega]
      refine c__law_read ⟨hb, hl, hpl2⟩ ?_
      cases e : rd (bs.drop (p + 1)) with
      | none =>
        unfold dataR
        dsimp only
        walk_at "r"
        rw [show ((p : Int) + 1) = ((p + 1 : Nat) : Int) by omega]
        exact bad (p + 1) (hp.symm.trans (prs_en eb e))
      | some mt =>
        obtain ⟨m, t2⟩ := mt
        have hm := rd_nonneg e
        have hpt := rd_le hb (show p + 1 ≤ bs.length from hpl2) e
        have hlf : (f.map D.int).length = f.length := List.length_map _
        have er2 : (m = 0 ∨ 100000 < f.length + m ∨ f.getLast? = some b) → R (.ok (.v (.tup [.non, .int 0, .int p]))) vh := fun h => bad p (hp.symm.trans (prs_bad eb e h))
        unfold dataR
        dsimp only
        walk_at "r"
        refine p_dec (fun h2 => ?_) (fun h2 => ?_)
        · walk_at "r"
          exact er2 (.inl h2)
        walk_at "r"
        refine p_dec (fun h3 => ?_) (fun h3 => ?_)
        · walk_at "r"
          exact er2 (.inr (.inl (by omega)))
        walk_at "r"
        refine i_tup ab ?_
        walk_at "r"
        · rw [last_eq]
          refine p_dec (fun h4 => ?_) (fun h4 => ?_)
          · walk_at "r"
            exact er2 (.inr (.inr h4))
          · walk_at "r"
            refine i_tup ab ?_
            walk_at "r"
            refine ⟨by rw [flat_rep, List.length_map, List.length_map, List.length_replicate]; omega, ?_⟩
            walk_at "r"
            have hc : ¬ (m = 0 ∨ 100000 < f.length + m ∨ f.getLast? = some b) := by
              rintro (z | z | z)
              · exact h2 z
              · omega
              · exact h4 z
            refine IH _ _ ⟨rfl, k + 1, p + 1 + t2, f ++ List.replicate m.toNat b, .val d, .val (.tup [.int m, .int (((p + 1 : Nat) : Int) + (t2 : Int))]), by omega, ?_, by omega, hpt.1, by rw [List.length_append, List.length_replicate]; omega, ?_⟩
            · rw [show u.toNat - (k + 1) = r by omega, ← prs_go eb e hc]
              exact hp
            · rw [flat_rep, List.map_append]
              rfl
        · rw [last_ints]
          exact okD_lstI
theorem k_law_is_told : Sat Phi Gam ir__law_is_told tc__law_is_told.N ["row", "at"] s__law_is_told := by
  refine sat_spec (fun _ => rfl) ?_
  rintro ⟨bs, a⟩ vh R hr q
  have hr : rowAt (bs, a) := hr
  have q : ∀ vh', Gr vh vh' → R (.ok (.v (.bl true))) vh' := fun vh' g => q _ vh' ⟨rfl, g⟩
  show wpB Phi Gam ir__law_is_told _ _ [.val (tupI bs), .val (.int a), .no, .no, .no, .no] vh
  unfold ir__law_is_told
  walk_at "r"
  refine c__law_parsed hr ?_
  cases e : red bs a with
  | er p =>
    unfold parD
    dsimp only
    walk_at "r"
    refine c__law_read_told hr fun vh1 g1 => ?_
    rw [e]
    unfold toldD
    dsimp only
    walk_at "r"
    refine c__law_is (m := 4) rfl pl_bad ?_
    exact q _ g1
  | ok f p =>
    obtain ⟨h1, h2, h3, h4, h5⟩ := red_row hr.1 hr.2.2 e
    unfold parD
    dsimp only
    walk_at "r"
    refine c__law_read_told hr fun vh1 g1 => ?_
    rw [e]
    unfold toldD
    dsimp only
    walk_at "r"
    · refine p_ne (eqD_refl 64 _ ok_told) ?_
      walk_at "r"
      refine c_input_row ⟨h3, h4⟩ ?_
      walk_at "r"
      · rw [cutL_map, cut_mid h1 h2, ← h5]
        rw [show eqD (tupI (rowR (rle f))) (tupI (rowR (rle f))) = true from by rw [eqD_tupI]; exact decide_eq_true rfl]
        exact q _ g1
      · rw [cutL_map]
        exact okD_tupI
    · exact ok_told
    · exact ok_told
theorem tup_len {bs : List Int} : (bs.map D.int).length = bs.length := List.length_map _
theorem byt_cut {bs : List Int} {lo hi : Option Int} (h : Byt bs) : Byt (cutL bs lo hi) := fun x hx => h x (cutL_mem hx)
theorem byt_one {b : Int} (h : 0 ≤ b ∧ b < 256) : Byt [b] := fun x hx => by
  rw [List.mem_singleton] at hx
  subst hx
  exact h
theorem k_law_spoilt : Sat Phi Gam ir__law_spoilt tc__law_spoilt.N ["hand", "row"] s__law_spoilt := by
  refine sat_spec (fun _ => rfl) ?_
  rintro ⟨n, bs⟩ vh R ⟨hd, hb, hl⟩ q
  have hd : Hd n vh := hd
  have hb : Byt bs := hb
  have hl : bs.length ≤ 250000 := hl
  have q : ∀ (cs : List Int) vh', Byt cs → cs.length ≤ bs.length + 4 → Hd n vh' → Fx n vh vh' → R (.ok (.v (tupI cs))) vh' := fun i vh' h1 h2 h3 h4 => q _ vh' ⟨⟨i, rfl, h1, h2⟩, h3, h4⟩
  show wpB Phi Gam ir__law_spoilt _ _ [.val (.ref n), .val (tupI bs), .no, .no] vh
  unfold ir__law_spoilt
  have hlm : (bs.map D.int).length = bs.length := List.length_map _
  walk_at "r"
  refine c__law_draw hd (by decide) fun w vh1 w0 w1 hd1 f1 => ?_
  walk_at "r"
  refine c__law_draw hd1 (by omega) fun a vh2 a0 a1 hd2 f2 => ?_
  have f := fxT f1 f2
  have ct : (cutL bs none (some a)).length ≤ a.toNat := by
    rw [cut_take a0, List.length_take]
    exact Nat.min_le_left _ _
  have cd : (cutL bs (some a) none).length = bs.length - a.toNat := by rw [cut_drop a0, List.length_drop]
  have cd1 : (cutL bs (some (a + 1)) none).length = bs.length - (a + 1).toNat := by rw [cut_drop (by omega), List.length_drop]
  have m1 := cutL_map D.int bs none (some a)
  have m2 := cutL_map D.int bs (some a) none
  have m3 := cutL_map D.int bs (some (a + 1)) none
  walk_at "r"
  refine p_dec (fun h => ?_) (fun h => ?_)
  · walk_at "r"
    refine c__law_byte hd2 fun x i vh3 ex i0 i1 hd3 f3 => ?_
    walk_at "r"
    · rw [ex, m1, m3]
      have := q (cutL bs none (some a) ++ [i] ++ cutL bs (some (a + 1)) none) vh3 (byt_app (byt_app (byt_cut hb) (byt_one ⟨i0, i1⟩)) (byt_cut hb)) (by rw [List.length_append, List.length_append, List.length_singleton]; omega) hd3 (fxT f f3)
      rw [tupI, List.map_append, List.map_append] at this
      exact this
    all_goals (simp only [m1, m3, List.length_append, List.length_singleton, List.length_map]; omega)
  walk_at "r"
  refine p_dec (fun h => ?_) (fun h => ?_)
  · walk_at "r"
    refine c__law_byte hd2 fun x i vh3 ex i0 i1 hd3 f3 => ?_
    walk_at "r"
    · rw [ex, m1, m2]
      have := q (cutL bs none (some a) ++ [i] ++ cutL bs (some a) none) vh3 (byt_app (byt_app (byt_cut hb) (byt_one ⟨i0, i1⟩)) (byt_cut hb)) (by rw [List.length_append, List.length_append, List.length_singleton]; omega) hd3 (fxT f f3)
      rw [tupI, List.map_append, List.map_append] at this
      exact this
    all_goals (simp only [m1, m2, List.length_append, List.length_singleton, List.length_map]; omega)
  walk_at "r"
  refine p_dec (fun h => ?_) (fun h => ?_)
  · walk_at "r"
    · rw [m1, m3, ← List.map_append]
      exact q _ vh2 (byt_app (byt_cut hb) (byt_cut hb)) (by rw [List.length_append]; omega) hd2 f
    all_goals (simp only [m1, m3, List.length_append, List.length_map]; omega)
  walk_at "r"
  refine p_dec (fun h => ?_) (fun h => ?_)
  · walk_at "r"
    rw [m1]
    exact q _ vh2 (byt_cut hb) (by omega) hd2 f
  · walk_at "r"
    refine c__law_bytes hd2 (by omega) fun x cs vh3 ex hc hcl hd3 f3 => ?_
    walk_at "r"
    rw [ex]
    refine ⟨_, _, rfl, rfl, ?_⟩
    refine b_addT (xs := bs.map D.int) (ys := cs.map D.int) (by rw [List.length_map, List.length_map]; omega) ?_
    rw [← List.map_append]
    exact q _ vh3 (byt_app hb hc) (by rw [List.length_append]; omega) hd3 (fxT f f3)
theorem k_law_runs : Sat Phi Gam ir__law_runs tc__law_runs.N ["hand"] s__law_runs := by
  refine sat_spec (fun _ => rfl) ?_
  rintro n vh R ⟨hd, _⟩ q
  have hd : Hd n vh := hd
  have q : ∀ (x : DV) rs vh', x.d = lstR rs → rs.length ≤ 12 → (∀ r, r ∈ rs → 0 ≤ r.1 ∧ r.1 < 256 ∧ r.2 ≤ 20000) → (exp rs).length ≤ 18600 → Hd n vh' → Fx n vh vh' → R (.ok x) vh' := fun x rs vh' h0 h1 h2 h3 h4 h5 => q x vh' ⟨⟨rs, h0, h1, h2, h3⟩, h4, h5⟩
  show wpB Phi Gam ir__law_runs _ _ [.val (.ref n), .no, .no, .no, .no] vh
  unfold ir__law_runs
  walk_at "r"
  refine c__law_draw hd (by decide) fun w vh1 w0 w1 hd1 f1 => ?_
  walk_at "r"
  refine c__law_draw hd1 (by decide) fun a vh2 a0 a1 hd2 f2 => ?_
  have f := fxT f1 f2
  walk_at "r"
  refine for_rule (fun rest e h => Hd n h ∧ Fx n vh h ∧ ∃ (rs : List (Int × Nat)) (s3 s4 : Slot), rs.length + rest.length = a.toNat ∧ (∀ r, r ∈ rs → 0 ≤ r.1 ∧ r.1 < 256 ∧ r.2 ≤ 300) ∧ (exp rs).length ≤ 300 * rs.length ∧ e = [.val (.ref n), .val (.int w), .own (rs.map runD), s3, s4]) ?_ ?_ _ _ _ ⟨hd2, f, [], .no, .no, by simp, fun _ h => (by cases h), by simp [exp], rfl⟩
  · rintro _ vh3 ⟨hd3, f3, rs, s3, s4, hl, hr, he, rfl⟩
    rw [List.length_nil] at hl
    have fin : R (.ok (.fr (rs.map runD))) vh3 := q _ rs _ rfl (by omega) (fun r h => by have := hr r h; omega) (by omega) hd3 f3
    walk_at "r"
    refine p_dec (fun h1 => ?_) (fun h1 => ?_)
    · walk_at "r"
      refine p_dec (fun h2 => ?_) (fun h2 => ?_)
      · cases rs with
        | nil => simp at h2
        | cons r rs =>
          obtain ⟨b, m⟩ := r
          have hb := hr (b, m) List.mem_cons_self
          walk_at "r"
          refine i_lst (d := runD (b, m)) (by unfold atI ixN; simp) ?_
          walk_at "r"
          refine i_lst (d := runD (b, m)) (by unfold atI ixN; simp) ?_
          walk_at "r"
          refine ⟨0, by unfold ixN; simp, ?_⟩
          walk_at "r"
          refine q _ ((b, 15000 + m) :: rs) _ ?_ (by rw [List.length_cons] at *; omega) (fun r h => ?_) ?_ hd3 f3
          · show D.lst _ = D.lst _
            rw [List.map_cons]
            simp [runD]
          · rcases List.mem_cons.mp h with rfl | h
            · dsimp only at hb ⊢
              omega
            · have := hr r (List.mem_cons_of_mem _ h)
              omega
          · rw [exp_cons, List.length_append, List.length_replicate] at he ⊢
            rw [List.length_cons] at he hl
            dsimp only at he ⊢
            omega
      · walk_at "r"
        exact fin
    · walk_at "r"
      exact fin
  · rintro d ds _ vh3 ⟨hd3, f3, rs, s3, s4, hl, hr, he, rfl⟩ IH
    rw [List.length_cons] at hl
    refine ⟨_, rfl, ?_⟩
    walk_at "r"
    refine c__law_draw hd3 (by decide) fun i vh4 i0 i1 hd4 f4 => ?_
    walk_at "r"
    obtain ⟨z, hz, hm⟩ := atI_ok (xs := [D.int 1, .int 4, .int 300]) i0 i1
    refine i_lst hz ?_
    obtain ⟨z, rfl, z1, z2⟩ : ∃ k : Int, z = .int k ∧ 1 ≤ k ∧ k ≤ 300 := by
      simp only [List.mem_cons, List.not_mem_nil, or_false] at hm
      rcases hm with rfl | rfl | rfl <;> exact ⟨_, rfl, by omega, by omega⟩
    walk_at "r"
    refine c__law_draw hd4 (by omega) fun j vh5 j0 j1 hd5 f5 => ?_
    walk_at "r"
    refine c__law_byte hd5 fun x b vh6 ex b0 b1 hd6 f6 => ?_
    walk_at "r"
    refine ⟨by rw [List.length_map]; omega, ?_⟩
    rw [ex]
    refine IH _ _ ⟨hd6, fxT (fxT (fxT f3 f4) f5) f6, rs ++ [(b, (1 + j).toNat)], .val d, .val (.int (1 + j)), by rw [List.length_append, List.length_singleton]; omega, fun r h => ?_, ?_, ?_⟩
    · rcases List.mem_append.mp h with h | h
      · exact hr r h
      · rw [List.mem_singleton] at h
        subst h
        dsimp only
        omega
    · rw [show exp (rs ++ [(b, (1 + j).toNat)]) = exp rs ++ (List.replicate (1 + j).toNat b ++ []) from List.flatMap_append, List.append_nil, List.length_append, List.length_replicate, List.length_append, List.length_singleton]
      omega
    · rw [List.map_append]
      show _ = [Slot.val (.ref n), Slot.val (.int w), Slot.own (rs.map runD ++ [.tup [.int b, .int ((1 + j).toNat : Int)]]), Slot.val d, Slot.val (.int (1 + j))]
      rw [Int.toNat_of_nonneg (by omega)]
      rfl
theorem exp_app {rs ss : List (Int × Nat)} : exp (rs ++ ss) = exp rs ++ exp ss := List.flatMap_append
theorem run_len {rs : List (Int × Nat)} : (rs.map runD).length = rs.length := List.length_map _
theorem k_law_ticks : Sat Phi Gam ir__law_ticks tc__law_ticks.N ["runs"] s__law_ticks := by
  refine sat_specF (fun _ => rfl) ?_
  rintro rs vh R hl q
  have hl : (exp rs).length ≤ 100000 := hl
  show wpB Phi Gam ir__law_ticks _ _ [.val (lstR rs), .no, .no, .no] vh
  unfold ir__law_ticks
  walk_at "r"
  refine for_rule (fun rest e hp => hp = vh ∧ ∃ (as ss : List (Int × Nat)) (s2 s3 : Slot), rs = as ++ ss ∧ rest = ss.map runD ∧ e = [.val (lstR rs), .own ((exp as).map D.int), s2, s3]) ?_ ?_ _ _ _ ⟨rfl, [], rs, .no, .no, rfl, rfl, rfl⟩
  · rintro _ _ ⟨rfl, as, ss, s2, s3, hs, hr, rfl⟩
    cases ss with
    | cons _ _ => cases hr
    | nil =>
      rw [List.append_nil] at hs
      subst hs
      walk_at "r"
      exact q
  · rintro d ds _ vh ⟨rfl, as, ss, s2, s3, hs, hr, rfl⟩ IH
    cases ss with
    | nil => cases hr
    | cons r ss =>
      obtain ⟨rfl, rfl⟩ := List.cons.inj hr
      obtain ⟨b, m⟩ := r
      have hm : (exp as).length + m ≤ 100000 := by
        rw [hs, exp_app, exp_cons, List.length_append, List.length_append, List.length_replicate] at hl
        dsimp only at hl
        omega
      refine ⟨_, rfl, ?_⟩
      walk_at "r"
      rw [show (m : Int).toNat = m by omega]
      refine ⟨by rw [flat_rep, List.length_map, List.length_map, List.length_replicate]; omega, ?_⟩
      refine IH _ _ ⟨rfl, as ++ [(b, m)], ss, .val (.int b), .val (.int m), by rw [hs, List.append_assoc]; rfl, rfl, ?_⟩
      rw [exp_app, flat_rep]
      simp [exp]
theorem k_law_run_bytes : Sat Phi Gam ir__law_run_bytes tc__law_run_bytes.N ["runs"] s__law_run_bytes := by
  refine sat_specF (fun _ => rfl) ?_
  rintro rs vh R ⟨hl, hm⟩ q
  show wpB Phi Gam ir__law_run_bytes _ _ [.val (lstR rs), .no, .no, .no] vh
  unfold ir__law_run_bytes
  have hlm : (rs.map runD).length = rs.length := List.length_map _
  walk_at "r"
  refine c__law_whole (by omega) (by omega) ?_
  walk_at "r"
  rw [hlm, show (rs.length : Int).toNat = rs.length by omega]
  refine for_rule (fun rest e hp => hp = vh ∧ ∃ (as ss : List (Int × Nat)) (s3 s4 : Slot), rs = as ++ ss ∧ rest = ss.map runD ∧ e = [.val (lstR rs), .own ((fig rs.length ++ enc as).map D.int), s3, s4]) ?_ ?_ _ _ _ ⟨rfl, [], rs, .no, .no, rfl, rfl, by rw [show enc [] = [] from rfl, List.append_nil]⟩
  · rintro _ _ ⟨rfl, as, ss, s3, s4, hs, hr, rfl⟩
    cases ss with
    | cons _ _ => cases hr
    | nil =>
      rw [List.append_nil] at hs
      walk_at "r"
      rw [← hs] at *
      exact q
  · rintro d ds _ vh ⟨rfl, as, ss, s3, s4, hs, hr, rfl⟩ IH
    cases ss with
    | nil => cases hr
    | cons r ss =>
      obtain ⟨rfl, rfl⟩ := List.cons.inj hr
      obtain ⟨b, m⟩ := r
      have hm0 : m ≤ 9223372036854775808 := hm (b, m) (by rw [hs]; simp)
      have he := enc_len (rs := as) fun r hr => by have := hm r (by rw [hs]; exact List.mem_append_left _ hr); omega
      have hsl : as.length + (ss.length + 1) = rs.length := by rw [hs, List.length_append, List.length_cons]
      have hf := fig_len10 (n := rs.length) (by omega)
      have hf2 := fig_len10 (n := m) (by omega)
      refine ⟨_, rfl, ?_⟩
      walk_at "r"
      refine ⟨by rw [List.length_map, List.length_append]; omega, ?_⟩
      walk_at "r"
      refine c__law_whole (by omega) (by omega) ?_
      walk_at "r"
      rw [show (m : Int).toNat = m by omega]
      refine ⟨by rw [List.length_append, List.length_map, List.length_map, List.length_singleton, List.length_append]; omega, ?_⟩
      refine IH _ _ ⟨rfl, as ++ [(b, m)], ss, .val (.int b), .val (.int m), by rw [hs, List.append_assoc]; rfl, rfl, ?_⟩
      rw [enc_app]
      simp [enc, runD]
theorem same_ix {l : List Int} {i j : Nat} (hi : i < l.length) (hj : j < l.length) (e : i = j) : l[i] = l[j] := by
  subst e
  rfl
theorem eq_rep {b : Int} {l : List Int} (h : ∀ x, x ∈ l → x = b) : l = List.replicate l.length b := List.eq_replicate_iff.mpr ⟨rfl, h⟩
theorem k_law_input_bytes : Sat Phi Gam ir__law_input_bytes tc__law_input_bytes.N ["inputs"] s__law_input_bytes := by
  refine sat_specF (fun _ => rfl) ?_
  rintro bs vh R hl q
  have hl : bs.length ≤ 100000 := hl
  show wpB Phi Gam ir__law_input_bytes _ _ [.val (tupI bs), .no, .no, .no] vh
  unfold ir__law_input_bytes
  have hlm : (bs.map D.int).length = bs.length := List.length_map _
  have hat : ∀ (k : Nat) (h : k < bs.length) (i : Int), i = k → atI (bs.map D.int) i = some (.int bs[k]) := fun k h i e => by
    subst e
    unfold atI ixN
    rw [hlm, if_pos (by omega), if_pos (by omega)]
    show (bs.map D.int)[(k : Int).toNat]? = _
    rw [show (k : Int).toNat = k by omega, List.getElem?_map, List.getElem?_eq_getElem h]
    rfl
  walk_at "r"
  rw [hlm, show ((bs.length : Int) + 1 - 1).toNat = bs.length by omega]
  refine for_rule (fun rest e hp => hp = vh ∧ ∃ (A g : Nat) (s3 : Slot), A ≤ bs.length ∧ rest = ((List.range bs.length).drop A).map (fun (i : Nat) => D.int (1 + (i : Int))) ∧ g ≤ A ∧ (A = bs.length → g = A) ∧ (A < bs.length → g < bs.length ∧ (∀ j (h1 : j < bs.length) (h2 : g < bs.length), g ≤ j → j ≤ A → bs[j] = bs[g]) ∧ ∀ (h2 : g < bs.length), (bs.take g).getLast? ≠ some bs[g]) ∧ e = [.val (tupI bs), .own ((rle (bs.take g)).map runD), .val (.int g), s3]) ?_ ?_ _ _ _ ⟨rfl, 0, 0, .no, Nat.zero_le _, by simp, Nat.le_refl _, fun h => rfl, fun h => ⟨h, fun j h5 h6 _ h2 => same_ix h5 h6 (by omega), fun _ => by simp⟩, rfl⟩
  · rintro _ _ ⟨rfl, A, g, s3, hA, hr, hg, h1, h2, rfl⟩
    have eA : A = bs.length := by
      have := congrArg List.length hr
      simp at this
      omega
    have eg : g = bs.length := (h1 eA).trans eA
    subst eg
    rw [List.take_length]
    have hrl := rle_len bs
    walk_at "r"
    refine c__law_run_bytes ⟨by omega, fun r hr => ?_⟩ ?_
    · have h3 := exp_len_le hr
      rw [exp_rle] at h3
      omega
    · exact q
  · rintro d ds _ vh ⟨rfl, A, g, s3, hA, hr, hg, h1, h2, rfl⟩ IH
    have hA2 : A < bs.length := by
      have := congrArg List.length hr
      simp at this
      omega
    rw [List.drop_eq_getElem_cons (by simpa using hA2), List.map_cons] at hr
    obtain ⟨rfl, rfl⟩ := List.cons.inj hr
    rw [List.getElem_range]
    obtain ⟨hgl, hsame, hlast⟩ := h2 hA2
    have hrl := rle_len (bs.take g)
    rw [List.length_take] at hrl
    -- the run that ends here
    have run : rle (bs.take (A + 1)) = rle (bs.take g) ++ [(bs[g], A + 1 - g)] := by
      have e : bs.take (A + 1) = bs.take g ++ List.replicate (A + 1 - g) bs[g] := by
        have e1 : bs.take (A + 1) = bs.take g ++ (bs.drop g).take (A + 1 - g) := by
          rw [show A + 1 = g + (A + 1 - g) by omega, List.take_add]
          simp
        rw [e1]
        congr 1
        have e2 := eq_rep (b := bs[g]) (l := (bs.drop g).take (A + 1 - g)) fun x hx => by
          obtain ⟨j, hj, rfl⟩ := List.getElem_of_mem hx
          rw [List.length_take, List.length_drop] at hj
          rw [List.getElem_take, List.getElem_drop]
          exact hsame (g + j) (by omega) hgl (by omega) (by omega)
        rw [e2, List.length_take, List.length_drop]
        congr 1
        omega
      rw [e, rle_app (by omega) _ (hlast hgl)]
    have app : ∀ s3 : Slot, s3 = .val (.int (1 + (A : Int))) → (A + 1 < bs.length → ∀ h : A + 1 < bs.length, bs[A + 1] ≠ bs[g]) → forGo _ (((List.range bs.length).drop (A + 1)).map (fun (i : Nat) => D.int (1 + (i : Int)))) [.val (tupI bs), .own ((rle (bs.take g)).map runD ++ [.tup [.int bs[g], .int (1 + (A : Int) - g)]]), .val (.int (1 + (A : Int))), s3] vh _ := fun s3 es hne => by
      refine IH _ _ ⟨rfl, A + 1, A + 1, s3, hA2, rfl, Nat.le_refl _, fun _ => rfl, fun h => ⟨h, fun j h5 h6 h3 h4 => same_ix h5 h6 (by omega), fun h3 => ?_⟩, ?_⟩
      · rw [List.take_succ_eq_append_getElem hA2, List.getLast?_append]
        have := hne h h3
        have e := hsame A hA2 hgl hg (Nat.le_refl _)
        simp
        rw [e]
        exact fun z => this z.symm
      · rw [run, List.map_append, show ((A + 1 : Nat) : Int) = 1 + (A : Int) by omega]
        show _ = [Slot.val (tupI bs), Slot.own ((rle (bs.take g)).map runD ++ [.tup [.int bs[g], .int ((A + 1 - g : Nat) : Int)]]), _, _]
        rw [show ((A + 1 - g : Nat) : Int) = 1 + (A : Int) - g by omega]
    refine ⟨_, rfl, ?_⟩
    walk_at "r"
    refine p_dec (fun h3 => ?_) (fun h3 => ?_)
    · walk_at "r"
      refine i_tup (hat g hgl _ rfl) ?_
      walk_at "r"
      refine ⟨by rw [List.length_map]; omega, ?_⟩
      walk_at "r"
      refine app _ rfl (fun z => ?_)
      omega
    have hA3 : A + 1 < bs.length := by omega
    walk_at "r"
    refine i_tup (hat (A + 1) hA3 _ (by omega)) ?_
    walk_at "r"
    refine i_tup (hat g hgl _ rfl) ?_
    walk_at "r"
    refine p_ndec (fun h4 => ?_) (fun h4 => ?_)
    · walk_at "r"
      refine i_tup (hat g hgl _ rfl) ?_
      walk_at "r"
      refine ⟨by rw [List.length_map]; omega, ?_⟩
      walk_at "r"
      exact app _ rfl (fun _ _ => h4)
    · walk_at "r"
      refine IH _ _ ⟨rfl, A + 1, g, .val (.int (1 + (A : Int))), hA2, rfl, by omega, fun z => by omega, fun _ => ⟨hgl, fun j h5 h6 h7 h8 => ?_, hlast⟩, rfl⟩
      by_cases e : j = A + 1
      · subst e
        exact h4
      · exact hsame j h5 h6 h7 (by omega)
theorem pow63 : (2 : Int) ^ Int.toNat 63 = 9223372036854775808 := by decide
theorem rns_put {rs : List (Int × Nat)} {r : Int × Nat} {a : Int} (hl : rs.length ≤ 12) (h : Rns rs) (hr : 0 ≤ r.1 ∧ r.1 < 256 ∧ r.2 ≤ 9223372036854775808) (a0 : 0 ≤ a) (a1 : a ≤ rs.length) : Rns (cutL rs none (some a) ++ [r] ++ cutL rs (some a) none) := by
  refine ⟨?_, fun s hs => ?_⟩
  · rw [cut_take a0, cut_drop a0, List.length_append, List.length_append, List.length_singleton, List.length_take, List.length_drop]
    omega
  · rcases List.mem_append.mp hs with hs | hs
    · rcases List.mem_append.mp hs with hs | hs
      · exact h.2 s (cutL_mem hs)
      · rw [List.mem_singleton] at hs
        subst hs
        exact hr
    · exact h.2 s (cutL_mem hs)
theorem third_m {d : D} (h : d ∈ [D.int 99999, .int 100000, .int 100001, .int ((2 : Int) ^ Int.toNat 63)]) : ∃ m : Nat, d = .int m ∧ m ≤ 9223372036854775808 := by
  rw [pow63] at h
  simp only [List.mem_cons, List.not_mem_nil, or_false] at h
  rcases h with rfl | rfl | rfl | rfl
  · exact ⟨99999, rfl, by omega⟩
  · exact ⟨100000, rfl, by omega⟩
  · exact ⟨100001, rfl, by omega⟩
  · exact ⟨9223372036854775808, rfl, by omega⟩
theorem k_law_wrong_runs : Sat Phi Gam ir__law_wrong_runs tc__law_wrong_runs.N ["hand", "runs"] s__law_wrong_runs := by
  refine sat_spec (fun _ => rfl) ?_
  rintro ⟨n, rs⟩ vh R ⟨hd, hl, hr⟩ q
  have hd : Hd n vh := hd
  have hl : rs.length ≤ 12 := hl
  have hr : Rns rs := hr
  have q : ∀ (x : DV) ss vh', x.d = lstR ss → Rns ss → Hd n vh' → Fx n vh vh' → R (.ok x) vh' := fun x ss vh' h0 h1 h4 h5 => q x vh' ⟨⟨ss, h0, h1⟩, h4, h5⟩
  show wpB Phi Gam ir__law_wrong_runs _ _ [.val (.ref n), .val (lstR rs), .no, .no] vh
  unfold ir__law_wrong_runs
  have hlm : (rs.map runD).length = rs.length := List.length_map _
  walk_at "r"
  refine c__law_draw hd (by omega) fun a vh1 a0 a1 hd1 f1 => ?_
  walk_at "r"
  refine c__law_draw hd1 (by decide) fun w vh2 w0 w1 hd2 f2 => ?_
  have f := fxT f1 f2
  have a2 : a ≤ rs.length := by omega
  have m1 := cutL_map runD rs none (some a)
  have m2 := cutL_map runD rs (some a) none
  have fin : ∀ (r : Int × Nat) vh3, (0 ≤ r.1 ∧ r.1 < 256 ∧ r.2 ≤ 9223372036854775808) → Hd n vh3 → Fx n vh2 vh3 → R (.ok (.fr (cutL (rs.map runD) none (some a) ++ [runD r] ++ cutL (rs.map runD) (some a) none))) vh3 := fun r vh3 h1 h2 h3 => by
    refine q _ (cutL rs none (some a) ++ [r] ++ cutL rs (some a) none) vh3 ?_ (rns_put hl hr h1 a0 a2) h2 (fxT f h3)
    show D.lst _ = D.lst _
    rw [m1, m2, List.map_append, List.map_append]
    rfl
  have side : (cutL (rs.map runD) none (some a)).length ≤ 12 ∧ (cutL (rs.map runD) (some a) none).length ≤ 12 := ⟨Nat.le_trans cutL_len (by omega), Nat.le_trans cutL_len (by omega)⟩
  walk_at "r"
  refine p_dec (fun h => ?_) (fun h => ?_)
  · walk_at "r"
    refine c__law_byte hd2 fun x b vh3 ex b0 b1 hd3 f3 => ?_
    walk_at "r"
    · rw [ex]
      exact fin (b, 0) vh3 ⟨b0, b1, by omega⟩ hd3 f3
    all_goals (simp only [List.length_append, List.length_singleton]; omega)
  walk_at "r"
  refine p_dec (fun h => ?_) (fun h => ?_)
  · walk_at "r"
    refine p_dec (fun h2 => ?_) (fun h2 => ?_)
    · obtain ⟨d, e1, hm⟩ := atI_ok (xs := rs.map runD) (i := a - 1) (by omega) (by omega)
      obtain ⟨r, hrm, rfl⟩ := List.mem_map.mp hm
      have hrr := hr.2 r hrm
      walk_at "r"
      refine i_lst e1 ?_
      walk_at "r"
      refine c__law_draw hd2 (by decide) fun j vh3 j0 j1 hd3 f3 => ?_
      walk_at "r"
      · have := fin (r.1, (1 + j).toNat) vh3 ⟨hrr.1, hrr.2.1, by dsimp only; omega⟩ hd3 f3
        unfold runD at this
        rw [Int.toNat_of_nonneg (by omega)] at this
        exact this
      all_goals (simp only [List.length_append, List.length_singleton]; omega)
    · walk_at "r"
      refine c__law_byte hd2 fun x b vh3 ex b0 b1 hd3 f3 => ?_
      walk_at "r"
      refine c__law_draw hd3 (by decide) fun j vh4 j0 j1 hd4 f4 => ?_
      walk_at "r"
      obtain ⟨d, e1, hm⟩ := atI_ok (xs := [D.int 99999, .int 100000, .int 100001, .int ((2 : Int) ^ Int.toNat 63)]) j0 j1
      obtain ⟨m, rfl, hm2⟩ := third_m hm
      refine i_lst e1 ?_
      walk_at "r"
      · rw [ex]
        exact fin (b, m) vh4 ⟨b0, b1, hm2⟩ hd4 (fxT f3 f4)
      all_goals (simp only [List.length_append, List.length_singleton]; omega)
  · walk_at "r"
    refine c__law_byte hd2 fun x b vh3 ex b0 b1 hd3 f3 => ?_
    walk_at "r"
    refine c__law_draw hd3 (by decide) fun j vh4 j0 j1 hd4 f4 => ?_
    walk_at "r"
    obtain ⟨d, e1, hm⟩ := atI_ok (xs := [D.int 99999, .int 100000, .int 100001, .int ((2 : Int) ^ Int.toNat 63)]) j0 j1
    obtain ⟨m, rfl, hm2⟩ := third_m hm
    refine i_lst e1 ?_
    walk_at "r"
    · rw [ex]
      exact fin (b, m) vh4 ⟨b0, b1, hm2⟩ hd4 (fxT f3 f4)
    all_goals (simp only [List.length_append, List.length_singleton]; omega)
local macro_rules | `(tactic| walk_at "q") => `(tactic| repeat ((fail_if_success (with_reducible refine' fg_cons ?_)); walk_at "r1"))
theorem k_law_is_guess : Sat Phi Gam ir__law_is_guess tc__law_is_guess.N ["hand"] s__law_is_guess := by
  refine sat_spec (fun _ => rfl) ?_
  rintro n vh R ⟨hd, _⟩ q
  have hd : Hd n vh := hd
  have q : ∀ vh', Hd n vh' → Fx n vh vh' → R (.ok (.v (.bl true))) vh' := fun vh' h4 h5 => q _ vh' ⟨rfl, h4, h5⟩
  show wpB Phi Gam ir__law_is_guess _ _ [.val (.ref n), .no, .no, .no, .no] vh
  unfold ir__law_is_guess
  walk_at "r"
  refine c__law_draw hd (by decide) fun a vh1 a0 a1 hd1 f1 => ?_
  walk_at "r"
  refine c__law_draw hd1 (by decide) fun b vh2 b0 b1 hd2 f2 => ?_
  walk_at "r"
  obtain ⟨d, e1, hm⟩ := atI_ok (xs := [D.non, .int 0, .int 255, .int a]) b0 b1
  refine i_lst e1 ?_
  obtain ⟨l, rfl, hl⟩ : ∃ l, d = oI l ∧ okL l := by
    simp only [List.mem_cons, List.not_mem_nil, or_false] at hm
    rcases hm with rfl | rfl | rfl | rfl
    · exact ⟨none, rfl, fun _ h => by cases h⟩
    · exact ⟨some 0, rfl, fun _ h => by cases h; omega⟩
    · exact ⟨some 255, rfl, fun _ h => by cases h; omega⟩
    · exact ⟨some a, rfl, fun _ h => by cases h; omega⟩
  walk_at "r"
  refine c__law_draw hd2 (by decide) fun c vh3 c0 c1 hd3 f3 => ?_
  walk_at "r"
  refine c__law_draw hd3 (by decide) fun g vh4 g0 g1 hd4 f4 => ?_
  walk_at "r"
  obtain ⟨h, e2, hm2⟩ := atI_ok (xs := [D.int 0, .int 1, .int 600, .int c]) g0 g1
  refine i_lst e2 ?_
  obtain ⟨h, rfl, h0, h1⟩ : ∃ k : Int, h = .int k ∧ 0 ≤ k ∧ k ≤ 600 := by
    simp only [List.mem_cons, List.not_mem_nil, or_false] at hm2
    rcases hm2 with rfl | rfl | rfl | rfl <;> exact ⟨_, rfl, by omega, by omega⟩
  walk_at "r"
  refine c__law_draw hd4 (by decide) fun u vh5 u0 u1 hd5 f5 => ?_
  have f := fxT (fxT (fxT (fxT f1 f2) f3) f4) f5
  walk_at "q"
  refine for_rule (fun rest e hp => hp = vh5 ∧ (∀ d, d ∈ rest → ∃ k : Int, d = .int k ∧ 0 ≤ k ∧ k ≤ 100000) ∧ ∃ s3 s4 : Slot, e = [.val (.ref n), .val (oI l), .val (.int h), s3, s4]) ?_ ?_ _ _ _ ⟨rfl, ?_, .no, .no, rfl⟩
  · rintro _ _ ⟨rfl, _, s3, s4, rfl⟩
    walk_at "r"
    exact q _ hd5 f
  · rintro d ds _ vh5 ⟨rfl, hr, s3, s4, rfl⟩ IH
    obtain ⟨k, rfl, k0, k1⟩ := hr d List.mem_cons_self
    refine ⟨_, rfl, ?_⟩
    have done : ∀ s4 : Slot, forGo _ ds [.val (.ref n), .val (oI l), .val (.int h), .val (.int k), s4] vh5 _ := fun s4 => IH _ _ ⟨rfl, fun d hd => hr d (List.mem_cons_of_mem _ hd), _, s4, rfl⟩
    cases l with
    | none =>
      show wpB Phi Gam _ _ _ [.val (.ref n), .val .non, .val (.int h), .val (.int k), s4] vh5
      walk_at "r"
      refine c_guess (l := none) ⟨hl, k0, k1, h0, h1⟩ ?_
      walk_at "r"
      refine c__law_is (m := 4) rfl rfl ?_
      walk_at "r"
      exact done _
    | some b =>
      show wpB Phi Gam _ _ _ [.val (.ref n), .val (.int b), .val (.int h), .val (.int k), s4] vh5
      walk_at "r"
      refine p_dec (fun h2 => ?_) (fun h2 => ?_)
      · walk_at "r"
        refine c_guess (l := some b) ⟨hl, k0, k1, h0, h1⟩ ?_
        walk_at "r"
        refine c__law_is (m := 4) (by unfold gs; dsimp only; rw [if_pos h2]) rfl ?_
        walk_at "r"
        exact done _
      · walk_at "r"
        refine c_guess (l := some b) ⟨hl, k0, k1, h0, h1⟩ ?_
        walk_at "r"
        refine c__law_is (m := 4) (by unfold gs; dsimp only; rw [if_neg h2]) rfl ?_
        walk_at "r"
        exact done _
  · intro d hd
    simp only [List.mem_cons, List.not_mem_nil, or_false] at hd
    rcases hd with rfl | rfl | rfl | rfl | rfl | rfl
    · exact ⟨0, rfl, by omega, by omega⟩
    · exact ⟨h, rfl, by omega, by omega⟩
    · exact ⟨h + 1, rfl, by omega, by omega⟩
    · refine ⟨_, rfl, ?_, ?_⟩ <;> split <;> omega
    · exact ⟨100000, rfl, by omega, by omega⟩
    · exact ⟨u, rfl, by omega, by omega⟩
theorem byt_rowR {rs : List (Int × Nat)} (h : ∀ r, r ∈ rs → 0 ≤ r.1 ∧ r.1 < 256) : Byt (rowR rs) := by
  refine byt_app (fig_byt _) fun b hb => ?_
  obtain ⟨r, hr, hb⟩ := List.mem_flatMap.mp hb
  rcases List.mem_cons.mp hb with rfl | hb
  · exact h r hr
  · exact fig_byt _ b hb
theorem rowR_len {rs : List (Int × Nat)} (hl : rs.length ≤ 100000) (h : ∀ r, r ∈ rs → r.2 ≤ 9223372036854775808) : (rowR rs).length ≤ 10 + 11 * rs.length := by
  have h1 := fig_len10 (n := rs.length) (by omega)
  have h2 := enc_len (rs := rs) fun r hr => by have := h r hr; omega
  unfold rowR
  rw [List.length_append]
  omega
theorem k_law : Sat Phi Gam ir_law tc_law.N ["script"] s_law := by
  refine sat_spec (fun _ => rfl) ?_
  rintro ns vh R _ q
  have q : ∀ vh', R (.ok (.v (.bl true))) vh' := fun vh' => q _ vh' rfl
  show wpB Phi Gam ir_law _ _ [.val (.scr ns), .no, .no, .no, .no, .no, .no, .no, .no, .no, .no, .no, .no, .no, .no, .no] vh
  unfold ir_law
  walk_at "r"
  refine c__law_hand fun ds hds => ?_
  generalize hN : vh.length = n
  walk_at "r"
  have hd0 : Hd n (vh ++ [.lst ds]) := ⟨_, by subst hN; simp, hds⟩
  generalize (vh ++ [VO.lst ds]) = vh0 at hd0 ⊢
  refine c__law_draw hd0 (by decide) fun many vh1 m0 m1 hd1 f1 => ?_
  walk_at "r"
  refine c__law_runs hd1 fun x rs vh2 ex hrl hrb hel hd2 f2 => ?_
  rw [ex]
  walk_at "r"
  refine c__law_ticks (by omega) ?_
  have hbE : Byt (exp rs) := fun b hb => by
    obtain ⟨r, hr, rfl⟩ := exp_mem hb
    exact ⟨(hrb r hr).1, (hrb r hr).2.1⟩
  generalize hf : exp rs = f at hel hbE
  walk_at "r"
  refine c_input_row ⟨hbE, by omega⟩ ?_
  have hrow := rle_len f
  have hrowb : ∀ r, r ∈ rle f → 0 ≤ r.1 ∧ r.1 < 256 := fun r hr => ⟨(rle_byt hbE hr).1, (rle_byt hbE hr).2.1⟩
  have hw := rowR_len (rs := rle f) (by omega) fun r hr => by have := (rle_byt hbE hr).2.2.2; omega
  have hwb := byt_rowR hrowb
  walk_at "r"
  refine c__law_input_bytes (by omega) ?_
  walk_at "r"
  have eqr : ∀ pre tail : List Int, red (pre ++ rowR (rle f) ++ tail) pre.length = .ok f (pre.length + (rowR (rle f)).length) := fun pre tail => red_rle (by omega)
  generalize hW : rowR (rle f) = w at hw hwb eqr ⊢
  refine c__law_is (m := 4) rfl (plD_tupI (by omega)) ?_
  walk_at "r"
  refine c__law_bytes hd2 (by omega) fun x1 pa vh3 ex1 hpa hpal hd3 f3 => ?_
  rw [ex1]
  walk_at "r"
  refine c__law_bytes hd3 (by omega) fun x2 pb vh4 ex2 hpb hpbl hd4 f4 => ?_
  rw [ex2]
  have lpa : (pa.map D.int).length = pa.length := List.length_map _
  have lpb : (pb.map D.int).length = pb.length := List.length_map _
  have lw : (w.map D.int).length = w.length := List.length_map _
  walk_at "r"
  rw [← List.map_append, ← List.map_append, lpa]
  refine c__law_read_told (bs := pa ++ w ++ pb) (at_ := pa.length) ⟨byt_app (byt_app hpa hwb) hpb, by rw [List.length_append, List.length_append]; omega, by rw [List.length_append, List.length_append]; omega⟩ fun vh5 g5 => ?_
  rw [eqr]
  unfold toldD
  dsimp only
  rw [show ((pa.length + w.length : Nat) : Int) = ((pa.map D.int).length : Int) + ((w.map D.int).length : Int) by omega]
  walk_at "r"
  rotate_left
  · rw [List.length_append]
    omega
  · exact ok_told
  · exact ok_told
  refine p_ne (eqD_refl 64 _ ok_told) ?_
  walk_at "r"
  have hd5 := g5.hd hd4
  clear g5 hd4 hd3 hd2 hd1 hd0 f1 f2 f3 f4 ex ex1 ex2
  refine for_rule (fun rest e h => Hd n h ∧ ∃ (row : List Int) (s9 : Slot), Byt row ∧ row.length + 4 * rest.length ≤ w.length + 12 ∧ noB e [13, 14, 15] = true ∧ e = [.val (.scr ns), .val (.ref n), .val (.int many), .val (lstR rs), .val (tupI f), .val (tupI row), .val (tupI w), .val (tupI pa), .val (tupI pb), s9, .no, .no, .no, .no, .no, .no]) ?_ ?_ _ _ _ ⟨hd5, w, .no, hwb, by rw [List.length_map, List.length_range]; omega, rfl, rfl⟩
  rotate_left
  · rintro d ds2 _ vh6 ⟨hd6, row, s9, hrw, hrl2, hno, rfl⟩ IH
    rw [List.length_cons] at hrl2
    refine ⟨_, rfl, ?_⟩
    walk_at "r"
    refine c__law_spoilt hd6 ⟨hrw, by omega⟩ fun x cs vh7 ex hc hcl hd7 f7 => ?_
    rw [ex]
    have lcs : (cs.map D.int).length = cs.length := List.length_map _
    walk_at "r"
    rotate_left
    · rw [List.length_append]
      omega
    rw [← List.map_append, ← List.map_append, lpa]
    refine c__law_is_told (bs := pa ++ cs ++ pb) (at_ := pa.length) ⟨byt_app (byt_app hpa hc) hpb, by rw [List.length_append, List.length_append]; omega, by rw [List.length_append, List.length_append]; omega⟩ fun vh8 g8 => ?_
    walk_at "r"
    exact IH _ _ ⟨g8.hd hd7, cs, .val d, hc, by omega, rfl, rfl⟩
  rintro _ vh6 ⟨hd6, row, s9, hrw, hrl2, hno, rfl⟩
  walk_at "r"
  refine lc_rule (fun rest h acc => h = vh6 ∧ ∃ as ss : List (Int × Nat), acc = as.map runD ∧ rest = ss.map runD ∧ as.length + ss.length ≤ 12 ∧ (∀ r, r ∈ as ++ ss → 0 ≤ r.1 ∧ r.1 < 256 ∧ r.2 ≤ 20000)) ?_ ?_ _ _ _ ⟨rfl, [], rs, rfl, rfl, by simpa using hrl, by simpa using hrb⟩
  rotate_left
  · rintro d ds2 _ acc ⟨rfl, as, ss, rfl, hr, hal, hab⟩ ih
    cases ss with
    | nil => cases hr
    | cons r ss =>
      obtain ⟨rfl, rfl⟩ := List.cons.inj hr
      obtain ⟨b, m⟩ := r
      rw [List.length_cons] at hal
      refine ⟨_, rfl, ?_⟩
      walk_at "r"
      refine p_dec (fun h1 => ?_) (fun h1 => ?_)
      · walk_at "r"
        refine ⟨by rw [List.length_map]; omega, ?_⟩
        refine ih _ _ ⟨rfl, as ++ [(b, m)], ss, by rw [List.map_append]; rfl, rfl, by rw [List.length_append, List.length_singleton]; omega, fun r hr => hab r (by simpa using hr)⟩
      · walk_at "r"
        refine ih _ _ ⟨rfl, as, ss, rfl, rfl, by omega, fun r hr => hab r ?_⟩
        rcases List.mem_append.mp hr with hr | hr
        · exact List.mem_append_left _ hr
        · exact List.mem_append_right _ (List.mem_cons_of_mem _ hr)
  rintro _ acc ⟨rfl, as, ss, rfl, hr, hal, hab⟩
  cases ss with
  | cons _ _ => cases hr
  | nil =>
    rw [List.append_nil] at hab
    rw [List.length_nil] at hal
    walk_at "r"
    refine c__law_wrong_runs hd6 ⟨by omega, by omega, fun r hr => by have := hab r hr; omega⟩ fun x rr vh7 ex hrr hd7 f7 => ?_
    rw [ex]
    walk_at "r"
    refine c__law_run_bytes ⟨by have := hrr.1; omega, fun r hr => (hrr.2 r hr).2.2⟩ ?_
    have hq := rowR_len (rs := rr) (by have := hrr.1; omega) fun r hr => (hrr.2 r hr).2.2
    have hq2 := byt_rowR (rs := rr) fun r hr => ⟨(hrr.2 r hr).1, (hrr.2 r hr).2.1⟩
    have hq3 := hrr.1
    generalize rowR rr = u at hq hq2 ⊢
    have lu : (u.map D.int).length = u.length := List.length_map _
    walk_at "r"
    rw [← List.map_append, lpa]
    refine c__law_is_told (bs := pa ++ u) (at_ := pa.length) ⟨byt_app hpa hq2, by rw [List.length_append]; omega, by rw [List.length_append]; omega⟩ fun vh8 g8 => ?_
    have hd8 := g8.hd hd7
    walk_at "r"
    refine c__law_bytes hd8 (by omega) fun x3 pc vh9 ex3 hpc hpcl hd9 f9 => ?_
    rw [ex3]
    have lpc : (pc.map D.int).length = pc.length := List.length_map _
    walk_at "r"
    rw [lpc, show ((pc.length : Int) + 1).toNat = pc.length + 1 by omega]
    refine for_rule (fun rest e h => Hd n h ∧ ∃ (k : Nat) (s10 s12 : Slot), k ≤ pc.length + 1 ∧ rest = ((List.range (pc.length + 1)).drop k).map (fun (i : Nat) => D.int (i : Int)) ∧ e = [.val (.scr ns), .val (.ref n), .val (.int many), .val (lstR rs), .val (tupI f), .val (tupI row), .val (tupI w), .val (tupI pa), .val (tupI pb), s9, s10, .val (tupI pc), s12, .no, .no, .no]) ?_ ?_ _ _ _ ⟨hd9, 0, _, .no, Nat.zero_le _, by simp, rfl⟩
    · rintro _ vh10 ⟨hd10, k, s10, s12, hk, hr, rfl⟩
      walk_at "r"
      refine c__law_is_guess hd10 fun x vh11 ex hd11 f11 => ?_
      have ex : x = .v (.bl true) := by
        cases x with
        | v d => rw [show d = D.bl true from ex]
        | fr ds => cases ex
      subst ex
      walk_at "r"
      refine c_input_row ⟨hbE, by omega⟩ ?_
      rw [hW]
      walk_at "r"
      rw [eqD_tupI, decide_eq_true rfl]
      exact q _
    · rintro d ds2 _ vh10 ⟨hd10, k, s10, s12, hk, hr, rfl⟩ IH
      have hk2 : k < pc.length + 1 := by
        have := congrArg List.length hr
        simp at this
        omega
      rw [List.drop_eq_getElem_cons (by simpa using hk2), List.map_cons] at hr
      obtain ⟨rfl, rfl⟩ := List.cons.inj hr
      rw [List.getElem_range]
      refine ⟨_, rfl, ?_⟩
      walk_at "r"
      refine c__law_is_told (bs := pc) (at_ := k) ⟨hpc, by dsimp only; omega, by dsimp only; omega⟩ fun vh11 g11 => ?_
      walk_at "r"
      exact IH _ _ ⟨g11.hd hd10, k + 1, s10, .val (.int k), hk2, rfl, rfl⟩
theorem law_run (ns : List Int) (_ : ns.length ≤ 63) (_ : ∀ z ∈ ns, Builtin.Int.intBits z ≤ 1048576) : s_law.run [.scr ns] [] fun o _ => o = .ok (.v (.bl true)) := ⟨ns, rfl, trivial, fun x vh' h => by rw [show x = _ from h]⟩
/-! ### what the top has written -/
def cis : List Str := ["Reader"]
@[reducible] def wd (K : PySem.W.Frag) : Wd := wdT K tb cis
structure Top (K : PySem.W.Frag) where
  c_Reader : ClsT K "Reader" ["row", "at", "last"]
  d_is_integer : DefT K "is_integer" st_is_integer
  d_is_within : DefT K "is_within" st_is_within
  d_is_below : DefT K "is_below" st_is_below
  d_is_row : DefT K "is_row" st_is_row
  d_check_row : DefT K "check_row" st_check_row
  d_figures_of : DefT K "figures_of" st_figures_of
  d_number_at : DefT K "number_at" st_number_at
  d_taken : DefT K "taken" st_taken
  d_check_place : DefT K "check_place" st_check_place
  d_Reader___init__ : MthT K c_Reader.C "__init__" "Reader.__init__" st_Reader___init__
  d_Reader_next_number : MthT K c_Reader.C "next_number" "Reader.next_number" st_Reader_next_number
  d_Reader_next_byte : MthT K c_Reader.C "next_byte" "Reader.next_byte" st_Reader_next_byte
  d_is_input : DefT K "is_input" st_is_input
  d_are_inputs : DefT K "are_inputs" st_are_inputs
  d_check_inputs : DefT K "check_inputs" st_check_inputs
  d_check_input : DefT K "check_input" st_check_input
  d_runs_of : DefT K "runs_of" st_runs_of
  d_run_row : DefT K "run_row" st_run_row
  d_input_row : DefT K "input_row" st_input_row
  d_taken_inputs : DefT K "taken_inputs" st_taken_inputs
  d_read_inputs : DefT K "read_inputs" st_read_inputs
  d_guessed : DefT K "guessed" st_guessed
  d_guess : DefT K "guess" st_guess
  d__law_hand : DefT K "_law_hand" st__law_hand
  d__law_draw : DefT K "_law_draw" st__law_draw
  d__law_is : DefT K "_law_is" st__law_is
  d__law_whole : DefT K "_law_whole" st__law_whole
  d__law_read : DefT K "_law_read" st__law_read
  d__law_byte : DefT K "_law_byte" st__law_byte
  d__law_bytes : DefT K "_law_bytes" st__law_bytes
  d__law_spoilt : DefT K "_law_spoilt" st__law_spoilt
  d__law_runs : DefT K "_law_runs" st__law_runs
  d__law_ticks : DefT K "_law_ticks" st__law_ticks
  d__law_run_bytes : DefT K "_law_run_bytes" st__law_run_bytes
  d__law_input_bytes : DefT K "_law_input_bytes" st__law_input_bytes
  d__law_parsed : DefT K "_law_parsed" st__law_parsed
  d__law_read_told : DefT K "_law_read_told" st__law_read_told
  d__law_is_told : DefT K "_law_is_told" st__law_is_told
  d__law_wrong_runs : DefT K "_law_wrong_runs" st__law_wrong_runs
  d__law_is_guess : DefT K "_law_is_guess" st__law_is_guess
  d_law : DefT K "law" st_law
theorem B_is_integer {K : PySem.W.Frag} (T : Top K) : Binds K T.d_is_integer.fd ["thing"] [] := T.d_is_integer.F.binds (ps := ["thing"]) fun _ _ _ _ _ _ us hl => match us, hl with | [_], _ => rfl
theorem A_is_integer {P : Program} {w : World} {K : PySem.W.Frag} {h : Heap} {mg : Str → Option Value} {base : Heap} (X : K.In h) (G : h.Ns mainGlobals mg) (T : Top K) (gd : Gnd K mg (wd K) Gam tb hs his) : AllL (DfA P w K mg base (wd K) 0 Phi) tc_is_integer.fs := trivial
theorem D_is_integer {P : Program} {w : World} {K : PySem.W.Frag} {h : Heap} {mg : Str → Option Value} {base : Heap} (X : K.In h) (G : h.Ns mainGlobals mg) (T : Top K) (gd : Gnd K mg (wd K) Gam tb hs his) : Df P w K mg base (wd K) 1 "is_integer" (Phi "is_integer") := df_ok (Φ := Phi) (Γ := Gam) (c := tc_is_integer) (m := 60) (n := 100) T.d_is_integer.F (PySem.W.mg_of X G T.d_is_integer.a) (B_is_integer T) (by decide +kernel) sc_is_integer tr_is_integer (A_is_integer X G T gd).get gd (by decide +kernel) k_is_integer
theorem B_figures_of {K : PySem.W.Frag} (T : Top K) : Binds K T.d_figures_of.fd ["number"] [] := T.d_figures_of.F.binds (ps := ["number"]) fun _ _ _ _ _ _ us hl => match us, hl with | [_], _ => rfl
theorem A_figures_of {P : Program} {w : World} {K : PySem.W.Frag} {h : Heap} {mg : Str → Option Value} {base : Heap} (X : K.In h) (G : h.Ns mainGlobals mg) (T : Top K) (gd : Gnd K mg (wd K) Gam tb hs his) : AllL (DfA P w K mg base (wd K) 0 Phi) tc_figures_of.fs := trivial
theorem D_figures_of {P : Program} {w : World} {K : PySem.W.Frag} {h : Heap} {mg : Str → Option Value} {base : Heap} (X : K.In h) (G : h.Ns mainGlobals mg) (T : Top K) (gd : Gnd K mg (wd K) Gam tb hs his) : Df P w K mg base (wd K) 1 "figures_of" (Phi "figures_of") := df_ok (Φ := Phi) (Γ := Gam) (c := tc_figures_of) (m := 60) (n := 100) T.d_figures_of.F (PySem.W.mg_of X G T.d_figures_of.a) (B_figures_of T) (by decide +kernel) sc_figures_of tr_figures_of (A_figures_of X G T gd).get gd (by decide +kernel) k_figures_of
theorem B_number_at {K : PySem.W.Frag} (T : Top K) : Binds K T.d_number_at.fd ["row", "at"] [] := T.d_number_at.F.binds (ps := ["row", "at"]) fun _ _ _ _ _ _ us hl => match us, hl with | [_, _], _ => rfl
theorem A_number_at {P : Program} {w : World} {K : PySem.W.Frag} {h : Heap} {mg : Str → Option Value} {base : Heap} (X : K.In h) (G : h.Ns mainGlobals mg) (T : Top K) (gd : Gnd K mg (wd K) Gam tb hs his) : AllL (DfA P w K mg base (wd K) 0 Phi) tc_number_at.fs := trivial
theorem D_number_at {P : Program} {w : World} {K : PySem.W.Frag} {h : Heap} {mg : Str → Option Value} {base : Heap} (X : K.In h) (G : h.Ns mainGlobals mg) (T : Top K) (gd : Gnd K mg (wd K) Gam tb hs his) : Df P w K mg base (wd K) 1 "number_at" (Phi "number_at") := df_ok (Φ := Phi) (Γ := Gam) (c := tc_number_at) (m := 60) (n := 100) T.d_number_at.F (PySem.W.mg_of X G T.d_number_at.a) (B_number_at T) (by decide +kernel) sc_number_at tr_number_at (A_number_at X G T gd).get gd (by decide +kernel) k_number_at
theorem B_Reader___init__ {K : PySem.W.Frag} (T : Top K) : Binds K T.d_Reader___init__.fd ["self", "row", "at"] [] := T.d_Reader___init__.F.binds (ps := ["self", "row", "at"]) fun _ _ _ _ _ _ us hl => match us, hl with | [_, _, _], _ => rfl
theorem A_Reader___init__ {P : Program} {w : World} {K : PySem.W.Frag} {h : Heap} {mg : Str → Option Value} {base : Heap} (X : K.In h) (G : h.Ns mainGlobals mg) (T : Top K) (gd : Gnd K mg (wd K) Gam tb hs his) : AllL (DfA P w K mg base (wd K) 0 Phi) tc_Reader___init__.fs := ⟨a_ic (tb := tb) (cis := cis) ⟨⟨T.c_Reader.C, T.c_Reader.xg, T.c_Reader.cl, T.c_Reader.nf.get _ (by decide +kernel)⟩, trivial⟩, ⟨a_ic (tb := tb) (cis := cis) ⟨⟨T.c_Reader.C, T.c_Reader.xg, T.c_Reader.cl, T.c_Reader.nf.get _ (by decide +kernel)⟩, trivial⟩, ⟨a_ic (tb := tb) (cis := cis) ⟨⟨T.c_Reader.C, T.c_Reader.xg, T.c_Reader.cl, T.c_Reader.nf.get _ (by decide +kernel)⟩, trivial⟩, trivial⟩⟩⟩
theorem E_Reader___init__ {P : Program} {w : World} {K : PySem.W.Frag} {h : Heap} {mg : Str → Option Value} {base : Heap} (X : K.In h) (G : h.Ns mainGlobals mg) (T : Top K) (gd : Gnd K mg (wd K) Gam tb hs his) : FnG P w K mg base (L2.CX P w) 1 T.d_Reader___init__.f T.d_Reader___init__.fd ["self", "row", "at"] (spV (wd K) s_Reader___init__) := fn_ok (Φ := Phi) (Γ := Gam) (c := tc_Reader___init__) (m := 60) (n := 100) T.d_Reader___init__.F sc_Reader___init__ tr_Reader___init__ (A_Reader___init__ X G T gd).get gd (by decide +kernel) k_Reader___init__
theorem B_Reader_next_byte {K : PySem.W.Frag} (T : Top K) : Binds K T.d_Reader_next_byte.fd ["self"] [] := T.d_Reader_next_byte.F.binds (ps := ["self"]) fun _ _ _ _ _ _ us hl => match us, hl with | [_], _ => rfl
theorem A_Reader_next_byte {P : Program} {w : World} {K : PySem.W.Frag} {h : Heap} {mg : Str → Option Value} {base : Heap} (X : K.In h) (G : h.Ns mainGlobals mg) (T : Top K) (gd : Gnd K mg (wd K) Gam tb hs his) : AllL (DfA P w K mg base (wd K) 0 Phi) tc_Reader_next_byte.fs := ⟨a_ic (tb := tb) (cis := cis) ⟨⟨T.c_Reader.C, T.c_Reader.xg, T.c_Reader.cl, T.c_Reader.nf.get _ (by decide +kernel)⟩, trivial⟩, ⟨a_ic (tb := tb) (cis := cis) ⟨⟨T.c_Reader.C, T.c_Reader.xg, T.c_Reader.cl, T.c_Reader.nf.get _ (by decide +kernel)⟩, trivial⟩, ⟨a_ic (tb := tb) (cis := cis) ⟨⟨T.c_Reader.C, T.c_Reader.xg, T.c_Reader.cl, T.c_Reader.nf.get _ (by decide +kernel)⟩, trivial⟩, trivial⟩⟩⟩
theorem E_Reader_next_byte {P : Program} {w : World} {K : PySem.W.Frag} {h : Heap} {mg : Str → Option Value} {base : Heap} (X : K.In h) (G : h.Ns mainGlobals mg) (T : Top K) (gd : Gnd K mg (wd K) Gam tb hs his) : FnG P w K mg base (L2.CX P w) 1 T.d_Reader_next_byte.f T.d_Reader_next_byte.fd ["self"] (spV (wd K) s_Reader_next_byte) := fn_ok (Φ := Phi) (Γ := Gam) (c := tc_Reader_next_byte) (m := 60) (n := 100) T.d_Reader_next_byte.F sc_Reader_next_byte tr_Reader_next_byte (A_Reader_next_byte X G T gd).get gd (by decide +kernel) k_Reader_next_byte
theorem B_runs_of {K : PySem.W.Frag} (T : Top K) : Binds K T.d_runs_of.fd ["inputs"] [] := T.d_runs_of.F.binds (ps := ["inputs"]) fun _ _ _ _ _ _ us hl => match us, hl with | [_], _ => rfl
theorem A_runs_of {P : Program} {w : World} {K : PySem.W.Frag} {h : Heap} {mg : Str → Option Value} {base : Heap} (X : K.In h) (G : h.Ns mainGlobals mg) (T : Top K) (gd : Gnd K mg (wd K) Gam tb hs his) : AllL (DfA P w K mg base (wd K) 0 Phi) tc_runs_of.fs := trivial
theorem D_runs_of {P : Program} {w : World} {K : PySem.W.Frag} {h : Heap} {mg : Str → Option Value} {base : Heap} (X : K.In h) (G : h.Ns mainGlobals mg) (T : Top K) (gd : Gnd K mg (wd K) Gam tb hs his) : Df P w K mg base (wd K) 1 "runs_of" (Phi "runs_of") := df_ok (Φ := Phi) (Γ := Gam) (c := tc_runs_of) (m := 60) (n := 100) T.d_runs_of.F (PySem.W.mg_of X G T.d_runs_of.a) (B_runs_of T) (by decide +kernel) sc_runs_of tr_runs_of (A_runs_of X G T gd).get gd (by decide +kernel) k_runs_of
theorem B_guessed {K : PySem.W.Frag} (T : Top K) : Binds K T.d_guessed.fd ["last", "ago", "hold"] [] := T.d_guessed.F.binds (ps := ["last", "ago", "hold"]) fun _ _ _ _ _ _ us hl => match us, hl with | [_, _, _], _ => rfl
theorem A_guessed {P : Program} {w : World} {K : PySem.W.Frag} {h : Heap} {mg : Str → Option Value} {base : Heap} (X : K.In h) (G : h.Ns mainGlobals mg) (T : Top K) (gd : Gnd K mg (wd K) Gam tb hs his) : AllL (DfA P w K mg base (wd K) 0 Phi) tc_guessed.fs := trivial
theorem D_guessed {P : Program} {w : World} {K : PySem.W.Frag} {h : Heap} {mg : Str → Option Value} {base : Heap} (X : K.In h) (G : h.Ns mainGlobals mg) (T : Top K) (gd : Gnd K mg (wd K) Gam tb hs his) : Df P w K mg base (wd K) 1 "guessed" (Phi "guessed") := df_ok (Φ := Phi) (Γ := Gam) (c := tc_guessed) (m := 60) (n := 100) T.d_guessed.F (PySem.W.mg_of X G T.d_guessed.a) (B_guessed T) (by decide +kernel) sc_guessed tr_guessed (A_guessed X G T gd).get gd (by decide +kernel) k_guessed
theorem B__law_hand {K : PySem.W.Frag} (T : Top K) : Binds K T.d__law_hand.fd ["script"] [] := T.d__law_hand.F.binds (ps := ["script"]) fun _ _ _ _ _ _ us hl => match us, hl with | [_], _ => rfl
theorem A__law_hand {P : Program} {w : World} {K : PySem.W.Frag} {h : Heap} {mg : Str → Option Value} {base : Heap} (X : K.In h) (G : h.Ns mainGlobals mg) (T : Top K) (gd : Gnd K mg (wd K) Gam tb hs his) : AllL (DfA P w K mg base (wd K) 0 Phi) tc__law_hand.fs := trivial
theorem D__law_hand {P : Program} {w : World} {K : PySem.W.Frag} {h : Heap} {mg : Str → Option Value} {base : Heap} (X : K.In h) (G : h.Ns mainGlobals mg) (T : Top K) (gd : Gnd K mg (wd K) Gam tb hs his) : Df P w K mg base (wd K) 1 "_law_hand" (Phi "_law_hand") := df_ok (Φ := Phi) (Γ := Gam) (c := tc__law_hand) (m := 60) (n := 100) T.d__law_hand.F (PySem.W.mg_of X G T.d__law_hand.a) (B__law_hand T) (by decide +kernel) sc__law_hand tr__law_hand (A__law_hand X G T gd).get gd (by decide +kernel) k_law_hand
theorem B__law_draw {K : PySem.W.Frag} (T : Top K) : Binds K T.d__law_draw.fd ["hand", "many"] [] := T.d__law_draw.F.binds (ps := ["hand", "many"]) fun _ _ _ _ _ _ us hl => match us, hl with | [_, _], _ => rfl
theorem A__law_draw {P : Program} {w : World} {K : PySem.W.Frag} {h : Heap} {mg : Str → Option Value} {base : Heap} (X : K.In h) (G : h.Ns mainGlobals mg) (T : Top K) (gd : Gnd K mg (wd K) Gam tb hs his) : AllL (DfA P w K mg base (wd K) 0 Phi) tc__law_draw.fs := trivial
theorem D__law_draw {P : Program} {w : World} {K : PySem.W.Frag} {h : Heap} {mg : Str → Option Value} {base : Heap} (X : K.In h) (G : h.Ns mainGlobals mg) (T : Top K) (gd : Gnd K mg (wd K) Gam tb hs his) : Df P w K mg base (wd K) 1 "_law_draw" (Phi "_law_draw") := df_ok (Φ := Phi) (Γ := Gam) (c := tc__law_draw) (m := 60) (n := 100) T.d__law_draw.F (PySem.W.mg_of X G T.d__law_draw.a) (B__law_draw T) (by decide +kernel) sc__law_draw tr__law_draw (A__law_draw X G T gd).get gd (by decide +kernel) k_law_draw
theorem B__law_whole {K : PySem.W.Frag} (T : Top K) : Binds K T.d__law_whole.fd ["number"] [] := T.d__law_whole.F.binds (ps := ["number"]) fun _ _ _ _ _ _ us hl => match us, hl with | [_], _ => rfl
theorem A__law_whole {P : Program} {w : World} {K : PySem.W.Frag} {h : Heap} {mg : Str → Option Value} {base : Heap} (X : K.In h) (G : h.Ns mainGlobals mg) (T : Top K) (gd : Gnd K mg (wd K) Gam tb hs his) : AllL (DfA P w K mg base (wd K) 0 Phi) tc__law_whole.fs := trivial
theorem D__law_whole {P : Program} {w : World} {K : PySem.W.Frag} {h : Heap} {mg : Str → Option Value} {base : Heap} (X : K.In h) (G : h.Ns mainGlobals mg) (T : Top K) (gd : Gnd K mg (wd K) Gam tb hs his) : Df P w K mg base (wd K) 1 "_law_whole" (Phi "_law_whole") := df_ok (Φ := Phi) (Γ := Gam) (c := tc__law_whole) (m := 60) (n := 100) T.d__law_whole.F (PySem.W.mg_of X G T.d__law_whole.a) (B__law_whole T) (by decide +kernel) sc__law_whole tr__law_whole (A__law_whole X G T gd).get gd (by decide +kernel) k_law_whole
theorem B__law_read {K : PySem.W.Frag} (T : Top K) : Binds K T.d__law_read.fd ["row", "at"] [] := T.d__law_read.F.binds (ps := ["row", "at"]) fun _ _ _ _ _ _ us hl => match us, hl with | [_, _], _ => rfl
theorem A__law_read {P : Program} {w : World} {K : PySem.W.Frag} {h : Heap} {mg : Str → Option Value} {base : Heap} (X : K.In h) (G : h.Ns mainGlobals mg) (T : Top K) (gd : Gnd K mg (wd K) Gam tb hs his) : AllL (DfA P w K mg base (wd K) 0 Phi) tc__law_read.fs := trivial
theorem D__law_read {P : Program} {w : World} {K : PySem.W.Frag} {h : Heap} {mg : Str → Option Value} {base : Heap} (X : K.In h) (G : h.Ns mainGlobals mg) (T : Top K) (gd : Gnd K mg (wd K) Gam tb hs his) : Df P w K mg base (wd K) 1 "_law_read" (Phi "_law_read") := df_ok (Φ := Phi) (Γ := Gam) (c := tc__law_read) (m := 60) (n := 100) T.d__law_read.F (PySem.W.mg_of X G T.d__law_read.a) (B__law_read T) (by decide +kernel) sc__law_read tr__law_read (A__law_read X G T gd).get gd (by decide +kernel) k_law_read
theorem B__law_ticks {K : PySem.W.Frag} (T : Top K) : Binds K T.d__law_ticks.fd ["runs"] [] := T.d__law_ticks.F.binds (ps := ["runs"]) fun _ _ _ _ _ _ us hl => match us, hl with | [_], _ => rfl
theorem A__law_ticks {P : Program} {w : World} {K : PySem.W.Frag} {h : Heap} {mg : Str → Option Value} {base : Heap} (X : K.In h) (G : h.Ns mainGlobals mg) (T : Top K) (gd : Gnd K mg (wd K) Gam tb hs his) : AllL (DfA P w K mg base (wd K) 0 Phi) tc__law_ticks.fs := trivial
theorem D__law_ticks {P : Program} {w : World} {K : PySem.W.Frag} {h : Heap} {mg : Str → Option Value} {base : Heap} (X : K.In h) (G : h.Ns mainGlobals mg) (T : Top K) (gd : Gnd K mg (wd K) Gam tb hs his) : Df P w K mg base (wd K) 1 "_law_ticks" (Phi "_law_ticks") := df_ok (Φ := Phi) (Γ := Gam) (c := tc__law_ticks) (m := 60) (n := 100) T.d__law_ticks.F (PySem.W.mg_of X G T.d__law_ticks.a) (B__law_ticks T) (by decide +kernel) sc__law_ticks tr__law_ticks (A__law_ticks X G T gd).get gd (by decide +kernel) k_law_ticks
theorem B_is_within {K : PySem.W.Frag} (T : Top K) : Binds K T.d_is_within.fd ["thing", "least", "most"] [] := T.d_is_within.F.binds (ps := ["thing", "least", "most"]) fun _ _ _ _ _ _ us hl => match us, hl with | [_, _, _], _ => rfl
theorem A_is_within {P : Program} {w : World} {K : PySem.W.Frag} {h : Heap} {mg : Str → Option Value} {base : Heap} (X : K.In h) (G : h.Ns mainGlobals mg) (T : Top K) (gd : Gnd K mg (wd K) Gam tb hs his) : AllL (DfA P w K mg base (wd K) 1 Phi) tc_is_within.fs := ⟨a_fn (tb := tb) (cis := cis) ((D_is_integer X G T gd).mono (by decide)) (by decide +kernel), trivial⟩
theorem D_is_within {P : Program} {w : World} {K : PySem.W.Frag} {h : Heap} {mg : Str → Option Value} {base : Heap} (X : K.In h) (G : h.Ns mainGlobals mg) (T : Top K) (gd : Gnd K mg (wd K) Gam tb hs his) : Df P w K mg base (wd K) 2 "is_within" (Phi "is_within") := df_ok (Φ := Phi) (Γ := Gam) (c := tc_is_within) (m := 60) (n := 100) T.d_is_within.F (PySem.W.mg_of X G T.d_is_within.a) (B_is_within T) (by decide +kernel) sc_is_within tr_is_within (A_is_within X G T gd).get gd (by decide +kernel) k_is_within
theorem B_taken {K : PySem.W.Frag} (T : Top K) : Binds K T.d_taken.fd ["row", "at"] [] := T.d_taken.F.binds (ps := ["row", "at"]) fun _ _ _ _ _ _ us hl => match us, hl with | [_, _], _ => rfl
theorem A_taken {P : Program} {w : World} {K : PySem.W.Frag} {h : Heap} {mg : Str → Option Value} {base : Heap} (X : K.In h) (G : h.Ns mainGlobals mg) (T : Top K) (gd : Gnd K mg (wd K) Gam tb hs his) : AllL (DfA P w K mg base (wd K) 1 Phi) tc_taken.fs := ⟨a_fn (tb := tb) (cis := cis) ((D_number_at X G T gd).mono (by decide)) (by decide +kernel), trivial⟩
theorem D_taken {P : Program} {w : World} {K : PySem.W.Frag} {h : Heap} {mg : Str → Option Value} {base : Heap} (X : K.In h) (G : h.Ns mainGlobals mg) (T : Top K) (gd : Gnd K mg (wd K) Gam tb hs his) : Df P w K mg base (wd K) 2 "taken" (Phi "taken") := df_ok (Φ := Phi) (Γ := Gam) (c := tc_taken) (m := 60) (n := 100) T.d_taken.F (PySem.W.mg_of X G T.d_taken.a) (B_taken T) (by decide +kernel) sc_taken tr_taken (A_taken X G T gd).get gd (by decide +kernel) k_taken
theorem B_run_row {K : PySem.W.Frag} (T : Top K) : Binds K T.d_run_row.fd ["inputs"] [] := T.d_run_row.F.binds (ps := ["inputs"]) fun _ _ _ _ _ _ us hl => match us, hl with | [_], _ => rfl
theorem A_run_row {P : Program} {w : World} {K : PySem.W.Frag} {h : Heap} {mg : Str → Option Value} {base : Heap} (X : K.In h) (G : h.Ns mainGlobals mg) (T : Top K) (gd : Gnd K mg (wd K) Gam tb hs his) : AllL (DfA P w K mg base (wd K) 1 Phi) tc_run_row.fs := ⟨a_fn (tb := tb) (cis := cis) ((D_runs_of X G T gd).mono (by decide)) (by decide +kernel), ⟨a_fn (tb := tb) (cis := cis) ((D_figures_of X G T gd).mono (by decide)) (by decide +kernel), trivial⟩⟩
theorem D_run_row {P : Program} {w : World} {K : PySem.W.Frag} {h : Heap} {mg : Str → Option Value} {base : Heap} (X : K.In h) (G : h.Ns mainGlobals mg) (T : Top K) (gd : Gnd K mg (wd K) Gam tb hs his) : Df P w K mg base (wd K) 2 "run_row" (Phi "run_row") := df_ok (Φ := Phi) (Γ := Gam) (c := tc_run_row) (m := 60) (n := 100) T.d_run_row.F (PySem.W.mg_of X G T.d_run_row.a) (B_run_row T) (by decide +kernel) sc_run_row tr_run_row (A_run_row X G T gd).get gd (by decide +kernel) k_run_row
theorem B__law_byte {K : PySem.W.Frag} (T : Top K) : Binds K T.d__law_byte.fd ["hand"] [] := T.d__law_byte.F.binds (ps := ["hand"]) fun _ _ _ _ _ _ us hl => match us, hl with | [_], _ => rfl
theorem A__law_byte {P : Program} {w : World} {K : PySem.W.Frag} {h : Heap} {mg : Str → Option Value} {base : Heap} (X : K.In h) (G : h.Ns mainGlobals mg) (T : Top K) (gd : Gnd K mg (wd K) Gam tb hs his) : AllL (DfA P w K mg base (wd K) 1 Phi) tc__law_byte.fs := ⟨a_fn (tb := tb) (cis := cis) ((D__law_draw X G T gd).mono (by decide)) (by decide +kernel), trivial⟩
theorem D__law_byte {P : Program} {w : World} {K : PySem.W.Frag} {h : Heap} {mg : Str → Option Value} {base : Heap} (X : K.In h) (G : h.Ns mainGlobals mg) (T : Top K) (gd : Gnd K mg (wd K) Gam tb hs his) : Df P w K mg base (wd K) 2 "_law_byte" (Phi "_law_byte") := df_ok (Φ := Phi) (Γ := Gam) (c := tc__law_byte) (m := 60) (n := 100) T.d__law_byte.F (PySem.W.mg_of X G T.d__law_byte.a) (B__law_byte T) (by decide +kernel) sc__law_byte tr__law_byte (A__law_byte X G T gd).get gd (by decide +kernel) k_law_byte
theorem B__law_run_bytes {K : PySem.W.Frag} (T : Top K) : Binds K T.d__law_run_bytes.fd ["runs"] [] := T.d__law_run_bytes.F.binds (ps := ["runs"]) fun _ _ _ _ _ _ us hl => match us, hl with | [_], _ => rfl
theorem A__law_run_bytes {P : Program} {w : World} {K : PySem.W.Frag} {h : Heap} {mg : Str → Option Value} {base : Heap} (X : K.In h) (G : h.Ns mainGlobals mg) (T : Top K) (gd : Gnd K mg (wd K) Gam tb hs his) : AllL (DfA P w K mg base (wd K) 1 Phi) tc__law_run_bytes.fs := ⟨a_fn (tb := tb) (cis := cis) ((D__law_whole X G T gd).mono (by decide)) (by decide +kernel), trivial⟩
theorem D__law_run_bytes {P : Program} {w : World} {K : PySem.W.Frag} {h : Heap} {mg : Str → Option Value} {base : Heap} (X : K.In h) (G : h.Ns mainGlobals mg) (T : Top K) (gd : Gnd K mg (wd K) Gam tb hs his) : Df P w K mg base (wd K) 2 "_law_run_bytes" (Phi "_law_run_bytes") := df_ok (Φ := Phi) (Γ := Gam) (c := tc__law_run_bytes) (m := 60) (n := 100) T.d__law_run_bytes.F (PySem.W.mg_of X G T.d__law_run_bytes.a) (B__law_run_bytes T) (by decide +kernel) sc__law_run_bytes tr__law_run_bytes (A__law_run_bytes X G T gd).get gd (by decide +kernel) k_law_run_bytes
theorem B__law_parsed {K : PySem.W.Frag} (T : Top K) : Binds K T.d__law_parsed.fd ["row", "at"] [] := T.d__law_parsed.F.binds (ps := ["row", "at"]) fun _ _ _ _ _ _ us hl => match us, hl with | [_, _], _ => rfl
theorem A__law_parsed {P : Program} {w : World} {K : PySem.W.Frag} {h : Heap} {mg : Str → Option Value} {base : Heap} (X : K.In h) (G : h.Ns mainGlobals mg) (T : Top K) (gd : Gnd K mg (wd K) Gam tb hs his) : AllL (DfA P w K mg base (wd K) 1 Phi) tc__law_parsed.fs := ⟨a_fn (tb := tb) (cis := cis) ((D__law_read X G T gd).mono (by decide)) (by decide +kernel), trivial⟩
theorem D__law_parsed {P : Program} {w : World} {K : PySem.W.Frag} {h : Heap} {mg : Str → Option Value} {base : Heap} (X : K.In h) (G : h.Ns mainGlobals mg) (T : Top K) (gd : Gnd K mg (wd K) Gam tb hs his) : Df P w K mg base (wd K) 2 "_law_parsed" (Phi "_law_parsed") := df_ok (Φ := Phi) (Γ := Gam) (c := tc__law_parsed) (m := 60) (n := 100) T.d__law_parsed.F (PySem.W.mg_of X G T.d__law_parsed.a) (B__law_parsed T) (by decide +kernel) sc__law_parsed tr__law_parsed (A__law_parsed X G T gd).get gd (by decide +kernel) k_law_parsed
theorem B_is_below {K : PySem.W.Frag} (T : Top K) : Binds K T.d_is_below.fd ["thing", "many"] [] := T.d_is_below.F.binds (ps := ["thing", "many"]) fun _ _ _ _ _ _ us hl => match us, hl with | [_, _], _ => rfl
theorem A_is_below {P : Program} {w : World} {K : PySem.W.Frag} {h : Heap} {mg : Str → Option Value} {base : Heap} (X : K.In h) (G : h.Ns mainGlobals mg) (T : Top K) (gd : Gnd K mg (wd K) Gam tb hs his) : AllL (DfA P w K mg base (wd K) 2 Phi) tc_is_below.fs := ⟨a_fn (tb := tb) (cis := cis) ((D_is_within X G T gd).mono (by decide)) (by decide +kernel), trivial⟩
theorem D_is_below {P : Program} {w : World} {K : PySem.W.Frag} {h : Heap} {mg : Str → Option Value} {base : Heap} (X : K.In h) (G : h.Ns mainGlobals mg) (T : Top K) (gd : Gnd K mg (wd K) Gam tb hs his) : Df P w K mg base (wd K) 3 "is_below" (Phi "is_below") := df_ok (Φ := Phi) (Γ := Gam) (c := tc_is_below) (m := 60) (n := 100) T.d_is_below.F (PySem.W.mg_of X G T.d_is_below.a) (B_is_below T) (by decide +kernel) sc_is_below tr_is_below (A_is_below X G T gd).get gd (by decide +kernel) k_is_below
theorem B_Reader_next_number {K : PySem.W.Frag} (T : Top K) : Binds K T.d_Reader_next_number.fd ["self"] [] := T.d_Reader_next_number.F.binds (ps := ["self"]) fun _ _ _ _ _ _ us hl => match us, hl with | [_], _ => rfl
theorem A_Reader_next_number {P : Program} {w : World} {K : PySem.W.Frag} {h : Heap} {mg : Str → Option Value} {base : Heap} (X : K.In h) (G : h.Ns mainGlobals mg) (T : Top K) (gd : Gnd K mg (wd K) Gam tb hs his) : AllL (DfA P w K mg base (wd K) 2 Phi) tc_Reader_next_number.fs := ⟨a_fn (tb := tb) (cis := cis) ((D_taken X G T gd).mono (by decide)) (by decide +kernel), ⟨a_ic (tb := tb) (cis := cis) ⟨⟨T.c_Reader.C, T.c_Reader.xg, T.c_Reader.cl, T.c_Reader.nf.get _ (by decide +kernel)⟩, trivial⟩, ⟨a_ic (tb := tb) (cis := cis) ⟨⟨T.c_Reader.C, T.c_Reader.xg, T.c_Reader.cl, T.c_Reader.nf.get _ (by decide +kernel)⟩, trivial⟩, ⟨a_ic (tb := tb) (cis := cis) ⟨⟨T.c_Reader.C, T.c_Reader.xg, T.c_Reader.cl, T.c_Reader.nf.get _ (by decide +kernel)⟩, trivial⟩, trivial⟩⟩⟩⟩
theorem E_Reader_next_number {P : Program} {w : World} {K : PySem.W.Frag} {h : Heap} {mg : Str → Option Value} {base : Heap} (X : K.In h) (G : h.Ns mainGlobals mg) (T : Top K) (gd : Gnd K mg (wd K) Gam tb hs his) : FnG P w K mg base (L2.CX P w) 3 T.d_Reader_next_number.f T.d_Reader_next_number.fd ["self"] (spV (wd K) s_Reader_next_number) := fn_ok (Φ := Phi) (Γ := Gam) (c := tc_Reader_next_number) (m := 60) (n := 100) T.d_Reader_next_number.F sc_Reader_next_number tr_Reader_next_number (A_Reader_next_number X G T gd).get gd (by decide +kernel) k_Reader_next_number
theorem B__law_bytes {K : PySem.W.Frag} (T : Top K) : Binds K T.d__law_bytes.fd ["hand", "most"] [] := T.d__law_bytes.F.binds (ps := ["hand", "most"]) fun _ _ _ _ _ _ us hl => match us, hl with | [_, _], _ => rfl
theorem A__law_bytes {P : Program} {w : World} {K : PySem.W.Frag} {h : Heap} {mg : Str → Option Value} {base : Heap} (X : K.In h) (G : h.Ns mainGlobals mg) (T : Top K) (gd : Gnd K mg (wd K) Gam tb hs his) : AllL (DfA P w K mg base (wd K) 2 Phi) tc__law_bytes.fs := ⟨a_fn (tb := tb) (cis := cis) ((D__law_draw X G T gd).mono (by decide)) (by decide +kernel), ⟨a_fn (tb := tb) (cis := cis) ((D__law_byte X G T gd).mono (by decide)) (by decide +kernel), trivial⟩⟩
theorem D__law_bytes {P : Program} {w : World} {K : PySem.W.Frag} {h : Heap} {mg : Str → Option Value} {base : Heap} (X : K.In h) (G : h.Ns mainGlobals mg) (T : Top K) (gd : Gnd K mg (wd K) Gam tb hs his) : Df P w K mg base (wd K) 3 "_law_bytes" (Phi "_law_bytes") := df_ok (Φ := Phi) (Γ := Gam) (c := tc__law_bytes) (m := 60) (n := 100) T.d__law_bytes.F (PySem.W.mg_of X G T.d__law_bytes.a) (B__law_bytes T) (by decide +kernel) sc__law_bytes tr__law_bytes (A__law_bytes X G T gd).get gd (by decide +kernel) k_law_bytes
theorem B__law_runs {K : PySem.W.Frag} (T : Top K) : Binds K T.d__law_runs.fd ["hand"] [] := T.d__law_runs.F.binds (ps := ["hand"]) fun _ _ _ _ _ _ us hl => match us, hl with | [_], _ => rfl
theorem A__law_runs {P : Program} {w : World} {K : PySem.W.Frag} {h : Heap} {mg : Str → Option Value} {base : Heap} (X : K.In h) (G : h.Ns mainGlobals mg) (T : Top K) (gd : Gnd K mg (wd K) Gam tb hs his) : AllL (DfA P w K mg base (wd K) 2 Phi) tc__law_runs.fs := ⟨a_fn (tb := tb) (cis := cis) ((D__law_draw X G T gd).mono (by decide)) (by decide +kernel), ⟨a_fn (tb := tb) (cis := cis) ((D__law_byte X G T gd).mono (by decide)) (by decide +kernel), trivial⟩⟩
theorem D__law_runs {P : Program} {w : World} {K : PySem.W.Frag} {h : Heap} {mg : Str → Option Value} {base : Heap} (X : K.In h) (G : h.Ns mainGlobals mg) (T : Top K) (gd : Gnd K mg (wd K) Gam tb hs his) : Df P w K mg base (wd K) 3 "_law_runs" (Phi "_law_runs") := df_ok (Φ := Phi) (Γ := Gam) (c := tc__law_runs) (m := 60) (n := 100) T.d__law_runs.F (PySem.W.mg_of X G T.d__law_runs.a) (B__law_runs T) (by decide +kernel) sc__law_runs tr__law_runs (A__law_runs X G T gd).get gd (by decide +kernel) k_law_runs
theorem B__law_input_bytes {K : PySem.W.Frag} (T : Top K) : Binds K T.d__law_input_bytes.fd ["inputs"] [] := T.d__law_input_bytes.F.binds (ps := ["inputs"]) fun _ _ _ _ _ _ us hl => match us, hl with | [_], _ => rfl
theorem A__law_input_bytes {P : Program} {w : World} {K : PySem.W.Frag} {h : Heap} {mg : Str → Option Value} {base : Heap} (X : K.In h) (G : h.Ns mainGlobals mg) (T : Top K) (gd : Gnd K mg (wd K) Gam tb hs his) : AllL (DfA P w K mg base (wd K) 2 Phi) tc__law_input_bytes.fs := ⟨a_fn (tb := tb) (cis := cis) ((D__law_run_bytes X G T gd).mono (by decide)) (by decide +kernel), trivial⟩
theorem D__law_input_bytes {P : Program} {w : World} {K : PySem.W.Frag} {h : Heap} {mg : Str → Option Value} {base : Heap} (X : K.In h) (G : h.Ns mainGlobals mg) (T : Top K) (gd : Gnd K mg (wd K) Gam tb hs his) : Df P w K mg base (wd K) 3 "_law_input_bytes" (Phi "_law_input_bytes") := df_ok (Φ := Phi) (Γ := Gam) (c := tc__law_input_bytes) (m := 60) (n := 100) T.d__law_input_bytes.F (PySem.W.mg_of X G T.d__law_input_bytes.a) (B__law_input_bytes T) (by decide +kernel) sc__law_input_bytes tr__law_input_bytes (A__law_input_bytes X G T gd).get gd (by decide +kernel) k_law_input_bytes
theorem B__law_wrong_runs {K : PySem.W.Frag} (T : Top K) : Binds K T.d__law_wrong_runs.fd ["hand", "runs"] [] := T.d__law_wrong_runs.F.binds (ps := ["hand", "runs"]) fun _ _ _ _ _ _ us hl => match us, hl with | [_, _], _ => rfl
theorem A__law_wrong_runs {P : Program} {w : World} {K : PySem.W.Frag} {h : Heap} {mg : Str → Option Value} {base : Heap} (X : K.In h) (G : h.Ns mainGlobals mg) (T : Top K) (gd : Gnd K mg (wd K) Gam tb hs his) : AllL (DfA P w K mg base (wd K) 2 Phi) tc__law_wrong_runs.fs := ⟨a_fn (tb := tb) (cis := cis) ((D__law_draw X G T gd).mono (by decide)) (by decide +kernel), ⟨a_fn (tb := tb) (cis := cis) ((D__law_byte X G T gd).mono (by decide)) (by decide +kernel), trivial⟩⟩
theorem D__law_wrong_runs {P : Program} {w : World} {K : PySem.W.Frag} {h : Heap} {mg : Str → Option Value} {base : Heap} (X : K.In h) (G : h.Ns mainGlobals mg) (T : Top K) (gd : Gnd K mg (wd K) Gam tb hs his) : Df P w K mg base (wd K) 3 "_law_wrong_runs" (Phi "_law_wrong_runs") := df_ok (Φ := Phi) (Γ := Gam) (c := tc__law_wrong_runs) (m := 60) (n := 100) T.d__law_wrong_runs.F (PySem.W.mg_of X G T.d__law_wrong_runs.a) (B__law_wrong_runs T) (by decide +kernel) sc__law_wrong_runs tr__law_wrong_runs (A__law_wrong_runs X G T gd).get gd (by decide +kernel) k_law_wrong_runs
theorem B_is_row {K : PySem.W.Frag} (T : Top K) : Binds K T.d_is_row.fd ["thing"] [] := T.d_is_row.F.binds (ps := ["thing"]) fun _ _ _ _ _ _ us hl => match us, hl with | [_], _ => rfl
theorem A_is_row {P : Program} {w : World} {K : PySem.W.Frag} {h : Heap} {mg : Str → Option Value} {base : Heap} (X : K.In h) (G : h.Ns mainGlobals mg) (T : Top K) (gd : Gnd K mg (wd K) Gam tb hs his) : AllL (DfA P w K mg base (wd K) 3 Phi) tc_is_row.fs := ⟨a_fn (tb := tb) (cis := cis) ((D_is_below X G T gd).mono (by decide)) (by decide +kernel), trivial⟩
theorem D_is_row {P : Program} {w : World} {K : PySem.W.Frag} {h : Heap} {mg : Str → Option Value} {base : Heap} (X : K.In h) (G : h.Ns mainGlobals mg) (T : Top K) (gd : Gnd K mg (wd K) Gam tb hs his) : Df P w K mg base (wd K) 4 "is_row" (Phi "is_row") := df_ok (Φ := Phi) (Γ := Gam) (c := tc_is_row) (m := 60) (n := 100) T.d_is_row.F (PySem.W.mg_of X G T.d_is_row.a) (B_is_row T) (by decide +kernel) sc_is_row tr_is_row (A_is_row X G T gd).get gd (by decide +kernel) k_is_row
theorem B_is_input {K : PySem.W.Frag} (T : Top K) : Binds K T.d_is_input.fd ["thing"] [] := T.d_is_input.F.binds (ps := ["thing"]) fun _ _ _ _ _ _ us hl => match us, hl with | [_], _ => rfl
theorem A_is_input {P : Program} {w : World} {K : PySem.W.Frag} {h : Heap} {mg : Str → Option Value} {base : Heap} (X : K.In h) (G : h.Ns mainGlobals mg) (T : Top K) (gd : Gnd K mg (wd K) Gam tb hs his) : AllL (DfA P w K mg base (wd K) 3 Phi) tc_is_input.fs := ⟨a_fn (tb := tb) (cis := cis) ((D_is_below X G T gd).mono (by decide)) (by decide +kernel), trivial⟩
theorem D_is_input {P : Program} {w : World} {K : PySem.W.Frag} {h : Heap} {mg : Str → Option Value} {base : Heap} (X : K.In h) (G : h.Ns mainGlobals mg) (T : Top K) (gd : Gnd K mg (wd K) Gam tb hs his) : Df P w K mg base (wd K) 4 "is_input" (Phi "is_input") := df_ok (Φ := Phi) (Γ := Gam) (c := tc_is_input) (m := 60) (n := 100) T.d_is_input.F (PySem.W.mg_of X G T.d_is_input.a) (B_is_input T) (by decide +kernel) sc_is_input tr_is_input (A_is_input X G T gd).get gd (by decide +kernel) k_is_input
theorem B_taken_inputs {K : PySem.W.Frag} (T : Top K) : Binds K T.d_taken_inputs.fd ["reader"] [] := T.d_taken_inputs.F.binds (ps := ["reader"]) fun _ _ _ _ _ _ us hl => match us, hl with | [_], _ => rfl
theorem A_taken_inputs {P : Program} {w : World} {K : PySem.W.Frag} {h : Heap} {mg : Str → Option Value} {base : Heap} (X : K.In h) (G : h.Ns mainGlobals mg) (T : Top K) (gd : Gnd K mg (wd K) Gam tb hs his) : AllL (DfA P w K mg base (wd K) 3 Phi) tc_taken_inputs.fs := ⟨a_mt (tb := tb) (cis := cis) ⟨⟨T.c_Reader.C, T.c_Reader.xg, fun _ => (by rw [mN_Reader_next_number]; exact ⟨T.d_Reader_next_number.f, _, _, T.c_Reader.cl, T.d_Reader_next_number.me, B_Reader_next_number T, (E_Reader_next_number X G T gd).mono (by decide)⟩)⟩, trivial⟩, ⟨a_mt (tb := tb) (cis := cis) ⟨⟨T.c_Reader.C, T.c_Reader.xg, fun _ => (by rw [mN_Reader_next_byte]; exact ⟨T.d_Reader_next_byte.f, _, _, T.c_Reader.cl, T.d_Reader_next_byte.me, B_Reader_next_byte T, (E_Reader_next_byte X G T gd).mono (by decide)⟩)⟩, trivial⟩, ⟨a_ic (tb := tb) (cis := cis) ⟨⟨T.c_Reader.C, T.c_Reader.xg, T.c_Reader.cl, T.c_Reader.nf.get _ (by decide +kernel)⟩, trivial⟩, trivial⟩⟩⟩
theorem D_taken_inputs {P : Program} {w : World} {K : PySem.W.Frag} {h : Heap} {mg : Str → Option Value} {base : Heap} (X : K.In h) (G : h.Ns mainGlobals mg) (T : Top K) (gd : Gnd K mg (wd K) Gam tb hs his) : Df P w K mg base (wd K) 4 "taken_inputs" (Phi "taken_inputs") := df_ok (Φ := Phi) (Γ := Gam) (c := tc_taken_inputs) (m := 60) (n := 100) T.d_taken_inputs.F (PySem.W.mg_of X G T.d_taken_inputs.a) (B_taken_inputs T) (by decide +kernel) sc_taken_inputs tr_taken_inputs (A_taken_inputs X G T gd).get gd (by decide +kernel) k_taken_inputs
theorem B__law_spoilt {K : PySem.W.Frag} (T : Top K) : Binds K T.d__law_spoilt.fd ["hand", "row"] [] := T.d__law_spoilt.F.binds (ps := ["hand", "row"]) fun _ _ _ _ _ _ us hl => match us, hl with | [_, _], _ => rfl
theorem A__law_spoilt {P : Program} {w : World} {K : PySem.W.Frag} {h : Heap} {mg : Str → Option Value} {base : Heap} (X : K.In h) (G : h.Ns mainGlobals mg) (T : Top K) (gd : Gnd K mg (wd K) Gam tb hs his) : AllL (DfA P w K mg base (wd K) 3 Phi) tc__law_spoilt.fs := ⟨a_fn (tb := tb) (cis := cis) ((D__law_draw X G T gd).mono (by decide)) (by decide +kernel), ⟨a_fn (tb := tb) (cis := cis) ((D__law_byte X G T gd).mono (by decide)) (by decide +kernel), ⟨a_fn (tb := tb) (cis := cis) ((D__law_bytes X G T gd).mono (by decide)) (by decide +kernel), trivial⟩⟩⟩
theorem D__law_spoilt {P : Program} {w : World} {K : PySem.W.Frag} {h : Heap} {mg : Str → Option Value} {base : Heap} (X : K.In h) (G : h.Ns mainGlobals mg) (T : Top K) (gd : Gnd K mg (wd K) Gam tb hs his) : Df P w K mg base (wd K) 4 "_law_spoilt" (Phi "_law_spoilt") := df_ok (Φ := Phi) (Γ := Gam) (c := tc__law_spoilt) (m := 60) (n := 100) T.d__law_spoilt.F (PySem.W.mg_of X G T.d__law_spoilt.a) (B__law_spoilt T) (by decide +kernel) sc__law_spoilt tr__law_spoilt (A__law_spoilt X G T gd).get gd (by decide +kernel) k_law_spoilt
theorem B_check_row {K : PySem.W.Frag} (T : Top K) : Binds K T.d_check_row.fd ["thing"] [] := T.d_check_row.F.binds (ps := ["thing"]) fun _ _ _ _ _ _ us hl => match us, hl with | [_], _ => rfl
theorem A_check_row {P : Program} {w : World} {K : PySem.W.Frag} {h : Heap} {mg : Str → Option Value} {base : Heap} (X : K.In h) (G : h.Ns mainGlobals mg) (T : Top K) (gd : Gnd K mg (wd K) Gam tb hs his) : AllL (DfA P w K mg base (wd K) 4 Phi) tc_check_row.fs := ⟨a_fn (tb := tb) (cis := cis) ((D_is_row X G T gd).mono (by decide)) (by decide +kernel), trivial⟩
theorem D_check_row {P : Program} {w : World} {K : PySem.W.Frag} {h : Heap} {mg : Str → Option Value} {base : Heap} (X : K.In h) (G : h.Ns mainGlobals mg) (T : Top K) (gd : Gnd K mg (wd K) Gam tb hs his) : Df P w K mg base (wd K) 5 "check_row" (Phi "check_row") := df_ok (Φ := Phi) (Γ := Gam) (c := tc_check_row) (m := 60) (n := 100) T.d_check_row.F (PySem.W.mg_of X G T.d_check_row.a) (B_check_row T) (by decide +kernel) sc_check_row tr_check_row (A_check_row X G T gd).get gd (by decide +kernel) k_check_row
theorem B_are_inputs {K : PySem.W.Frag} (T : Top K) : Binds K T.d_are_inputs.fd ["thing"] [] := T.d_are_inputs.F.binds (ps := ["thing"]) fun _ _ _ _ _ _ us hl => match us, hl with | [_], _ => rfl
theorem A_are_inputs {P : Program} {w : World} {K : PySem.W.Frag} {h : Heap} {mg : Str → Option Value} {base : Heap} (X : K.In h) (G : h.Ns mainGlobals mg) (T : Top K) (gd : Gnd K mg (wd K) Gam tb hs his) : AllL (DfA P w K mg base (wd K) 4 Phi) tc_are_inputs.fs := ⟨a_fn (tb := tb) (cis := cis) ((D_is_input X G T gd).mono (by decide)) (by decide +kernel), trivial⟩
theorem D_are_inputs {P : Program} {w : World} {K : PySem.W.Frag} {h : Heap} {mg : Str → Option Value} {base : Heap} (X : K.In h) (G : h.Ns mainGlobals mg) (T : Top K) (gd : Gnd K mg (wd K) Gam tb hs his) : Df P w K mg base (wd K) 5 "are_inputs" (Phi "are_inputs") := df_ok (Φ := Phi) (Γ := Gam) (c := tc_are_inputs) (m := 60) (n := 100) T.d_are_inputs.F (PySem.W.mg_of X G T.d_are_inputs.a) (B_are_inputs T) (by decide +kernel) sc_are_inputs tr_are_inputs (A_are_inputs X G T gd).get gd (by decide +kernel) k_are_inputs
theorem B_check_input {K : PySem.W.Frag} (T : Top K) : Binds K T.d_check_input.fd ["thing"] [] := T.d_check_input.F.binds (ps := ["thing"]) fun _ _ _ _ _ _ us hl => match us, hl with | [_], _ => rfl
theorem A_check_input {P : Program} {w : World} {K : PySem.W.Frag} {h : Heap} {mg : Str → Option Value} {base : Heap} (X : K.In h) (G : h.Ns mainGlobals mg) (T : Top K) (gd : Gnd K mg (wd K) Gam tb hs his) : AllL (DfA P w K mg base (wd K) 4 Phi) tc_check_input.fs := ⟨a_fn (tb := tb) (cis := cis) ((D_is_input X G T gd).mono (by decide)) (by decide +kernel), trivial⟩
theorem D_check_input {P : Program} {w : World} {K : PySem.W.Frag} {h : Heap} {mg : Str → Option Value} {base : Heap} (X : K.In h) (G : h.Ns mainGlobals mg) (T : Top K) (gd : Gnd K mg (wd K) Gam tb hs his) : Df P w K mg base (wd K) 5 "check_input" (Phi "check_input") := df_ok (Φ := Phi) (Γ := Gam) (c := tc_check_input) (m := 60) (n := 100) T.d_check_input.F (PySem.W.mg_of X G T.d_check_input.a) (B_check_input T) (by decide +kernel) sc_check_input tr_check_input (A_check_input X G T gd).get gd (by decide +kernel) k_check_input
theorem B_check_place {K : PySem.W.Frag} (T : Top K) : Binds K T.d_check_place.fd ["row", "at"] [] := T.d_check_place.F.binds (ps := ["row", "at"]) fun _ _ _ _ _ _ us hl => match us, hl with | [_, _], _ => rfl
theorem A_check_place {P : Program} {w : World} {K : PySem.W.Frag} {h : Heap} {mg : Str → Option Value} {base : Heap} (X : K.In h) (G : h.Ns mainGlobals mg) (T : Top K) (gd : Gnd K mg (wd K) Gam tb hs his) : AllL (DfA P w K mg base (wd K) 5 Phi) tc_check_place.fs := ⟨a_fn (tb := tb) (cis := cis) ((D_check_row X G T gd).mono (by decide)) (by decide +kernel), ⟨a_fn (tb := tb) (cis := cis) ((D_is_within X G T gd).mono (by decide)) (by decide +kernel), trivial⟩⟩
theorem D_check_place {P : Program} {w : World} {K : PySem.W.Frag} {h : Heap} {mg : Str → Option Value} {base : Heap} (X : K.In h) (G : h.Ns mainGlobals mg) (T : Top K) (gd : Gnd K mg (wd K) Gam tb hs his) : Df P w K mg base (wd K) 6 "check_place" (Phi "check_place") := df_ok (Φ := Phi) (Γ := Gam) (c := tc_check_place) (m := 60) (n := 100) T.d_check_place.F (PySem.W.mg_of X G T.d_check_place.a) (B_check_place T) (by decide +kernel) sc_check_place tr_check_place (A_check_place X G T gd).get gd (by decide +kernel) k_check_place
theorem B_check_inputs {K : PySem.W.Frag} (T : Top K) : Binds K T.d_check_inputs.fd ["thing"] [] := T.d_check_inputs.F.binds (ps := ["thing"]) fun _ _ _ _ _ _ us hl => match us, hl with | [_], _ => rfl
theorem A_check_inputs {P : Program} {w : World} {K : PySem.W.Frag} {h : Heap} {mg : Str → Option Value} {base : Heap} (X : K.In h) (G : h.Ns mainGlobals mg) (T : Top K) (gd : Gnd K mg (wd K) Gam tb hs his) : AllL (DfA P w K mg base (wd K) 5 Phi) tc_check_inputs.fs := ⟨a_fn (tb := tb) (cis := cis) ((D_are_inputs X G T gd).mono (by decide)) (by decide +kernel), trivial⟩
theorem D_check_inputs {P : Program} {w : World} {K : PySem.W.Frag} {h : Heap} {mg : Str → Option Value} {base : Heap} (X : K.In h) (G : h.Ns mainGlobals mg) (T : Top K) (gd : Gnd K mg (wd K) Gam tb hs his) : Df P w K mg base (wd K) 6 "check_inputs" (Phi "check_inputs") := df_ok (Φ := Phi) (Γ := Gam) (c := tc_check_inputs) (m := 60) (n := 100) T.d_check_inputs.F (PySem.W.mg_of X G T.d_check_inputs.a) (B_check_inputs T) (by decide +kernel) sc_check_inputs tr_check_inputs (A_check_inputs X G T gd).get gd (by decide +kernel) k_check_inputs
theorem B_guess {K : PySem.W.Frag} (T : Top K) : Binds K T.d_guess.fd ["last", "ago", "hold"] [] := T.d_guess.F.binds (ps := ["last", "ago", "hold"]) fun _ _ _ _ _ _ us hl => match us, hl with | [_, _, _], _ => rfl
theorem A_guess {P : Program} {w : World} {K : PySem.W.Frag} {h : Heap} {mg : Str → Option Value} {base : Heap} (X : K.In h) (G : h.Ns mainGlobals mg) (T : Top K) (gd : Gnd K mg (wd K) Gam tb hs his) : AllL (DfA P w K mg base (wd K) 5 Phi) tc_guess.fs := ⟨a_fn (tb := tb) (cis := cis) ((D_check_input X G T gd).mono (by decide)) (by decide +kernel), ⟨a_fn (tb := tb) (cis := cis) ((D_is_within X G T gd).mono (by decide)) (by decide +kernel), ⟨a_fn (tb := tb) (cis := cis) ((D_guessed X G T gd).mono (by decide)) (by decide +kernel), trivial⟩⟩⟩
theorem D_guess {P : Program} {w : World} {K : PySem.W.Frag} {h : Heap} {mg : Str → Option Value} {base : Heap} (X : K.In h) (G : h.Ns mainGlobals mg) (T : Top K) (gd : Gnd K mg (wd K) Gam tb hs his) : Df P w K mg base (wd K) 6 "guess" (Phi "guess") := df_ok (Φ := Phi) (Γ := Gam) (c := tc_guess) (m := 60) (n := 100) T.d_guess.F (PySem.W.mg_of X G T.d_guess.a) (B_guess T) (by decide +kernel) sc_guess tr_guess (A_guess X G T gd).get gd (by decide +kernel) k_guess
theorem B__law_is {K : PySem.W.Frag} (T : Top K) : Binds K T.d__law_is.fd ["told", "due"] [] := T.d__law_is.F.binds (ps := ["told", "due"]) fun _ _ _ _ _ _ us hl => match us, hl with | [_, _], _ => rfl
theorem R__law_is {P : Program} {w : World} {K : PySem.W.Frag} {h : Heap} {mg : Str → Option Value} {base : Heap} (X : K.In h) (G : h.Ns mainGlobals mg) (T : Top K) (gd : Gnd K mg (wd K) Gam tb hs his) : ∀ n, Df P w K mg base (wd K) (1 + n) "_law_is" (PhiL n "_law_is") := by
  refine df_rec ?_ fun n Z => ?_
  · exact df_none T.d__law_is.F (PySem.W.mg_of X G T.d__law_is.a) (B__law_is T) (by decide +kernel) k_law_is_none
  · have a : AllL (DfA P w K mg base (wd K) (1 + n) (PhiL n)) tc__law_is.fs := ⟨a_fn (tb := tb) (cis := cis) Z (by decide +kernel), trivial⟩
    exact df_ok (Φ := PhiL n) (Γ := Gam) (c := tc__law_is) (m := 60) (n := 100) T.d__law_is.F (PySem.W.mg_of X G T.d__law_is.a) (B__law_is T) (by decide +kernel) sc__law_is tr__law_is a.get gd (by decide +kernel) (k_law_is n)
theorem D__law_is {P : Program} {w : World} {K : PySem.W.Frag} {h : Heap} {mg : Str → Option Value} {base : Heap} (X : K.In h) (G : h.Ns mainGlobals mg) (T : Top K) (gd : Gnd K mg (wd K) Gam tb hs his) : Df P w K mg base (wd K) 6 "_law_is" (Phi "_law_is") := R__law_is X G T gd 5
theorem B_input_row {K : PySem.W.Frag} (T : Top K) : Binds K T.d_input_row.fd ["inputs"] [] := T.d_input_row.F.binds (ps := ["inputs"]) fun _ _ _ _ _ _ us hl => match us, hl with | [_], _ => rfl
theorem A_input_row {P : Program} {w : World} {K : PySem.W.Frag} {h : Heap} {mg : Str → Option Value} {base : Heap} (X : K.In h) (G : h.Ns mainGlobals mg) (T : Top K) (gd : Gnd K mg (wd K) Gam tb hs his) : AllL (DfA P w K mg base (wd K) 6 Phi) tc_input_row.fs := ⟨a_fn (tb := tb) (cis := cis) ((D_check_inputs X G T gd).mono (by decide)) (by decide +kernel), ⟨a_fn (tb := tb) (cis := cis) ((D_run_row X G T gd).mono (by decide)) (by decide +kernel), trivial⟩⟩
theorem D_input_row {P : Program} {w : World} {K : PySem.W.Frag} {h : Heap} {mg : Str → Option Value} {base : Heap} (X : K.In h) (G : h.Ns mainGlobals mg) (T : Top K) (gd : Gnd K mg (wd K) Gam tb hs his) : Df P w K mg base (wd K) 7 "input_row" (Phi "input_row") := df_ok (Φ := Phi) (Γ := Gam) (c := tc_input_row) (m := 60) (n := 100) T.d_input_row.F (PySem.W.mg_of X G T.d_input_row.a) (B_input_row T) (by decide +kernel) sc_input_row tr_input_row (A_input_row X G T gd).get gd (by decide +kernel) k_input_row
theorem B_read_inputs {K : PySem.W.Frag} (T : Top K) : Binds K T.d_read_inputs.fd ["row", "at"] [] := T.d_read_inputs.F.binds (ps := ["row", "at"]) fun _ _ _ _ _ _ us hl => match us, hl with | [_, _], _ => rfl
theorem A_read_inputs {P : Program} {w : World} {K : PySem.W.Frag} {h : Heap} {mg : Str → Option Value} {base : Heap} (X : K.In h) (G : h.Ns mainGlobals mg) (T : Top K) (gd : Gnd K mg (wd K) Gam tb hs his) : AllL (DfA P w K mg base (wd K) 6 Phi) tc_read_inputs.fs := ⟨a_fn (tb := tb) (cis := cis) ((D_check_place X G T gd).mono (by decide)) (by decide +kernel), ⟨a_fn (tb := tb) (cis := cis) ((D_taken_inputs X G T gd).mono (by decide)) (by decide +kernel), ⟨a_mk (tb := tb) (cis := cis) X G T.c_Reader T.d_Reader___init__ (by decide +kernel) (B_Reader___init__ T) (by rw [mN_Reader___init__]; exact E_Reader___init__ X G T gd) (by decide) (by decide +kernel), ⟨a_ic (tb := tb) (cis := cis) ⟨⟨T.c_Reader.C, T.c_Reader.xg, T.c_Reader.cl, T.c_Reader.nf.get _ (by decide +kernel)⟩, trivial⟩, trivial⟩⟩⟩⟩
theorem D_read_inputs {P : Program} {w : World} {K : PySem.W.Frag} {h : Heap} {mg : Str → Option Value} {base : Heap} (X : K.In h) (G : h.Ns mainGlobals mg) (T : Top K) (gd : Gnd K mg (wd K) Gam tb hs his) : Df P w K mg base (wd K) 7 "read_inputs" (Phi "read_inputs") := df_ok (Φ := Phi) (Γ := Gam) (c := tc_read_inputs) (m := 60) (n := 100) T.d_read_inputs.F (PySem.W.mg_of X G T.d_read_inputs.a) (B_read_inputs T) (by decide +kernel) sc_read_inputs tr_read_inputs (A_read_inputs X G T gd).get gd (by decide +kernel) k_read_inputs
theorem B__law_is_guess {K : PySem.W.Frag} (T : Top K) : Binds K T.d__law_is_guess.fd ["hand"] [] := T.d__law_is_guess.F.binds (ps := ["hand"]) fun _ _ _ _ _ _ us hl => match us, hl with | [_], _ => rfl
theorem A__law_is_guess {P : Program} {w : World} {K : PySem.W.Frag} {h : Heap} {mg : Str → Option Value} {base : Heap} (X : K.In h) (G : h.Ns mainGlobals mg) (T : Top K) (gd : Gnd K mg (wd K) Gam tb hs his) : AllL (DfA P w K mg base (wd K) 6 Phi) tc__law_is_guess.fs := ⟨a_fn (tb := tb) (cis := cis) ((D__law_draw X G T gd).mono (by decide)) (by decide +kernel), ⟨a_fn (tb := tb) (cis := cis) ((D__law_is X G T gd).mono (by decide)) (by decide +kernel), ⟨a_fn (tb := tb) (cis := cis) ((D_guess X G T gd).mono (by decide)) (by decide +kernel), trivial⟩⟩⟩
theorem D__law_is_guess {P : Program} {w : World} {K : PySem.W.Frag} {h : Heap} {mg : Str → Option Value} {base : Heap} (X : K.In h) (G : h.Ns mainGlobals mg) (T : Top K) (gd : Gnd K mg (wd K) Gam tb hs his) : Df P w K mg base (wd K) 7 "_law_is_guess" (Phi "_law_is_guess") := df_ok (Φ := Phi) (Γ := Gam) (c := tc__law_is_guess) (m := 60) (n := 100) T.d__law_is_guess.F (PySem.W.mg_of X G T.d__law_is_guess.a) (B__law_is_guess T) (by decide +kernel) sc__law_is_guess tr__law_is_guess (A__law_is_guess X G T gd).get gd (by decide +kernel) k_law_is_guess
theorem B__law_read_told {K : PySem.W.Frag} (T : Top K) : Binds K T.d__law_read_told.fd ["row", "at"] [] := T.d__law_read_told.F.binds (ps := ["row", "at"]) fun _ _ _ _ _ _ us hl => match us, hl with | [_, _], _ => rfl
theorem A__law_read_told {P : Program} {w : World} {K : PySem.W.Frag} {h : Heap} {mg : Str → Option Value} {base : Heap} (X : K.In h) (G : h.Ns mainGlobals mg) (T : Top K) (gd : Gnd K mg (wd K) Gam tb hs his) : AllL (DfA P w K mg base (wd K) 7 Phi) tc__law_read_told.fs := ⟨a_fn (tb := tb) (cis := cis) ((D_read_inputs X G T gd).mono (by decide)) (by decide +kernel), trivial⟩
theorem D__law_read_told {P : Program} {w : World} {K : PySem.W.Frag} {h : Heap} {mg : Str → Option Value} {base : Heap} (X : K.In h) (G : h.Ns mainGlobals mg) (T : Top K) (gd : Gnd K mg (wd K) Gam tb hs his) : Df P w K mg base (wd K) 8 "_law_read_told" (Phi "_law_read_told") := df_ok (Φ := Phi) (Γ := Gam) (c := tc__law_read_told) (m := 60) (n := 100) T.d__law_read_told.F (PySem.W.mg_of X G T.d__law_read_told.a) (B__law_read_told T) (by decide +kernel) sc__law_read_told tr__law_read_told (A__law_read_told X G T gd).get gd (by decide +kernel) k_law_read_told
theorem B__law_is_told {K : PySem.W.Frag} (T : Top K) : Binds K T.d__law_is_told.fd ["row", "at"] [] := T.d__law_is_told.F.binds (ps := ["row", "at"]) fun _ _ _ _ _ _ us hl => match us, hl with | [_, _], _ => rfl
theorem A__law_is_told {P : Program} {w : World} {K : PySem.W.Frag} {h : Heap} {mg : Str → Option Value} {base : Heap} (X : K.In h) (G : h.Ns mainGlobals mg) (T : Top K) (gd : Gnd K mg (wd K) Gam tb hs his) : AllL (DfA P w K mg base (wd K) 8 Phi) tc__law_is_told.fs := ⟨a_fn (tb := tb) (cis := cis) ((D__law_parsed X G T gd).mono (by decide)) (by decide +kernel), ⟨a_fn (tb := tb) (cis := cis) ((D__law_read_told X G T gd).mono (by decide)) (by decide +kernel), ⟨a_fn (tb := tb) (cis := cis) ((D__law_is X G T gd).mono (by decide)) (by decide +kernel), ⟨a_fn (tb := tb) (cis := cis) ((D_input_row X G T gd).mono (by decide)) (by decide +kernel), trivial⟩⟩⟩⟩
theorem D__law_is_told {P : Program} {w : World} {K : PySem.W.Frag} {h : Heap} {mg : Str → Option Value} {base : Heap} (X : K.In h) (G : h.Ns mainGlobals mg) (T : Top K) (gd : Gnd K mg (wd K) Gam tb hs his) : Df P w K mg base (wd K) 9 "_law_is_told" (Phi "_law_is_told") := df_ok (Φ := Phi) (Γ := Gam) (c := tc__law_is_told) (m := 60) (n := 100) T.d__law_is_told.F (PySem.W.mg_of X G T.d__law_is_told.a) (B__law_is_told T) (by decide +kernel) sc__law_is_told tr__law_is_told (A__law_is_told X G T gd).get gd (by decide +kernel) k_law_is_told
theorem B_law {K : PySem.W.Frag} (T : Top K) : Binds K T.d_law.fd ["script"] [] := T.d_law.F.binds (ps := ["script"]) fun _ _ _ _ _ _ us hl => match us, hl with | [_], _ => rfl
theorem A_law {P : Program} {w : World} {K : PySem.W.Frag} {h : Heap} {mg : Str → Option Value} {base : Heap} (X : K.In h) (G : h.Ns mainGlobals mg) (T : Top K) (gd : Gnd K mg (wd K) Gam tb hs his) : AllL (DfA P w K mg base (wd K) 9 Phi) tc_law.fs := ⟨a_fn (tb := tb) (cis := cis) ((D__law_hand X G T gd).mono (by decide)) (by decide +kernel), ⟨a_fn (tb := tb) (cis := cis) ((D__law_draw X G T gd).mono (by decide)) (by decide +kernel), ⟨a_fn (tb := tb) (cis := cis) ((D__law_runs X G T gd).mono (by decide)) (by decide +kernel), ⟨a_fn (tb := tb) (cis := cis) ((D__law_ticks X G T gd).mono (by decide)) (by decide +kernel), ⟨a_fn (tb := tb) (cis := cis) ((D_input_row X G T gd).mono (by decide)) (by decide +kernel), ⟨a_fn (tb := tb) (cis := cis) ((D__law_input_bytes X G T gd).mono (by decide)) (by decide +kernel), ⟨a_fn (tb := tb) (cis := cis) ((D__law_is X G T gd).mono (by decide)) (by decide +kernel), ⟨a_fn (tb := tb) (cis := cis) ((D__law_bytes X G T gd).mono (by decide)) (by decide +kernel), ⟨a_fn (tb := tb) (cis := cis) ((D__law_read_told X G T gd).mono (by decide)) (by decide +kernel), ⟨a_fn (tb := tb) (cis := cis) ((D__law_spoilt X G T gd).mono (by decide)) (by decide +kernel), ⟨a_fn (tb := tb) (cis := cis) ((D__law_is_told X G T gd).mono (by decide)) (by decide +kernel), ⟨a_fn (tb := tb) (cis := cis) ((D__law_run_bytes X G T gd).mono (by decide)) (by decide +kernel), ⟨a_fn (tb := tb) (cis := cis) ((D__law_wrong_runs X G T gd).mono (by decide)) (by decide +kernel), ⟨a_fn (tb := tb) (cis := cis) ((D__law_is_guess X G T gd).mono (by decide)) (by decide +kernel), trivial⟩⟩⟩⟩⟩⟩⟩⟩⟩⟩⟩⟩⟩⟩
theorem D_law {P : Program} {w : World} {K : PySem.W.Frag} {h : Heap} {mg : Str → Option Value} {base : Heap} (X : K.In h) (G : h.Ns mainGlobals mg) (T : Top K) (gd : Gnd K mg (wd K) Gam tb hs his) : FnG P w K mg base (L2.CX P w) 10 T.d_law.f T.d_law.fd ["script"] (spV (wd K) s_law) := fn_ok (Φ := Phi) (Γ := Gam) (c := tc_law) (m := 60) (n := 100) T.d_law.F sc_law tr_law (A_law X G T gd).get gd (by decide +kernel) k_law
theorem cn_mk {K : PySem.W.Frag} {h : Heap} {mg : Str → Option Value} (X : K.In h) (G : h.Ns mainGlobals mg)
    {t_MOST_BYTES : Tok}
    {t_BYTE : Tok}
    {t_FIGURE : Tok}
    {t_MOST_FIGURES : Tok}
    {t_WHOLE_BOUND : Tok}
    {t_MOST_INPUTS : Tok}
    {t_MOST_AGO : Tok}
    {t_MOST_HOLD : Tok}
    (m_MOST_BYTES : PySem.W.nsIn K mainGlobals "MOST_BYTES" = some (some (.int 300000 t_MOST_BYTES)))
    (m_BYTE : PySem.W.nsIn K mainGlobals "BYTE" = some (some (.int 256 t_BYTE)))
    (m_FIGURE : PySem.W.nsIn K mainGlobals "FIGURE" = some (some (.int 128 t_FIGURE)))
    (m_MOST_FIGURES : PySem.W.nsIn K mainGlobals "MOST_FIGURES" = some (some (.int 10 t_MOST_FIGURES)))
    (m_WHOLE_BOUND : PySem.W.nsIn K mainGlobals "WHOLE_BOUND" = some (some (.int 18446744073709551616 t_WHOLE_BOUND)))
    (m_MOST_INPUTS : PySem.W.nsIn K mainGlobals "MOST_INPUTS" = some (some (.int 100000 t_MOST_INPUTS)))
    (m_MOST_AGO : PySem.W.nsIn K mainGlobals "MOST_AGO" = some (some (.int 100000 t_MOST_AGO)))
    (m_MOST_HOLD : PySem.W.nsIn K mainGlobals "MOST_HOLD" = some (some (.int 600 t_MOST_HOLD))) : CnP mg (wd K) Gam := by
  intro x d hx
  unfold Gam at hx
  split at hx
  · rename_i hc
    subst hc
    cases hx
    exact ⟨by decide +kernel, ⟨_, .int 300000, PySem.W.mg_of X G m_MOST_BYTES, ⟨t_MOST_BYTES, rfl⟩, fun _ _ _ => rfl, by decide +kernel⟩⟩
  split at hx
  · rename_i hc
    subst hc
    cases hx
    exact ⟨by decide +kernel, ⟨_, .int 256, PySem.W.mg_of X G m_BYTE, ⟨t_BYTE, rfl⟩, fun _ _ _ => rfl, by decide +kernel⟩⟩
  split at hx
  · rename_i hc
    subst hc
    cases hx
    exact ⟨by decide +kernel, ⟨_, .int 128, PySem.W.mg_of X G m_FIGURE, ⟨t_FIGURE, rfl⟩, fun _ _ _ => rfl, by decide +kernel⟩⟩
  split at hx
  · rename_i hc
    subst hc
    cases hx
    exact ⟨by decide +kernel, ⟨_, .int 10, PySem.W.mg_of X G m_MOST_FIGURES, ⟨t_MOST_FIGURES, rfl⟩, fun _ _ _ => rfl, by decide +kernel⟩⟩
  split at hx
  · rename_i hc
    subst hc
    cases hx
    exact ⟨by decide +kernel, ⟨_, .int 18446744073709551616, PySem.W.mg_of X G m_WHOLE_BOUND, ⟨t_WHOLE_BOUND, rfl⟩, fun _ _ _ => rfl, by decide +kernel⟩⟩
  split at hx
  · rename_i hc
    subst hc
    cases hx
    exact ⟨by decide +kernel, ⟨_, .int 100000, PySem.W.mg_of X G m_MOST_INPUTS, ⟨t_MOST_INPUTS, rfl⟩, fun _ _ _ => rfl, by decide +kernel⟩⟩
  split at hx
  · rename_i hc
    subst hc
    cases hx
    exact ⟨by decide +kernel, ⟨_, .int 100000, PySem.W.mg_of X G m_MOST_AGO, ⟨t_MOST_AGO, rfl⟩, fun _ _ _ => rfl, by decide +kernel⟩⟩
  split at hx
  · rename_i hc
    subst hc
    cases hx
    exact ⟨by decide +kernel, ⟨_, .int 600, PySem.W.mg_of X G m_MOST_HOLD, ⟨t_MOST_HOLD, rfl⟩, fun _ _ _ => rfl, by decide +kernel⟩⟩
  cases hx
theorem all_mk {P : Program} {w : World} {K : PySem.W.Frag} {h : Heap} {mg : Str → Option Value} {fa : Addr} (X : K.In h) (G : h.Ns mainGlobals mg) (hfa : mg "law" = some (.ref fa))
    {C_Reader : Addr}
    {f0 : Addr} {od0 an0 : Option Addr} {sl0 : Array (Option Value)} {oc0 kV0 dc0 pm0 cd0 ct0 : Value}
    {f1 : Addr} {od1 an1 : Option Addr} {sl1 : Array (Option Value)} {oc1 kV1 dc1 pm1 cd1 ct1 : Value}
    {f2 : Addr} {od2 an2 : Option Addr} {sl2 : Array (Option Value)} {oc2 kV2 dc2 pm2 cd2 ct2 : Value}
    {f3 : Addr} {od3 an3 : Option Addr} {sl3 : Array (Option Value)} {oc3 kV3 dc3 pm3 cd3 ct3 : Value}
    {f4 : Addr} {od4 an4 : Option Addr} {sl4 : Array (Option Value)} {oc4 kV4 dc4 pm4 cd4 ct4 : Value}
    {f5 : Addr} {od5 an5 : Option Addr} {sl5 : Array (Option Value)} {oc5 kV5 dc5 pm5 cd5 ct5 : Value}
    {f6 : Addr} {od6 an6 : Option Addr} {sl6 : Array (Option Value)} {oc6 kV6 dc6 pm6 cd6 ct6 : Value}
    {f7 : Addr} {od7 an7 : Option Addr} {sl7 : Array (Option Value)} {oc7 kV7 dc7 pm7 cd7 ct7 : Value}
    {f8 : Addr} {od8 an8 : Option Addr} {sl8 : Array (Option Value)} {oc8 kV8 dc8 pm8 cd8 ct8 : Value}
    {f9 : Addr} {od9 an9 : Option Addr} {sl9 : Array (Option Value)} {oc9 kV9 dc9 pm9 cd9 ct9 : Value}
    {f10 : Addr} {od10 an10 : Option Addr} {sl10 : Array (Option Value)} {oc10 kV10 dc10 pm10 cd10 ct10 : Value}
    {f11 : Addr} {od11 an11 : Option Addr} {sl11 : Array (Option Value)} {oc11 kV11 dc11 pm11 cd11 ct11 : Value}
    {f12 : Addr} {od12 an12 : Option Addr} {sl12 : Array (Option Value)} {oc12 kV12 dc12 pm12 cd12 ct12 : Value}
    {f13 : Addr} {od13 an13 : Option Addr} {sl13 : Array (Option Value)} {oc13 kV13 dc13 pm13 cd13 ct13 : Value}
    {f14 : Addr} {od14 an14 : Option Addr} {sl14 : Array (Option Value)} {oc14 kV14 dc14 pm14 cd14 ct14 : Value}
    {f15 : Addr} {od15 an15 : Option Addr} {sl15 : Array (Option Value)} {oc15 kV15 dc15 pm15 cd15 ct15 : Value}
    {f16 : Addr} {od16 an16 : Option Addr} {sl16 : Array (Option Value)} {oc16 kV16 dc16 pm16 cd16 ct16 : Value}
    {f17 : Addr} {od17 an17 : Option Addr} {sl17 : Array (Option Value)} {oc17 kV17 dc17 pm17 cd17 ct17 : Value}
    {f18 : Addr} {od18 an18 : Option Addr} {sl18 : Array (Option Value)} {oc18 kV18 dc18 pm18 cd18 ct18 : Value}
    {f19 : Addr} {od19 an19 : Option Addr} {sl19 : Array (Option Value)} {oc19 kV19 dc19 pm19 cd19 ct19 : Value}
    {f20 : Addr} {od20 an20 : Option Addr} {sl20 : Array (Option Value)} {oc20 kV20 dc20 pm20 cd20 ct20 : Value}
    {f21 : Addr} {od21 an21 : Option Addr} {sl21 : Array (Option Value)} {oc21 kV21 dc21 pm21 cd21 ct21 : Value}
    {f22 : Addr} {od22 an22 : Option Addr} {sl22 : Array (Option Value)} {oc22 kV22 dc22 pm22 cd22 ct22 : Value}
    {f23 : Addr} {od23 an23 : Option Addr} {sl23 : Array (Option Value)} {oc23 kV23 dc23 pm23 cd23 ct23 : Value}
    {f24 : Addr} {od24 an24 : Option Addr} {sl24 : Array (Option Value)} {oc24 kV24 dc24 pm24 cd24 ct24 : Value}
    {f25 : Addr} {od25 an25 : Option Addr} {sl25 : Array (Option Value)} {oc25 kV25 dc25 pm25 cd25 ct25 : Value}
    {f26 : Addr} {od26 an26 : Option Addr} {sl26 : Array (Option Value)} {oc26 kV26 dc26 pm26 cd26 ct26 : Value}
    {f27 : Addr} {od27 an27 : Option Addr} {sl27 : Array (Option Value)} {oc27 kV27 dc27 pm27 cd27 ct27 : Value}
    {f28 : Addr} {od28 an28 : Option Addr} {sl28 : Array (Option Value)} {oc28 kV28 dc28 pm28 cd28 ct28 : Value}
    {f29 : Addr} {od29 an29 : Option Addr} {sl29 : Array (Option Value)} {oc29 kV29 dc29 pm29 cd29 ct29 : Value}
    {f30 : Addr} {od30 an30 : Option Addr} {sl30 : Array (Option Value)} {oc30 kV30 dc30 pm30 cd30 ct30 : Value}
    {f31 : Addr} {od31 an31 : Option Addr} {sl31 : Array (Option Value)} {oc31 kV31 dc31 pm31 cd31 ct31 : Value}
    {f32 : Addr} {od32 an32 : Option Addr} {sl32 : Array (Option Value)} {oc32 kV32 dc32 pm32 cd32 ct32 : Value}
    {f33 : Addr} {od33 an33 : Option Addr} {sl33 : Array (Option Value)} {oc33 kV33 dc33 pm33 cd33 ct33 : Value}
    {f34 : Addr} {od34 an34 : Option Addr} {sl34 : Array (Option Value)} {oc34 kV34 dc34 pm34 cd34 ct34 : Value}
    {f35 : Addr} {od35 an35 : Option Addr} {sl35 : Array (Option Value)} {oc35 kV35 dc35 pm35 cd35 ct35 : Value}
    {f36 : Addr} {od36 an36 : Option Addr} {sl36 : Array (Option Value)} {oc36 kV36 dc36 pm36 cd36 ct36 : Value}
    {f37 : Addr} {od37 an37 : Option Addr} {sl37 : Array (Option Value)} {oc37 kV37 dc37 pm37 cd37 ct37 : Value}
    {f38 : Addr} {od38 an38 : Option Addr} {sl38 : Array (Option Value)} {oc38 kV38 dc38 pm38 cd38 ct38 : Value}
    {f39 : Addr} {od39 an39 : Option Addr} {sl39 : Array (Option Value)} {oc39 kV39 dc39 pm39 cd39 ct39 : Value}
    {f40 : Addr} {od40 an40 : Option Addr} {sl40 : Array (Option Value)} {oc40 kV40 dc40 pm40 cd40 ct40 : Value}
    {C_NoRow : Addr}
    {C_WorldError : Addr}
    {C_BadRow : Addr}
    {C_NoPlace : Addr}
    {C_NoInputs : Addr}
    {C_NoNumber : Addr}
    {nm_BadRow q_BadRow : Str} {N_BadRow : Addr} {bs_BadRow : List Value} {sn_BadRow : List Str} {sub_BadRow : List Value} {ab_BadRow : Bool} {col_BadRow : Option Bool} {dd_BadRow : Option Addr} {m0_BadRow m1_BadRow m2_BadRow m3_BadRow m5_BadRow : Option Value} {fI_BadRow : Addr} {qn_BadRow : Str} {oI_BadRow : Value} {dI_BadRow : Option Addr} {e1_BadRow e2_BadRow : Value} {aI_BadRow : Option Addr} {g1_BadRow g2_BadRow : Value} {sI_BadRow : Array (Option Value)} {p1_BadRow p2_BadRow q1_BadRow q2_BadRow q3_BadRow q4_BadRow : Pos}
    {t_MOST_BYTES : Tok}
    {t_BYTE : Tok}
    {t_FIGURE : Tok}
    {t_MOST_FIGURES : Tok}
    {t_WHOLE_BOUND : Tok}
    {t_MOST_INPUTS : Tok}
    {t_MOST_AGO : Tok}
    {t_MOST_HOLD : Tok}
    (xg_Reader : PySem.W.nsIn K mainGlobals "Reader" = some (some (.ref C_Reader))) (pg_Reader : PySem.W.plainGet K C_Reader Str.empty = true) (hd_Reader : PySem.W.hasDictIn K C_Reader = true) (po_Reader : PySem.W.plainOver K C_Reader = true) (sa_Reader : PySem.W.findIn K (.ref C_Reader) "__setattr__" = some (some (.builtin "object.__setattr__"))) (mk_Reader : PySem.W.makesIn K C_Reader = true) (kc_Reader : PySem.W.keepIn K (.ref C_Reader) = true)
    (ia_Reader : PySem.W.findIn K (.ref C_Reader) "__class__" = some (some (.builtin "object.__class__"))) (im_Reader : PySem.W.mroIn K C_Reader (.type "object") = some true)
    (nf_Reader_row : PySem.W.findIn K (.ref C_Reader) "row" = some none)
    (nf_Reader_at : PySem.W.findIn K (.ref C_Reader) "at" = some none)
    (nf_Reader_last : PySem.W.findIn K (.ref C_Reader) "last" = some none)
    (ihn : PySem.W.specialIn K (.builtin "object.__class__") "__get__" = some (some (.builtin "getset_descriptor.__get__"))) (iht : PySem.W.takesIn K (.builtin "object.__class__") = some true)
    (a0 : PySem.W.nsIn K mainGlobals "is_integer" = some (some (.ref f0)))
    (l0 : K.lookup f0 = some ⟨oc0, od0, .func (PySem.W.fnOf "is_integer" "is_integer" (defArgs st_is_integer) (defBody st_is_integer) (defScope st_is_integer) .none kV0 dc0 pm0 an0 cd0 ct0), sl0⟩) (c0 : PySem.W.codeIn K cd0 "is_integer" = true) (k0 : PySem.W.keepIn K (.ref f0) = true)
    (a1 : PySem.W.nsIn K mainGlobals "is_within" = some (some (.ref f1)))
    (l1 : K.lookup f1 = some ⟨oc1, od1, .func (PySem.W.fnOf "is_within" "is_within" (defArgs st_is_within) (defBody st_is_within) (defScope st_is_within) .none kV1 dc1 pm1 an1 cd1 ct1), sl1⟩) (c1 : PySem.W.codeIn K cd1 "is_within" = true) (k1 : PySem.W.keepIn K (.ref f1) = true)
    (a2 : PySem.W.nsIn K mainGlobals "is_below" = some (some (.ref f2)))
    (l2 : K.lookup f2 = some ⟨oc2, od2, .func (PySem.W.fnOf "is_below" "is_below" (defArgs st_is_below) (defBody st_is_below) (defScope st_is_below) .none kV2 dc2 pm2 an2 cd2 ct2), sl2⟩) (c2 : PySem.W.codeIn K cd2 "is_below" = true) (k2 : PySem.W.keepIn K (.ref f2) = true)
    (a3 : PySem.W.nsIn K mainGlobals "is_row" = some (some (.ref f3)))
    (l3 : K.lookup f3 = some ⟨oc3, od3, .func (PySem.W.fnOf "is_row" "is_row" (defArgs st_is_row) (defBody st_is_row) (defScope st_is_row) .none kV3 dc3 pm3 an3 cd3 ct3), sl3⟩) (c3 : PySem.W.codeIn K cd3 "is_row" = true) (k3 : PySem.W.keepIn K (.ref f3) = true)
    (a4 : PySem.W.nsIn K mainGlobals "check_row" = some (some (.ref f4)))
    (l4 : K.lookup f4 = some ⟨oc4, od4, .func (PySem.W.fnOf "check_row" "check_row" (defArgs st_check_row) (defBody st_check_row) (defScope st_check_row) .none kV4 dc4 pm4 an4 cd4 ct4), sl4⟩) (c4 : PySem.W.codeIn K cd4 "check_row" = true) (k4 : PySem.W.keepIn K (.ref f4) = true)
    (a5 : PySem.W.nsIn K mainGlobals "figures_of" = some (some (.ref f5)))
    (l5 : K.lookup f5 = some ⟨oc5, od5, .func (PySem.W.fnOf "figures_of" "figures_of" (defArgs st_figures_of) (defBody st_figures_of) (defScope st_figures_of) .none kV5 dc5 pm5 an5 cd5 ct5), sl5⟩) (c5 : PySem.W.codeIn K cd5 "figures_of" = true) (k5 : PySem.W.keepIn K (.ref f5) = true)
    (a6 : PySem.W.nsIn K mainGlobals "number_at" = some (some (.ref f6)))
    (l6 : K.lookup f6 = some ⟨oc6, od6, .func (PySem.W.fnOf "number_at" "number_at" (defArgs st_number_at) (defBody st_number_at) (defScope st_number_at) .none kV6 dc6 pm6 an6 cd6 ct6), sl6⟩) (c6 : PySem.W.codeIn K cd6 "number_at" = true) (k6 : PySem.W.keepIn K (.ref f6) = true)
    (a7 : PySem.W.nsIn K mainGlobals "taken" = some (some (.ref f7)))
    (l7 : K.lookup f7 = some ⟨oc7, od7, .func (PySem.W.fnOf "taken" "taken" (defArgs st_taken) (defBody st_taken) (defScope st_taken) .none kV7 dc7 pm7 an7 cd7 ct7), sl7⟩) (c7 : PySem.W.codeIn K cd7 "taken" = true) (k7 : PySem.W.keepIn K (.ref f7) = true)
    (a8 : PySem.W.nsIn K mainGlobals "check_place" = some (some (.ref f8)))
    (l8 : K.lookup f8 = some ⟨oc8, od8, .func (PySem.W.fnOf "check_place" "check_place" (defArgs st_check_place) (defBody st_check_place) (defScope st_check_place) .none kV8 dc8 pm8 an8 cd8 ct8), sl8⟩) (c8 : PySem.W.codeIn K cd8 "check_place" = true) (k8 : PySem.W.keepIn K (.ref f8) = true)
    (a9 : PySem.W.findIn K (.ref C_Reader) "__init__" = some (some (.ref f9))) (i9 : PySem.W.isFn K (.ref f9) = true)
    (l9 : K.lookup f9 = some ⟨oc9, od9, .func (PySem.W.fnOf "__init__" "Reader.__init__" (defArgs st_Reader___init__) (defBody st_Reader___init__) (defScope st_Reader___init__) .none kV9 dc9 pm9 an9 cd9 ct9), sl9⟩) (c9 : PySem.W.codeIn K cd9 "Reader.__init__" = true) (k9 : PySem.W.keepIn K (.ref f9) = true)
    (a10 : PySem.W.findIn K (.ref C_Reader) "next_number" = some (some (.ref f10))) (i10 : PySem.W.isFn K (.ref f10) = true)
    (l10 : K.lookup f10 = some ⟨oc10, od10, .func (PySem.W.fnOf "next_number" "Reader.next_number" (defArgs st_Reader_next_number) (defBody st_Reader_next_number) (defScope st_Reader_next_number) .none kV10 dc10 pm10 an10 cd10 ct10), sl10⟩) (c10 : PySem.W.codeIn K cd10 "Reader.next_number" = true) (k10 : PySem.W.keepIn K (.ref f10) = true)
    (a11 : PySem.W.findIn K (.ref C_Reader) "next_byte" = some (some (.ref f11))) (i11 : PySem.W.isFn K (.ref f11) = true)
    (l11 : K.lookup f11 = some ⟨oc11, od11, .func (PySem.W.fnOf "next_byte" "Reader.next_byte" (defArgs st_Reader_next_byte) (defBody st_Reader_next_byte) (defScope st_Reader_next_byte) .none kV11 dc11 pm11 an11 cd11 ct11), sl11⟩) (c11 : PySem.W.codeIn K cd11 "Reader.next_byte" = true) (k11 : PySem.W.keepIn K (.ref f11) = true)
    (a12 : PySem.W.nsIn K mainGlobals "is_input" = some (some (.ref f12)))
    (l12 : K.lookup f12 = some ⟨oc12, od12, .func (PySem.W.fnOf "is_input" "is_input" (defArgs st_is_input) (defBody st_is_input) (defScope st_is_input) .none kV12 dc12 pm12 an12 cd12 ct12), sl12⟩) (c12 : PySem.W.codeIn K cd12 "is_input" = true) (k12 : PySem.W.keepIn K (.ref f12) = true)
    (a13 : PySem.W.nsIn K mainGlobals "are_inputs" = some (some (.ref f13)))
    (l13 : K.lookup f13 = some ⟨oc13, od13, .func (PySem.W.fnOf "are_inputs" "are_inputs" (defArgs st_are_inputs) (defBody st_are_inputs) (defScope st_are_inputs) .none kV13 dc13 pm13 an13 cd13 ct13), sl13⟩) (c13 : PySem.W.codeIn K cd13 "are_inputs" = true) (k13 : PySem.W.keepIn K (.ref f13) = true)
    (a14 : PySem.W.nsIn K mainGlobals "check_inputs" = some (some (.ref f14)))
    (l14 : K.lookup f14 = some ⟨oc14, od14, .func (PySem.W.fnOf "check_inputs" "check_inputs" (defArgs st_check_inputs) (defBody st_check_inputs) (defScope st_check_inputs) .none kV14 dc14 pm14 an14 cd14 ct14), sl14⟩) (c14 : PySem.W.codeIn K cd14 "check_inputs" = true) (k14 : PySem.W.keepIn K (.ref f14) = true)
    (a15 : PySem.W.nsIn K mainGlobals "check_input" = some (some (.ref f15)))
    (l15 : K.lookup f15 = some ⟨oc15, od15, .func (PySem.W.fnOf "check_input" "check_input" (defArgs st_check_input) (defBody st_check_input) (defScope st_check_input) .none kV15 dc15 pm15 an15 cd15 ct15), sl15⟩) (c15 : PySem.W.codeIn K cd15 "check_input" = true) (k15 : PySem.W.keepIn K (.ref f15) = true)
    (a16 : PySem.W.nsIn K mainGlobals "runs_of" = some (some (.ref f16)))
    (l16 : K.lookup f16 = some ⟨oc16, od16, .func (PySem.W.fnOf "runs_of" "runs_of" (defArgs st_runs_of) (defBody st_runs_of) (defScope st_runs_of) .none kV16 dc16 pm16 an16 cd16 ct16), sl16⟩) (c16 : PySem.W.codeIn K cd16 "runs_of" = true) (k16 : PySem.W.keepIn K (.ref f16) = true)
    (a17 : PySem.W.nsIn K mainGlobals "run_row" = some (some (.ref f17)))
    (l17 : K.lookup f17 = some ⟨oc17, od17, .func (PySem.W.fnOf "run_row" "run_row" (defArgs st_run_row) (defBody st_run_row) (defScope st_run_row) .none kV17 dc17 pm17 an17 cd17 ct17), sl17⟩) (c17 : PySem.W.codeIn K cd17 "run_row" = true) (k17 : PySem.W.keepIn K (.ref f17) = true)
    (a18 : PySem.W.nsIn K mainGlobals "input_row" = some (some (.ref f18)))
    (l18 : K.lookup f18 = some ⟨oc18, od18, .func (PySem.W.fnOf "input_row" "input_row" (defArgs st_input_row) (defBody st_input_row) (defScope st_input_row) .none kV18 dc18 pm18 an18 cd18 ct18), sl18⟩) (c18 : PySem.W.codeIn K cd18 "input_row" = true) (k18 : PySem.W.keepIn K (.ref f18) = true)
    (a19 : PySem.W.nsIn K mainGlobals "taken_inputs" = some (some (.ref f19)))
    (l19 : K.lookup f19 = some ⟨oc19, od19, .func (PySem.W.fnOf "taken_inputs" "taken_inputs" (defArgs st_taken_inputs) (defBody st_taken_inputs) (defScope st_taken_inputs) .none kV19 dc19 pm19 an19 cd19 ct19), sl19⟩) (c19 : PySem.W.codeIn K cd19 "taken_inputs" = true) (k19 : PySem.W.keepIn K (.ref f19) = true)
    (a20 : PySem.W.nsIn K mainGlobals "read_inputs" = some (some (.ref f20)))
    (l20 : K.lookup f20 = some ⟨oc20, od20, .func (PySem.W.fnOf "read_inputs" "read_inputs" (defArgs st_read_inputs) (defBody st_read_inputs) (defScope st_read_inputs) .none kV20 dc20 pm20 an20 cd20 ct20), sl20⟩) (c20 : PySem.W.codeIn K cd20 "read_inputs" = true) (k20 : PySem.W.keepIn K (.ref f20) = true)
    (a21 : PySem.W.nsIn K mainGlobals "guessed" = some (some (.ref f21)))
    (l21 : K.lookup f21 = some ⟨oc21, od21, .func (PySem.W.fnOf "guessed" "guessed" (defArgs st_guessed) (defBody st_guessed) (defScope st_guessed) .none kV21 dc21 pm21 an21 cd21 ct21), sl21⟩) (c21 : PySem.W.codeIn K cd21 "guessed" = true) (k21 : PySem.W.keepIn K (.ref f21) = true)
    (a22 : PySem.W.nsIn K mainGlobals "guess" = some (some (.ref f22)))
    (l22 : K.lookup f22 = some ⟨oc22, od22, .func (PySem.W.fnOf "guess" "guess" (defArgs st_guess) (defBody st_guess) (defScope st_guess) .none kV22 dc22 pm22 an22 cd22 ct22), sl22⟩) (c22 : PySem.W.codeIn K cd22 "guess" = true) (k22 : PySem.W.keepIn K (.ref f22) = true)
    (a23 : PySem.W.nsIn K mainGlobals "_law_hand" = some (some (.ref f23)))
    (l23 : K.lookup f23 = some ⟨oc23, od23, .func (PySem.W.fnOf "_law_hand" "_law_hand" (defArgs st__law_hand) (defBody st__law_hand) (defScope st__law_hand) .none kV23 dc23 pm23 an23 cd23 ct23), sl23⟩) (c23 : PySem.W.codeIn K cd23 "_law_hand" = true) (k23 : PySem.W.keepIn K (.ref f23) = true)
    (a24 : PySem.W.nsIn K mainGlobals "_law_draw" = some (some (.ref f24)))
    (l24 : K.lookup f24 = some ⟨oc24, od24, .func (PySem.W.fnOf "_law_draw" "_law_draw" (defArgs st__law_draw) (defBody st__law_draw) (defScope st__law_draw) .none kV24 dc24 pm24 an24 cd24 ct24), sl24⟩) (c24 : PySem.W.codeIn K cd24 "_law_draw" = true) (k24 : PySem.W.keepIn K (.ref f24) = true)
    (a25 : PySem.W.nsIn K mainGlobals "_law_is" = some (some (.ref f25)))
    (l25 : K.lookup f25 = some ⟨oc25, od25, .func (PySem.W.fnOf "_law_is" "_law_is" (defArgs st__law_is) (defBody st__law_is) (defScope st__law_is) .none kV25 dc25 pm25 an25 cd25 ct25), sl25⟩) (c25 : PySem.W.codeIn K cd25 "_law_is" = true) (k25 : PySem.W.keepIn K (.ref f25) = true)
    (a26 : PySem.W.nsIn K mainGlobals "_law_whole" = some (some (.ref f26)))
    (l26 : K.lookup f26 = some ⟨oc26, od26, .func (PySem.W.fnOf "_law_whole" "_law_whole" (defArgs st__law_whole) (defBody st__law_whole) (defScope st__law_whole) .none kV26 dc26 pm26 an26 cd26 ct26), sl26⟩) (c26 : PySem.W.codeIn K cd26 "_law_whole" = true) (k26 : PySem.W.keepIn K (.ref f26) = true)
    (a27 : PySem.W.nsIn K mainGlobals "_law_read" = some (some (.ref f27)))
    (l27 : K.lookup f27 = some ⟨oc27, od27, .func (PySem.W.fnOf "_law_read" "_law_read" (defArgs st__law_read) (defBody st__law_read) (defScope st__law_read) .none kV27 dc27 pm27 an27 cd27 ct27), sl27⟩) (c27 : PySem.W.codeIn K cd27 "_law_read" = true) (k27 : PySem.W.keepIn K (.ref f27) = true)
    (a28 : PySem.W.nsIn K mainGlobals "_law_byte" = some (some (.ref f28)))
    (l28 : K.lookup f28 = some ⟨oc28, od28, .func (PySem.W.fnOf "_law_byte" "_law_byte" (defArgs st__law_byte) (defBody st__law_byte) (defScope st__law_byte) .none kV28 dc28 pm28 an28 cd28 ct28), sl28⟩) (c28 : PySem.W.codeIn K cd28 "_law_byte" = true) (k28 : PySem.W.keepIn K (.ref f28) = true)
    (a29 : PySem.W.nsIn K mainGlobals "_law_bytes" = some (some (.ref f29)))
    (l29 : K.lookup f29 = some ⟨oc29, od29, .func (PySem.W.fnOf "_law_bytes" "_law_bytes" (defArgs st__law_bytes) (defBody st__law_bytes) (defScope st__law_bytes) .none kV29 dc29 pm29 an29 cd29 ct29), sl29⟩) (c29 : PySem.W.codeIn K cd29 "_law_bytes" = true) (k29 : PySem.W.keepIn K (.ref f29) = true)
    (a30 : PySem.W.nsIn K mainGlobals "_law_spoilt" = some (some (.ref f30)))
    (l30 : K.lookup f30 = some ⟨oc30, od30, .func (PySem.W.fnOf "_law_spoilt" "_law_spoilt" (defArgs st__law_spoilt) (defBody st__law_spoilt) (defScope st__law_spoilt) .none kV30 dc30 pm30 an30 cd30 ct30), sl30⟩) (c30 : PySem.W.codeIn K cd30 "_law_spoilt" = true) (k30 : PySem.W.keepIn K (.ref f30) = true)
    (a31 : PySem.W.nsIn K mainGlobals "_law_runs" = some (some (.ref f31)))
    (l31 : K.lookup f31 = some ⟨oc31, od31, .func (PySem.W.fnOf "_law_runs" "_law_runs" (defArgs st__law_runs) (defBody st__law_runs) (defScope st__law_runs) .none kV31 dc31 pm31 an31 cd31 ct31), sl31⟩) (c31 : PySem.W.codeIn K cd31 "_law_runs" = true) (k31 : PySem.W.keepIn K (.ref f31) = true)
    (a32 : PySem.W.nsIn K mainGlobals "_law_ticks" = some (some (.ref f32)))
    (l32 : K.lookup f32 = some ⟨oc32, od32, .func (PySem.W.fnOf "_law_ticks" "_law_ticks" (defArgs st__law_ticks) (defBody st__law_ticks) (defScope st__law_ticks) .none kV32 dc32 pm32 an32 cd32 ct32), sl32⟩) (c32 : PySem.W.codeIn K cd32 "_law_ticks" = true) (k32 : PySem.W.keepIn K (.ref f32) = true)
    (a33 : PySem.W.nsIn K mainGlobals "_law_run_bytes" = some (some (.ref f33)))
    (l33 : K.lookup f33 = some ⟨oc33, od33, .func (PySem.W.fnOf "_law_run_bytes" "_law_run_bytes" (defArgs st__law_run_bytes) (defBody st__law_run_bytes) (defScope st__law_run_bytes) .none kV33 dc33 pm33 an33 cd33 ct33), sl33⟩) (c33 : PySem.W.codeIn K cd33 "_law_run_bytes" = true) (k33 : PySem.W.keepIn K (.ref f33) = true)
    (a34 : PySem.W.nsIn K mainGlobals "_law_input_bytes" = some (some (.ref f34)))
    (l34 : K.lookup f34 = some ⟨oc34, od34, .func (PySem.W.fnOf "_law_input_bytes" "_law_input_bytes" (defArgs st__law_input_bytes) (defBody st__law_input_bytes) (defScope st__law_input_bytes) .none kV34 dc34 pm34 an34 cd34 ct34), sl34⟩) (c34 : PySem.W.codeIn K cd34 "_law_input_bytes" = true) (k34 : PySem.W.keepIn K (.ref f34) = true)
    (a35 : PySem.W.nsIn K mainGlobals "_law_parsed" = some (some (.ref f35)))
    (l35 : K.lookup f35 = some ⟨oc35, od35, .func (PySem.W.fnOf "_law_parsed" "_law_parsed" (defArgs st__law_parsed) (defBody st__law_parsed) (defScope st__law_parsed) .none kV35 dc35 pm35 an35 cd35 ct35), sl35⟩) (c35 : PySem.W.codeIn K cd35 "_law_parsed" = true) (k35 : PySem.W.keepIn K (.ref f35) = true)
    (a36 : PySem.W.nsIn K mainGlobals "_law_read_told" = some (some (.ref f36)))
    (l36 : K.lookup f36 = some ⟨oc36, od36, .func (PySem.W.fnOf "_law_read_told" "_law_read_told" (defArgs st__law_read_told) (defBody st__law_read_told) (defScope st__law_read_told) .none kV36 dc36 pm36 an36 cd36 ct36), sl36⟩) (c36 : PySem.W.codeIn K cd36 "_law_read_told" = true) (k36 : PySem.W.keepIn K (.ref f36) = true)
    (a37 : PySem.W.nsIn K mainGlobals "_law_is_told" = some (some (.ref f37)))
    (l37 : K.lookup f37 = some ⟨oc37, od37, .func (PySem.W.fnOf "_law_is_told" "_law_is_told" (defArgs st__law_is_told) (defBody st__law_is_told) (defScope st__law_is_told) .none kV37 dc37 pm37 an37 cd37 ct37), sl37⟩) (c37 : PySem.W.codeIn K cd37 "_law_is_told" = true) (k37 : PySem.W.keepIn K (.ref f37) = true)
    (a38 : PySem.W.nsIn K mainGlobals "_law_wrong_runs" = some (some (.ref f38)))
    (l38 : K.lookup f38 = some ⟨oc38, od38, .func (PySem.W.fnOf "_law_wrong_runs" "_law_wrong_runs" (defArgs st__law_wrong_runs) (defBody st__law_wrong_runs) (defScope st__law_wrong_runs) .none kV38 dc38 pm38 an38 cd38 ct38), sl38⟩) (c38 : PySem.W.codeIn K cd38 "_law_wrong_runs" = true) (k38 : PySem.W.keepIn K (.ref f38) = true)
    (a39 : PySem.W.nsIn K mainGlobals "_law_is_guess" = some (some (.ref f39)))
    (l39 : K.lookup f39 = some ⟨oc39, od39, .func (PySem.W.fnOf "_law_is_guess" "_law_is_guess" (defArgs st__law_is_guess) (defBody st__law_is_guess) (defScope st__law_is_guess) .none kV39 dc39 pm39 an39 cd39 ct39), sl39⟩) (c39 : PySem.W.codeIn K cd39 "_law_is_guess" = true) (k39 : PySem.W.keepIn K (.ref f39) = true)
    (a40 : PySem.W.nsIn K mainGlobals "law" = some (some (.ref f40)))
    (l40 : K.lookup f40 = some ⟨oc40, od40, .func (PySem.W.fnOf "law" "law" (defArgs st_law) (defBody st_law) (defScope st_law) .none kV40 dc40 pm40 an40 cd40 ct40), sl40⟩) (c40 : PySem.W.codeIn K cd40 "law" = true) (k40 : PySem.W.keepIn K (.ref f40) = true)
    (z_len : PySem.W.nsIn K mainGlobals "len" = some none)
    (z_int : PySem.W.nsIn K mainGlobals "int" = some none)
    (z_bool : PySem.W.nsIn K mainGlobals "bool" = some none)
    (z_str : PySem.W.nsIn K mainGlobals "str" = some none)
    (z_tuple : PySem.W.nsIn K mainGlobals "tuple" = some none)
    (z_list : PySem.W.nsIn K mainGlobals "list" = some none)
    (z_abs : PySem.W.nsIn K mainGlobals "abs" = some none)
    (z_min : PySem.W.nsIn K mainGlobals "min" = some none)
    (z_max : PySem.W.nsIn K mainGlobals "max" = some none)
    (z_sum : PySem.W.nsIn K mainGlobals "sum" = some none)
    (z_all : PySem.W.nsIn K mainGlobals "all" = some none)
    (z_any : PySem.W.nsIn K mainGlobals "any" = some none)
    (z_range : PySem.W.nsIn K mainGlobals "range" = some none)
    (z_zip : PySem.W.nsIn K mainGlobals "zip" = some none)
    (z_enumerate : PySem.W.nsIn K mainGlobals "enumerate" = some none)
    (z_reversed : PySem.W.nsIn K mainGlobals "reversed" = some none)
    (z_isinstance : PySem.W.nsIn K mainGlobals "isinstance" = some none)
    (z_dict : PySem.W.nsIn K mainGlobals "dict" = some none)
    (z_sorted : PySem.W.nsIn K mainGlobals "sorted" = some none)
    (z_set : PySem.W.nsIn K mainGlobals "set" = some none)
    (z_repr : PySem.W.nsIn K mainGlobals "repr" = some none)
    (xg_NoRow : PySem.W.nsIn K mainGlobals "NoRow" = some (some (.ref C_NoRow))) (xe_NoRow : PySem.W.subIn K (.ref C_NoRow) (.type "BaseException") = some true) (xt_NoRow : PySem.W.typeIn K (.ref C_NoRow) = some (.type "type"))
    (xg_WorldError : PySem.W.nsIn K mainGlobals "WorldError" = some (some (.ref C_WorldError))) (xe_WorldError : PySem.W.subIn K (.ref C_WorldError) (.type "BaseException") = some true) (xt_WorldError : PySem.W.typeIn K (.ref C_WorldError) = some (.type "type"))
    (xg_BadRow : PySem.W.nsIn K mainGlobals "BadRow" = some (some (.ref C_BadRow))) (xe_BadRow : PySem.W.subIn K (.ref C_BadRow) (.type "BaseException") = some true) (xt_BadRow : PySem.W.typeIn K (.ref C_BadRow) = some (.type "type"))
    (xg_NoPlace : PySem.W.nsIn K mainGlobals "NoPlace" = some (some (.ref C_NoPlace))) (xe_NoPlace : PySem.W.subIn K (.ref C_NoPlace) (.type "BaseException") = some true) (xt_NoPlace : PySem.W.typeIn K (.ref C_NoPlace) = some (.type "type"))
    (xg_NoInputs : PySem.W.nsIn K mainGlobals "NoInputs" = some (some (.ref C_NoInputs))) (xe_NoInputs : PySem.W.subIn K (.ref C_NoInputs) (.type "BaseException") = some true) (xt_NoInputs : PySem.W.typeIn K (.ref C_NoInputs) = some (.type "type"))
    (xg_NoNumber : PySem.W.nsIn K mainGlobals "NoNumber" = some (some (.ref C_NoNumber))) (xe_NoNumber : PySem.W.subIn K (.ref C_NoNumber) (.type "BaseException") = some true) (xt_NoNumber : PySem.W.typeIn K (.ref C_NoNumber) = some (.type "type"))
    (xi_BadRow : PySem.W.isClsIn K C_BadRow = true)
    (xs_NoRow_BadRow : PySem.W.subIn K (.ref C_NoRow) (.ref C_BadRow) = some false)
    (xs_BadRow_BadRow : PySem.W.subIn K (.ref C_BadRow) (.ref C_BadRow) = some true)
    (xs_NoPlace_BadRow : PySem.W.subIn K (.ref C_NoPlace) (.ref C_BadRow) = some false)
    (xs_NoInputs_BadRow : PySem.W.subIn K (.ref C_NoInputs) (.ref C_BadRow) = some false)
    (xs_NoNumber_BadRow : PySem.W.subIn K (.ref C_NoNumber) (.ref C_BadRow) = some false)
    (xi_WorldError : PySem.W.isClsIn K C_WorldError = true)
    (xs_NoRow_WorldError : PySem.W.subIn K (.ref C_NoRow) (.ref C_WorldError) = some true)
    (xs_BadRow_WorldError : PySem.W.subIn K (.ref C_BadRow) (.ref C_WorldError) = some true)
    (xs_NoPlace_WorldError : PySem.W.subIn K (.ref C_NoPlace) (.ref C_WorldError) = some true)
    (xs_NoInputs_WorldError : PySem.W.subIn K (.ref C_NoInputs) (.ref C_WorldError) = some true)
    (xs_NoNumber_WorldError : PySem.W.subIn K (.ref C_NoNumber) (.ref C_WorldError) = some true)
    (xk_NoRow : PySem.W.keepIn K (.ref C_NoRow) = true) (xA_NoRow : PySem.W.findIn K (.ref C_NoRow) "__getattribute__" = some (some (.builtin "BaseException.__getattribute__"))) (xB_NoRow : PySem.W.findIn K (.ref C_NoRow) "__getattr__" = some none) (xD_NoRow : PySem.W.hasDictIn K C_NoRow = true)
    (xq_NoRow : PySem.W.excIn K C_NoRow [.type "ValueError", .type "Exception", .type "BaseException", .type "object"] "ValueError.__new__" = true)
    (xk_BadRow : PySem.W.keepIn K (.ref C_BadRow) = true) (xA_BadRow : PySem.W.findIn K (.ref C_BadRow) "__getattribute__" = some (some (.builtin "BaseException.__getattribute__"))) (xB_BadRow : PySem.W.findIn K (.ref C_BadRow) "__getattr__" = some none) (xD_BadRow : PySem.W.hasDictIn K C_BadRow = true)
    (xL_BadRow : K.lookup C_BadRow = some (excClassObj nm_BadRow q_BadRow C_BadRow N_BadRow bs_BadRow [.ref C_WorldError, .type "ValueError", .type "Exception", .type "BaseException", .type "object"] true sn_BadRow sub_BadRow ab_BadRow col_BadRow dd_BadRow m0_BadRow m1_BadRow m2_BadRow m3_BadRow m5_BadRow "ValueError.__new__"))
    (xS_BadRow : PySem.W.findIn K (.ref C_BadRow) "__setattr__" = some (some (.builtin "object.__setattr__"))) (xN_BadRow : PySem.W.findIn K (.ref C_BadRow) "place" = some none) (xI_BadRow : PySem.W.findIn K (.ref C_BadRow) "__init__" = some (some (.ref fI_BadRow))) (xT_BadRow : PySem.W.typeIn K (.ref fI_BadRow) = some (.type "function"))
    (xF_BadRow : K.lookup fI_BadRow = some ⟨oI_BadRow, dI_BadRow, .func (PySem.W.fnOf "__init__" qn_BadRow (iA "place" p1_BadRow p2_BadRow) (iB "place" q1_BadRow q2_BadRow q3_BadRow q4_BadRow) (iS "place") .none .none e1_BadRow e2_BadRow aI_BadRow g1_BadRow g2_BadRow), sI_BadRow⟩) (xc_BadRow : PySem.W.codeIn K g1_BadRow qn_BadRow = true)
    (xk_NoPlace : PySem.W.keepIn K (.ref C_NoPlace) = true) (xA_NoPlace : PySem.W.findIn K (.ref C_NoPlace) "__getattribute__" = some (some (.builtin "BaseException.__getattribute__"))) (xB_NoPlace : PySem.W.findIn K (.ref C_NoPlace) "__getattr__" = some none) (xD_NoPlace : PySem.W.hasDictIn K C_NoPlace = true)
    (xq_NoPlace : PySem.W.excIn K C_NoPlace [.type "ValueError", .type "Exception", .type "BaseException", .type "object"] "ValueError.__new__" = true)
    (xk_NoInputs : PySem.W.keepIn K (.ref C_NoInputs) = true) (xA_NoInputs : PySem.W.findIn K (.ref C_NoInputs) "__getattribute__" = some (some (.builtin "BaseException.__getattribute__"))) (xB_NoInputs : PySem.W.findIn K (.ref C_NoInputs) "__getattr__" = some none) (xD_NoInputs : PySem.W.hasDictIn K C_NoInputs = true)
    (xq_NoInputs : PySem.W.excIn K C_NoInputs [.type "ValueError", .type "Exception", .type "BaseException", .type "object"] "ValueError.__new__" = true)
    (xk_NoNumber : PySem.W.keepIn K (.ref C_NoNumber) = true) (xA_NoNumber : PySem.W.findIn K (.ref C_NoNumber) "__getattribute__" = some (some (.builtin "BaseException.__getattribute__"))) (xB_NoNumber : PySem.W.findIn K (.ref C_NoNumber) "__getattr__" = some none) (xD_NoNumber : PySem.W.hasDictIn K C_NoNumber = true)
    (xq_NoNumber : PySem.W.excIn K C_NoNumber [.type "ValueError", .type "Exception", .type "BaseException", .type "object"] "ValueError.__new__" = true)
    (m_MOST_BYTES : PySem.W.nsIn K mainGlobals "MOST_BYTES" = some (some (.int 300000 t_MOST_BYTES)))
    (m_BYTE : PySem.W.nsIn K mainGlobals "BYTE" = some (some (.int 256 t_BYTE)))
    (m_FIGURE : PySem.W.nsIn K mainGlobals "FIGURE" = some (some (.int 128 t_FIGURE)))
    (m_MOST_FIGURES : PySem.W.nsIn K mainGlobals "MOST_FIGURES" = some (some (.int 10 t_MOST_FIGURES)))
    (m_WHOLE_BOUND : PySem.W.nsIn K mainGlobals "WHOLE_BOUND" = some (some (.int 18446744073709551616 t_WHOLE_BOUND)))
    (m_MOST_INPUTS : PySem.W.nsIn K mainGlobals "MOST_INPUTS" = some (some (.int 100000 t_MOST_INPUTS)))
    (m_MOST_AGO : PySem.W.nsIn K mainGlobals "MOST_AGO" = some (some (.int 100000 t_MOST_AGO)))
    (m_MOST_HOLD : PySem.W.nsIn K mainGlobals "MOST_HOLD" = some (some (.int 600 t_MOST_HOLD))) :
    ∃ fd : FuncData, (∀ (s : Shared) (v : Value), BindsTo s fd ⟨[v], []⟩ [("script", v)]) ∧ ∀ base : Heap, K.In base → base.Ns mainGlobals mg → FnG P w K mg base (L2.CX P w) 10 fa fd ["script"] (spV (wd K) s_law) := by
  obtain rfl : f40 = fa := by injection Option.some.inj ((PySem.W.mg_of X G a40).symm.trans hfa)
  have e : AllL (ErrP K mg) tb := ⟨⟨C_NoRow, xg_NoRow, .inl ⟨rfl, by decide +kernel, PySem.W.mg_of X G xg_NoRow, xq_NoRow, xk_NoRow, xe_NoRow, xt_NoRow⟩, ⟨xA_NoRow, xB_NoRow, xe_NoRow, xD_NoRow⟩, trivial⟩, ⟨⟨C_BadRow, xg_BadRow, .inr ⟨"place", fI_BadRow, rfl, { hs := by decide +kernel, hd := by decide +kernel, hx := by decide +kernel, gC := PySem.W.mg_of X G xg_BadRow, cls := ⟨_, _, _, _, _, _, _, _, _, _, _, _, _, _, _, xL_BadRow, rfl⟩, sa := xS_BadRow, ga := xA_BadRow, gg := xB_BadRow, noN := xN_BadRow, iC := xI_BadRow, tC := xT_BadRow, kC := xk_BadRow, exC := xe_BadRow, tyC := xt_BadRow, hdC := xD_BadRow, fn := ⟨_, _, _, _, _, _, _, _, _, _, _, _, _, _, _, xF_BadRow, xc_BadRow, fun _ _ _ => .of_eq rfl⟩ }⟩, ⟨xA_BadRow, xB_BadRow, xe_BadRow, xD_BadRow⟩, ⟨xN_BadRow, trivial⟩⟩, ⟨⟨C_NoPlace, xg_NoPlace, .inl ⟨rfl, by decide +kernel, PySem.W.mg_of X G xg_NoPlace, xq_NoPlace, xk_NoPlace, xe_NoPlace, xt_NoPlace⟩, ⟨xA_NoPlace, xB_NoPlace, xe_NoPlace, xD_NoPlace⟩, trivial⟩, ⟨⟨C_NoInputs, xg_NoInputs, .inl ⟨rfl, by decide +kernel, PySem.W.mg_of X G xg_NoInputs, xq_NoInputs, xk_NoInputs, xe_NoInputs, xt_NoInputs⟩, ⟨xA_NoInputs, xB_NoInputs, xe_NoInputs, xD_NoInputs⟩, trivial⟩, ⟨⟨C_NoNumber, xg_NoNumber, .inl ⟨rfl, by decide +kernel, PySem.W.mg_of X G xg_NoNumber, xq_NoNumber, xk_NoNumber, xe_NoNumber, xt_NoNumber⟩, ⟨xA_NoNumber, xB_NoNumber, xe_NoNumber, xD_NoNumber⟩, trivial⟩, trivial⟩⟩⟩⟩⟩
  have d : AllL (HdP K mg tb) hs := ⟨⟨by decide +kernel, .ref C_BadRow, PySem.W.mg_of X G xg_BadRow, ⟨⟨C_NoRow, xg_NoRow, (exm_by xe_BadRow xi_BadRow xt_BadRow xs_NoRow_BadRow).trans (by decide +kernel)⟩, ⟨⟨C_BadRow, xg_BadRow, (exm_by xe_BadRow xi_BadRow xt_BadRow xs_BadRow_BadRow).trans (by decide +kernel)⟩, ⟨⟨C_NoPlace, xg_NoPlace, (exm_by xe_BadRow xi_BadRow xt_BadRow xs_NoPlace_BadRow).trans (by decide +kernel)⟩, ⟨⟨C_NoInputs, xg_NoInputs, (exm_by xe_BadRow xi_BadRow xt_BadRow xs_NoInputs_BadRow).trans (by decide +kernel)⟩, ⟨⟨C_NoNumber, xg_NoNumber, (exm_by xe_BadRow xi_BadRow xt_BadRow xs_NoNumber_BadRow).trans (by decide +kernel)⟩, trivial⟩⟩⟩⟩⟩⟩, ⟨⟨by decide +kernel, .ref C_WorldError, PySem.W.mg_of X G xg_WorldError, ⟨⟨C_NoRow, xg_NoRow, (exm_by xe_WorldError xi_WorldError xt_WorldError xs_NoRow_WorldError).trans (by decide +kernel)⟩, ⟨⟨C_BadRow, xg_BadRow, (exm_by xe_WorldError xi_WorldError xt_WorldError xs_BadRow_WorldError).trans (by decide +kernel)⟩, ⟨⟨C_NoPlace, xg_NoPlace, (exm_by xe_WorldError xi_WorldError xt_WorldError xs_NoPlace_WorldError).trans (by decide +kernel)⟩, ⟨⟨C_NoInputs, xg_NoInputs, (exm_by xe_WorldError xi_WorldError xt_WorldError xs_NoInputs_WorldError).trans (by decide +kernel)⟩, ⟨⟨C_NoNumber, xg_NoNumber, (exm_by xe_WorldError xi_WorldError xt_WorldError xs_NoNumber_WorldError).trans (by decide +kernel)⟩, trivial⟩⟩⟩⟩⟩⟩, trivial⟩⟩
  have bl : AllL (fun b => PySem.W.nsIn K mainGlobals b = some none) bltNames := ⟨z_len, ⟨z_int, ⟨z_bool, ⟨z_str, ⟨z_tuple, ⟨z_list, ⟨z_abs, ⟨z_min, ⟨z_max, ⟨z_sum, ⟨z_all, ⟨z_any, ⟨z_range, ⟨z_zip, ⟨z_enumerate, ⟨z_reversed, ⟨z_isinstance, ⟨z_dict, ⟨z_sorted, ⟨z_set, ⟨z_repr, trivial⟩⟩⟩⟩⟩⟩⟩⟩⟩⟩⟩⟩⟩⟩⟩⟩⟩⟩⟩⟩⟩
  have is : AllL (IsP K mg tb) his := trivial
  have gd : Gnd K mg (wd K) Gam tb hs his := gnd_T X G e d is (cn_mk X G m_MOST_BYTES m_BYTE m_FIGURE m_MOST_FIGURES m_WHOLE_BOUND m_MOST_INPUTS m_MOST_AGO m_MOST_HOLD) bl
  exact ⟨PySem.W.fnOf "law" "law" (defArgs st_law) (defBody st_law) (defScope st_law) .none kV40 dc40 pm40 an40 cd40 ct40, fun s v => .of_eq rfl, fun base _ _ => D_law X G { c_Reader := ⟨C_Reader, xg_Reader, ⟨pg_Reader, hd_Reader, po_Reader, sa_Reader⟩, mk_Reader, kc_Reader, ⟨⟨pg_Reader, hd_Reader, po_Reader, sa_Reader⟩, ia_Reader, ihn, iht, im_Reader, if_pos (beq_self_eq_true _)⟩, ⟨nf_Reader_row, ⟨nf_Reader_at, ⟨nf_Reader_last, trivial⟩⟩⟩⟩, d_is_integer := ⟨f0, _, fun_mk l0 c0 k0, a0⟩, d_is_within := ⟨f1, _, fun_mk l1 c1 k1, a1⟩, d_is_below := ⟨f2, _, fun_mk l2 c2 k2, a2⟩, d_is_row := ⟨f3, _, fun_mk l3 c3 k3, a3⟩, d_check_row := ⟨f4, _, fun_mk l4 c4 k4, a4⟩, d_figures_of := ⟨f5, _, fun_mk l5 c5 k5, a5⟩, d_number_at := ⟨f6, _, fun_mk l6 c6 k6, a6⟩, d_taken := ⟨f7, _, fun_mk l7 c7 k7, a7⟩, d_check_place := ⟨f8, _, fun_mk l8 c8 k8, a8⟩, d_Reader___init__ := ⟨f9, _, fun_mk l9 c9 k9, ⟨a9, i9, k9⟩⟩, d_Reader_next_number := ⟨f10, _, fun_mk l10 c10 k10, ⟨a10, i10, k10⟩⟩, d_Reader_next_byte := ⟨f11, _, fun_mk l11 c11 k11, ⟨a11, i11, k11⟩⟩, d_is_input := ⟨f12, _, fun_mk l12 c12 k12, a12⟩, d_are_inputs := ⟨f13, _, fun_mk l13 c13 k13, a13⟩, d_check_inputs := ⟨f14, _, fun_mk l14 c14 k14, a14⟩, d_check_input := ⟨f15, _, fun_mk l15 c15 k15, a15⟩, d_runs_of := ⟨f16, _, fun_mk l16 c16 k16, a16⟩, d_run_row := ⟨f17, _, fun_mk l17 c17 k17, a17⟩, d_input_row := ⟨f18, _, fun_mk l18 c18 k18, a18⟩, d_taken_inputs := ⟨f19, _, fun_mk l19 c19 k19, a19⟩, d_read_inputs := ⟨f20, _, fun_mk l20 c20 k20, a20⟩, d_guessed := ⟨f21, _, fun_mk l21 c21 k21, a21⟩, d_guess := ⟨f22, _, fun_mk l22 c22 k22, a22⟩, d__law_hand := ⟨f23, _, fun_mk l23 c23 k23, a23⟩, d__law_draw := ⟨f24, _, fun_mk l24 c24 k24, a24⟩, d__law_is := ⟨f25, _, fun_mk l25 c25 k25, a25⟩, d__law_whole := ⟨f26, _, fun_mk l26 c26 k26, a26⟩, d__law_read := ⟨f27, _, fun_mk l27 c27 k27, a27⟩, d__law_byte := ⟨f28, _, fun_mk l28 c28 k28, a28⟩, d__law_bytes := ⟨f29, _, fun_mk l29 c29 k29, a29⟩, d__law_spoilt := ⟨f30, _, fun_mk l30 c30 k30, a30⟩, d__law_runs := ⟨f31, _, fun_mk l31 c31 k31, a31⟩, d__law_ticks := ⟨f32, _, fun_mk l32 c32 k32, a32⟩, d__law_run_bytes := ⟨f33, _, fun_mk l33 c33 k33, a33⟩, d__law_input_bytes := ⟨f34, _, fun_mk l34 c34 k34, a34⟩, d__law_parsed := ⟨f35, _, fun_mk l35 c35 k35, a35⟩, d__law_read_told := ⟨f36, _, fun_mk l36 c36 k36, a36⟩, d__law_is_told := ⟨f37, _, fun_mk l37 c37 k37, a37⟩, d__law_wrong_runs := ⟨f38, _, fun_mk l38 c38 k38, a38⟩, d__law_is_guess := ⟨f39, _, fun_mk l39 c39 k39, a39⟩, d_law := ⟨f40, _, fun_mk l40 c40 k40, a40⟩ } gd⟩
theorem walk {l : PySem.W.OpenLaw} {q : Program} {loose : List Str} {XP : (Str → Option Value) → Heap → Prop} {YP : World → Heap → Prop} {d : DefRec} {K : Params → PySem.W.Frag} (hn : l.most = some 63) (hdf : d.params.defaults = [])
    (hY : ∀ (w : World) (h : Heap), YP w h → (K w.params).In h)
    (F : ∀ (w : World) (mg : Str → Option Value) (fa : Addr) (h : Heap), (K w.params).In h → h.Ns mainGlobals mg → mg d.name = some (.ref fa) →
      ∃ fd : FuncData, (∀ (s : Shared) (u : Value), BindsTo s fd ⟨[u], []⟩ [("script", u)]) ∧ ∀ base : Heap, (K w.params).In base → base.Ns mainGlobals mg → FnG l.prog w (K w.params) mg base (L2.CX l.prog w) 10 fa fd ["script"] (spV (wd (K w.params)) s_law)) :
    PySem.W.WalkO q loose XP YP l.row.toRowW d [] (fun f vs => PySem.call f vs) :=
  walk_G (n := 63) (k := 10) (x := "script") (Cx0 := fun w => L2.CX l.prog w) (sp := fun w => spV (wd (K w.params)) s_law) hn (by decide) hdf ⟨rfl, by decide, by decide⟩ hY F (fun w H a ns hl hb ho hs => law_end ho hs (law_run ns hl hb))
    fun w H s e s' ⟨_, _, _, _, _, _, _, _, _, _, _, _, z⟩ => z
end L_k26
open PySem PySem.W PyProof.Rows in
set_option maxRecDepth 100000 in
set_option maxHeartbeats 0 in
theorem PySem.Challenge.cw_swornworlds_k26_whole_inputs_as_rows_holds : PySem.Challenge.rw_swornworlds_k26_whole_inputs_as_rows.Holds := by
  w_on; o_law; k_head; (case hw => w_witness2)
  k_fill
  refine L_k26.walk (l := PySem.Challenge.rw_swornworlds_k26_whole_inputs_as_rows) rfl rfl (fun w h Y => PySem.W.kIn_of Y) ?F
  case F =>
    intro w mg fa h KX G hmg
    refine' L_k26.all_mk KX G hmg ?xg_Reader ?pg_Reader ?hd_Reader ?po_Reader ?sa_Reader ?mk_Reader ?kc_Reader ?ia_Reader ?im_Reader ?nf_Reader_row ?nf_Reader_at ?nf_Reader_last ?ihn ?iht ?a0 ?l0 ?c0 ?k0 ?a1 ?l1 ?c1 ?k1 ?a2 ?l2 ?c2 ?k2 ?a3 ?l3 ?c3 ?k3 ?a4 ?l4 ?c4 ?k4 ?a5 ?l5 ?c5 ?k5 ?a6 ?l6 ?c6 ?k6 ?a7 ?l7 ?c7 ?k7 ?a8 ?l8 ?c8 ?k8 ?i9 ?a9 ?l9 ?c9 ?k9 ?i10 ?a10 ?l10 ?c10 ?k10 ?i11 ?a11 ?l11 ?c11 ?k11 ?a12 ?l12 ?c12 ?k12 ?a13 ?l13 ?c13 ?k13 ?a14 ?l14 ?c14 ?k14 ?a15 ?l15 ?c15 ?k15 ?a16 ?l16 ?c16 ?k16 ?a17 ?l17 ?c17 ?k17 ?a18 ?l18 ?c18 ?k18 ?a19 ?l19 ?c19 ?k19 ?a20 ?l20 ?c20 ?k20 ?a21 ?l21 ?c21 ?k21 ?a22 ?l22 ?c22 ?k22 ?a23 ?l23 ?c23 ?k23 ?a24 ?l24 ?c24 ?k24 ?a25 ?l25 ?c25 ?k25 ?a26 ?l26 ?c26 ?k26 ?a27 ?l27 ?c27 ?k27 ?a28 ?l28 ?c28 ?k28 ?a29 ?l29 ?c29 ?k29 ?a30 ?l30 ?c30 ?k30 ?a31 ?l31 ?c31 ?k31 ?a32 ?l32 ?c32 ?k32 ?a33 ?l33 ?c33 ?k33 ?a34 ?l34 ?c34 ?k34 ?a35 ?l35 ?c35 ?k35 ?a36 ?l36 ?c36 ?k36 ?a37 ?l37 ?c37 ?k37 ?a38 ?l38 ?c38 ?k38 ?a39 ?l39 ?c39 ?k39 ?a40 ?l40 ?c40 ?k40 ?z_len ?z_int ?z_bool ?z_str ?z_tuple ?z_list ?z_abs ?z_min ?z_max ?z_sum ?z_all ?z_any ?z_range ?z_zip ?z_enumerate ?z_reversed ?z_isinstance ?z_dict ?z_sorted ?z_set ?z_repr ?xg_NoRow ?xe_NoRow ?xt_NoRow ?xg_WorldError ?xe_WorldError ?xt_WorldError ?xg_BadRow ?xe_BadRow ?xt_BadRow ?xg_NoPlace ?xe_NoPlace ?xt_NoPlace ?xg_NoInputs ?xe_NoInputs ?xt_NoInputs ?xg_NoNumber ?xe_NoNumber ?xt_NoNumber ?xi_BadRow ?xs_NoRow_BadRow ?xs_BadRow_BadRow ?xs_NoPlace_BadRow ?xs_NoInputs_BadRow ?xs_NoNumber_BadRow ?xi_WorldError ?xs_NoRow_WorldError ?xs_BadRow_WorldError ?xs_NoPlace_WorldError ?xs_NoInputs_WorldError ?xs_NoNumber_WorldError ?xk_NoRow ?xA_NoRow ?xB_NoRow ?xD_NoRow ?xq_NoRow ?xk_BadRow ?xA_BadRow ?xB_BadRow ?xD_BadRow ?xL_BadRow ?xS_BadRow ?xN_BadRow ?xI_BadRow ?xT_BadRow ?xF_BadRow ?xc_BadRow ?xk_NoPlace ?xA_NoPlace ?xB_NoPlace ?xD_NoPlace ?xq_NoPlace ?xk_NoInputs ?xA_NoInputs ?xB_NoInputs ?xD_NoInputs ?xq_NoInputs ?xk_NoNumber ?xA_NoNumber ?xB_NoNumber ?xD_NoNumber ?xq_NoNumber ?m_MOST_BYTES ?m_BYTE ?m_FIGURE ?m_MOST_FIGURES ?m_WHOLE_BOUND ?m_MOST_INPUTS ?m_MOST_AGO ?m_MOST_HOLD
    (case xg_Reader => k_is)
    (case pg_Reader => k_is)
    (case hd_Reader => k_is)
    (case po_Reader => k_is)
    (case sa_Reader => k_is)
    (case mk_Reader => k_is)
    (case kc_Reader => k_is)
    (case ia_Reader => k_is)
    (case im_Reader => k_is)
    (case nf_Reader_row => k_is)
    (case nf_Reader_at => k_is)
    (case nf_Reader_last => k_is)
    (case ihn => k_is)
    (case iht => k_is)
    (case a0 => k_is)
    (case l0 => k_is)
    (case c0 => k_is)
    (case k0 => k_is)
    (case a1 => k_is)
    (case l1 => k_is)
    (case c1 => k_is)
    (case k1 => k_is)
    (case a2 => k_is)
    (case l2 => k_is)
    (case c2 => k_is)
    (case k2 => k_is)
    (case a3 => k_is)
    (case l3 => k_is)
    (case c3 => k_is)
    (case k3 => k_is)
    (case a4 => k_is)
    (case l4 => k_is)
    (case c4 => k_is)
    (case k4 => k_is)
    (case a5 => k_is)
    (case l5 => k_is)
    (case c5 => k_is)
    (case k5 => k_is)
    (case a6 => k_is)
    (case l6 => k_is)
    (case c6 => k_is)
    (case k6 => k_is)
    (case a7 => k_is)
    (case l7 => k_is)
    (case c7 => k_is)
    (case k7 => k_is)
    (case a8 => k_is)
    (case l8 => k_is)
    (case c8 => k_is)
    (case k8 => k_is)
    (case i9 => k_is)
    (case a9 => k_is)
    (case l9 => k_is)
    (case c9 => k_is)
    (case k9 => k_is)
    (case i10 => k_is)
    (case a10 => k_is)
    (case l10 => k_is)
    (case c10 => k_is)
    (case k10 => k_is)
    (case i11 => k_is)
    (case a11 => k_is)
    (case l11 => k_is)
    (case c11 => k_is)
    (case k11 => k_is)
    (case a12 => k_is)
    (case l12 => k_is)
    (case c12 => k_is)
    (case k12 => k_is)
    (case a13 => k_is)
    (case l13 => k_is)
    (case c13 => k_is)
    (case k13 => k_is)
    (case a14 => k_is)
    (case l14 => k_is)
    (case c14 => k_is)
    (case k14 => k_is)
    (case a15 => k_is)
    (case l15 => k_is)
    (case c15 => k_is)
    (case k15 => k_is)
    (case a16 => k_is)
    (case l16 => k_is)
    (case c16 => k_is)
    (case k16 => k_is)
    (case a17 => k_is)
    (case l17 => k_is)
    (case c17 => k_is)
    (case k17 => k_is)
    (case a18 => k_is)
    (case l18 => k_is)
    (case c18 => k_is)
    (case k18 => k_is)
    (case a19 => k_is)
    (case l19 => k_is)
    (case c19 => k_is)
    (case k19 => k_is)
    (case a20 => k_is)
    (case l20 => k_is)
    (case c20 => k_is)
    (case k20 => k_is)
    (case a21 => k_is)
    (case l21 => k_is)
    (case c21 => k_is)
    (case k21 => k_is)
    (case a22 => k_is)
    (case l22 => k_is)
    (case c22 => k_is)
    (case k22 => k_is)
    (case a23 => k_is)
    (case l23 => k_is)
    (case c23 => k_is)
    (case k23 => k_is)
    (case a24 => k_is)
    (case l24 => k_is)
    (case c24 => k_is)
    (case k24 => k_is)
    (case a25 => k_is)
    (case l25 => k_is)
    (case c25 => k_is)
    (case k25 => k_is)
    (case a26 => k_is)
    (case l26 => k_is)
    (case c26 => k_is)
    (case k26 => k_is)
    (case a27 => k_is)
    (case l27 => k_is)
    (case c27 => k_is)
    (case k27 => k_is)
    (case a28 => k_is)
    (case l28 => k_is)
    (case c28 => k_is)
    (case k28 => k_is)
    (case a29 => k_is)
    (case l29 => k_is)
    (case c29 => k_is)
    (case k29 => k_is)
    (case a30 => k_is)
    (case l30 => k_is)
    (case c30 => k_is)
    (case k30 => k_is)
    (case a31 => k_is)
    (case l31 => k_is)
    (case c31 => k_is)
    (case k31 => k_is)
    (case a32 => k_is)
    (case l32 => k_is)
    (case c32 => k_is)
    (case k32 => k_is)
    (case a33 => k_is)
    (case l33 => k_is)
    (case c33 => k_is)
    (case k33 => k_is)
    (case a34 => k_is)
    (case l34 => k_is)
    (case c34 => k_is)
    (case k34 => k_is)
    (case a35 => k_is)
    (case l35 => k_is)
    (case c35 => k_is)
    (case k35 => k_is)
    (case a36 => k_is)
    (case l36 => k_is)
    (case c36 => k_is)
    (case k36 => k_is)
    (case a37 => k_is)
    (case l37 => k_is)
    (case c37 => k_is)
    (case k37 => k_is)
    (case a38 => k_is)
    (case l38 => k_is)
    (case c38 => k_is)
    (case k38 => k_is)
    (case a39 => k_is)
    (case l39 => k_is)
    (case c39 => k_is)
    (case k39 => k_is)
    (case a40 => k_is)
    (case l40 => k_is)
    (case c40 => k_is)
    (case k40 => k_is)
    (case z_len => k_is)
    (case z_int => k_is)
    (case z_bool => k_is)
    (case z_str => k_is)
    (case z_tuple => k_is)
    (case z_list => k_is)
    (case z_abs => k_is)
    (case z_min => k_is)
    (case z_max => k_is)
    (case z_sum => k_is)
    (case z_all => k_is)
    (case z_any => k_is)
    (case z_range => k_is)
    (case z_zip => k_is)
    (case z_enumerate => k_is)
    (case z_reversed => k_is)
    (case z_isinstance => k_is)
    (case z_dict => k_is)
    (case z_sorted => k_is)
    (case z_set => k_is)
    (case z_repr => k_is)
    (case xg_NoRow => k_is)
    (case xe_NoRow => k_is)
    (case xt_NoRow => k_is)
    (case xg_WorldError => k_is)
    (case xe_WorldError => k_is)
    (case xt_WorldError => k_is)
    (case xg_BadRow => k_is)
    (case xe_BadRow => k_is)
    (case xt_BadRow => k_is)
    (case xg_NoPlace => k_is)
    (case xe_NoPlace => k_is)
    (case xt_NoPlace => k_is)
    (case xg_NoInputs => k_is)
    (case xe_NoInputs => k_is)
    (case xt_NoInputs => k_is)
    (case xg_NoNumber => k_is)
    (case xe_NoNumber => k_is)
    (case xt_NoNumber => k_is)
    (case xi_BadRow => k_is)
    (case xs_NoRow_BadRow => first | rfl | k_is)
    (case xs_BadRow_BadRow => first | rfl | k_is)
    (case xs_NoPlace_BadRow => first | rfl | k_is)
    (case xs_NoInputs_BadRow => first | rfl | k_is)
    (case xs_NoNumber_BadRow => first | rfl | k_is)
    (case xi_WorldError => k_is)
    (case xs_NoRow_WorldError => first | rfl | k_is)
    (case xs_BadRow_WorldError => first | rfl | k_is)
    (case xs_NoPlace_WorldError => first | rfl | k_is)
    (case xs_NoInputs_WorldError => first | rfl | k_is)
    (case xs_NoNumber_WorldError => first | rfl | k_is)
    (case xk_NoRow => k_is)
    (case xA_NoRow => k_is)
    (case xB_NoRow => k_is)
    (case xD_NoRow => k_is)
    (case xq_NoRow => k_exc)
    (case xk_BadRow => k_is)
    (case xA_BadRow => k_is)
    (case xB_BadRow => k_is)
    (case xD_BadRow => k_is)
    (case xL_BadRow => k_is)
    (case xS_BadRow => k_is)
    (case xN_BadRow => k_is)
    (case xI_BadRow => k_is)
    (case xT_BadRow => k_is)
    (case xF_BadRow => k_is)
    (case xc_BadRow => k_is)
    (case xk_NoPlace => k_is)
    (case xA_NoPlace => k_is)
    (case xB_NoPlace => k_is)
    (case xD_NoPlace => k_is)
    (case xq_NoPlace => k_exc)
    (case xk_NoInputs => k_is)
    (case xA_NoInputs => k_is)
    (case xB_NoInputs => k_is)
    (case xD_NoInputs => k_is)
    (case xq_NoInputs => k_exc)
    (case xk_NoNumber => k_is)
    (case xA_NoNumber => k_is)
    (case xB_NoNumber => k_is)
    (case xD_NoNumber => k_is)
    (case xq_NoNumber => k_exc)
    (case m_MOST_BYTES => k_is)
    (case m_BYTE => k_is)
    (case m_FIGURE => k_is)
    (case m_MOST_FIGURES => k_is)
    (case m_WHOLE_BOUND => k_is)
    (case m_MOST_INPUTS => k_is)
    (case m_MOST_AGO => k_is)
    (case m_MOST_HOLD => k_is)
