import PyProof.Rows.All
import Wide.All
import OpenK.AllK
import Wide.FinOn
import HandS.ForMost
import HandS.ForExc
import HandS.Defaults
import HandS.IsInst
import HandS.Text
import HandS.TupAny
import HandS.Deep
import HandS.Iter
import HandS.Comp
import HandS.Dict
import HandS.SetFor
import HandS.Ends
import HandS.Head0
import HandS.Head1
import HandS.Head2
import HandS.HeadEnd
import HandS.HeadHook1
import HandS.HeadHook2
import HandS.HeadHook3
import HandS.HeadHook4
import HandS.Codes
import PySem.Challenge.RW_capruns_k01_names_variables_claims
set_option Elab.async false
set_option linter.all false
set_option maxRecDepth 100000
set_option maxHeartbeats 0
set_option autoImplicit false
namespace AI
open PySem PySem.Spec PyProof.Rows
open L2

/-- the built-in types that the texts name -/
inductive Tag where
  | non | bl | int | str | tup | lst | dct | set
  deriving DecidableEq, Inhabited
def Tag.nm : Tag → String
  | .non => "NoneType" | .bl => "bool" | .int => "int" | .str => "str" | .tup => "tuple" | .lst => "list" | .dct => "dict" | .set => "set"
/-- abstract values: lst, dct, obj are views of objects that nobody changes; ref n is the n-th object of the abstract heap -/
inductive AV where
  | non | bl (b : Bool) | int (i : Int) | str (s : List Nat)
  | tup (l : List AV) | lst (l : List AV)
  | dct (ks : List Key) (l : List AV)
  | ref (n : Nat) | ty (t : Tag) | gl (x : Str)
  deriving Inhabited

inductive AO where
  | list (l : List AV)
  deriving Inhabited

abbrev AHeap := List AO
abbrev AEnv := List (Option AV)
structure AX where
  cls : Str
  names : List Str
  vals : List AV

inductive Res (α : Type) where
  | ok (a : α) (h : AHeap)
  | exc (e : AX) (h : AHeap)
  | bad

namespace Res
def bind {α β : Type} : Res α → (α → AHeap → Res β) → Res β
  | .ok a h, k => k a h
  | .exc e h, _ => .exc e h
  | .bad, _ => .bad
end Res

/-- what is fixed of the text -/
structure Ctx where
  K : PySem.W.Frag
  mg : Str → Option Value
  /-- lists that a comprehension around is filling -/
  Z : List Addr := []

abbrev Mu := List Addr

/-- a tuple, a list outside the abstract heap -/
def TupAt (C : Ctx) (μ : Mu) (H : Hp) (a : Addr) (xs : List V) : Prop :=
  (a ∉ μ ∧ Rd H a (.tup xs)) ∨
    ∃ (o : Obj) (its : Array Value) (n : Nat), C.K.lookup a = some o ∧ o.cls = .type "tuple" ∧ o.data = .seq its n ∧ its.size ≤ sizeLine ∧ Vals xs its.toList
theorem TupAt.sq {C : Ctx} {μ : Mu} {H : Hp} {a : Addr} {xs : List V} (h : TupAt C μ H a xs) : SqT C.K H a xs := h.imp (·.2) id
def LstAt (C : Ctx) (μ : Mu) (H : Hp) (a : Addr) (xs : List V) : Prop := (a ∉ μ ∧ a ∉ C.Z ∧ Rd H a (.lst xs)) ∨
  ∃ (o : Obj) (its : Array Value) (n : Nat), C.K.lookup a = some o ∧ o.cls = .type "list" ∧ o.dict = none ∧ o.data = .seq its n ∧ its.size ≤ sizeLine ∧ Vals xs its.toList
def DctAt (C : Ctx) (μ : Mu) (H : Hp) (a : Addr) (ks : List Key) (xs : List V) : Prop := a ∉ μ ∧ a ∉ C.Z ∧ ks.length = xs.length ∧ H a = some (.dK (ks.zip xs))
theorem LstAt.sq {C : Ctx} {μ : Mu} {H : Hp} {a : Addr} {xs : List V} (h : LstAt C μ H a xs) : SqL C.K H a xs := h.imp (·.2.2) _root_.id

mutual
def RV (C : Ctx) (μ : Mu) (H : Hp) : AV → V → Prop
  | .non, x => x = .non
  | .bl b, x => x = .bl b
  | .int i, x => x = .int i
  | .str s, x => x = .str ⟨s.toArray⟩
  | .tup l, x => ∃ a xs, x = .ref a ∧ TupAt C μ H a xs ∧ RVs C μ H l xs
  | .lst l, x => ∃ a xs, x = .ref a ∧ LstAt C μ H a xs ∧ RVs C μ H l xs
  | .dct ks l, x => ∃ a xs, x = .ref a ∧ DctAt C μ H a ks xs ∧ RVs C μ H l xs
  | .ref n, x => ∃ a, x = .ref a ∧ μ[n]? = some a
  | .ty n, x => x = .ty n.nm
  | .gl y, x => ∃ a, x = .ref a ∧ C.mg y = some (.ref a)
def RVs (C : Ctx) (μ : Mu) (H : Hp) : List AV → List V → Prop
  | [], xs => xs = []
  | v :: l, xs => ∃ x r, xs = x :: r ∧ RV C μ H v x ∧ RVs C μ H l r
end

def OR (C : Ctx) (μ : Mu) (H : Hp) : AO → Addr → Prop
  | .list l, a => ∃ xs, H a = some (.lst xs) ∧ RVs C μ H l xs

structure RepH (C : Ctx) (μ : Mu) (h : AHeap) (H : Hp) : Prop where
  len : μ.length = h.length
  nd : μ.Nodup
  obj : ∀ (n : Nat) (o : AO) (a : Addr), h[n]? = some o → μ[n]? = some a → OR C μ H o a
  zs : ∀ a ∈ C.Z, a ∉ μ ∧ ∃ o, H a = some o

structure Ext (μ : Mu) (H : Hp) (μ' : Mu) (H' : Hp) : Prop where
  pre : ∀ (n : Nat) (a : Addr), μ[n]? = some a → μ'[n]? = some a
  new : ∀ a, a ∈ μ' → a ∈ μ ∨ H a = none
  frame : ∀ b o, b ∉ μ → H b = some o → H' b = some o

theorem Ext.refl (μ : Mu) (H : Hp) : Ext μ H μ H := ⟨fun _ _ h => h, fun _ h => .inl h, fun _ _ _ h => h⟩
theorem Ext.out {μ μ' : Mu} {H H' : Hp} (e : Ext μ H μ' H') {b : Addr} {o : HO} (hb : b ∉ μ) (ho : H b = some o) : b ∉ μ' := fun hm => by
  rcases e.new b hm with h | h
  · exact hb h
  · rw [h] at ho; cases ho
theorem Ext.free {μ μ' : Mu} {H H' : Hp} (e : Ext μ H μ' H') {p : Addr} (hp : H' p = none) (hm : p ∉ μ') : H p = none := by
  cases q : H p with
  | none => rfl
  | some o =>
    have : p ∉ μ := fun z => by
      obtain ⟨n, hn⟩ := List.getElem?_of_mem z
      exact hm (List.mem_of_getElem? (e.pre n p hn))
    rw [e.frame p o this q] at hp; cases hp
theorem Ext.trans {μ μ1 μ2 : Mu} {H H1 H2 : Hp} (a : Ext μ H μ1 H1) (b : Ext μ1 H1 μ2 H2) : Ext μ H μ2 H2 := by
  refine ⟨fun n x h => b.pre n x (a.pre n x h), fun x h => ?_, fun x o hx ho => b.frame x o (a.out hx ho) (a.frame x o hx ho)⟩
  rcases b.new x h with h | h
  · exact a.new x h
  · by_cases hx : x ∈ μ
    · exact .inl hx
    · right
      cases q : H x with
      | none => rfl
      | some o => rw [a.frame x o hx q] at h; cases h
theorem Ext.rd {μ μ' : Mu} {H H' : Hp} (e : Ext μ H μ' H') {a : Addr} {u : HO} (ha : a ∉ μ) (h : Rd H a u) : a ∉ μ' ∧ Rd H' a u := by
  rcases h with h | ⟨o, h⟩
  · exact ⟨e.out ha h, .inl (e.frame _ _ ha h)⟩
  · exact ⟨e.out ha h, .inr ⟨o, e.frame _ _ ha h⟩⟩
theorem TupAt.mono {C : Ctx} {μ μ' : Mu} {H H' : Hp} (e : Ext μ H μ' H') {a : Addr} {xs : List V} (h : TupAt C μ H a xs) : TupAt C μ' H' a xs := by
  rcases h with ⟨h1, h2⟩ | h
  · exact .inl (e.rd h1 h2)
  · exact .inr h
theorem LstAt.mono {C : Ctx} {μ μ' : Mu} {H H' : Hp} (e : Ext μ H μ' H') {a : Addr} {xs : List V} (h : LstAt C μ H a xs) : LstAt C μ' H' a xs :=
  h.imp (fun h => ⟨(e.rd h.1 h.2.2).1, h.2.1, (e.rd h.1 h.2.2).2⟩) _root_.id
theorem DctAt.mono {C : Ctx} {μ μ' : Mu} {H H' : Hp} (e : Ext μ H μ' H') {a : Addr} {ks : List Key} {xs : List V} (h : DctAt C μ H a ks xs) : DctAt C μ' H' a ks xs :=
  ⟨e.out h.1 h.2.2.2, h.2.1, h.2.2.1, e.frame _ _ h.1 h.2.2.2⟩
mutual
theorem RV.mono {C : Ctx} {μ μ' : Mu} {H H' : Hp} (e : Ext μ H μ' H') : ∀ {v : AV} {x : V}, RV C μ H v x → RV C μ' H' v x
  | .non, _, h => by simpa [RV] using h
  | .bl _, _, h => by simpa [RV] using h
  | .int _, _, h => by simpa [RV] using h
  | .str _, _, h => by simpa [RV] using h
  | .tup _, _, h => by
    simp only [RV] at h ⊢
    obtain ⟨a, xs, h1, h2, h3⟩ := h
    exact ⟨a, xs, h1, h2.mono e, RVs.mono e h3⟩
  | .lst _, _, h => by
    simp only [RV] at h ⊢
    obtain ⟨a, xs, h1, h2, h3⟩ := h
    exact ⟨a, xs, h1, h2.mono e, RVs.mono e h3⟩
  | .dct _ _, _, h => by
    simp only [RV] at h ⊢
    obtain ⟨a, xs, h1, h2, h3⟩ := h
    exact ⟨a, xs, h1, h2.mono e, RVs.mono e h3⟩
  | .ref n, _, h => by
    simp only [RV] at h ⊢
    obtain ⟨a, h1, h2⟩ := h
    exact ⟨a, h1, e.pre _ _ h2⟩
  | .ty _, _, h => by simpa [RV] using h
  | .gl _, _, h => by simpa [RV] using h
theorem RVs.mono {C : Ctx} {μ μ' : Mu} {H H' : Hp} (e : Ext μ H μ' H') : ∀ {l : List AV} {xs : List V}, RVs C μ H l xs → RVs C μ' H' l xs
  | [], _, h => by simpa [RVs] using h
  | v :: l, _, h => by
    simp only [RVs] at h ⊢
    obtain ⟨x, r, h1, h2, h3⟩ := h
    exact ⟨x, r, h1, RV.mono e h2, RVs.mono e h3⟩
end
theorem Rd.there {H : Hp} {a : Addr} {u : HO} (h : Rd H a u) : ∃ o, H a = some o := by
  rcases h with h | ⟨o, h⟩
  · exact ⟨_, h⟩
  · exact ⟨_, h⟩
mutual
/-- other lists are filled around -/
theorem RV.turnZ {C C' : Ctx} {μ : Mu} {H : Hp} (hK : C'.K = C.K) (hm : C'.mg = C.mg) (hZ : ∀ a, (∃ o, a ∉ μ ∧ H a = some o) → a ∉ C.Z → a ∉ C'.Z) : ∀ {v : AV} {x : V}, RV C μ H v x → RV C' μ H v x
  | .non, _, h => by simpa [RV] using h
  | .bl _, _, h => by simpa [RV] using h
  | .int _, _, h => by simpa [RV] using h
  | .str _, _, h => by simpa [RV] using h
  | .tup _, _, h => by
    simp only [RV] at h ⊢
    obtain ⟨a, xs, h1, h2, h3⟩ := h
    refine ⟨a, xs, h1, ?_, RVs.turnZ hK hm hZ h3⟩
    unfold TupAt at h2 ⊢
    rw [hK]; exact h2
  | .lst _, _, h => by
    simp only [RV] at h ⊢
    obtain ⟨a, xs, h1, h2, h3⟩ := h
    refine ⟨a, xs, h1, ?_, RVs.turnZ hK hm hZ h3⟩
    unfold LstAt at h2 ⊢
    rw [hK]
    exact h2.imp (fun ⟨q1, q2, q3⟩ => ⟨q1, hZ a (let ⟨o, z⟩ := Rd.there q3; ⟨o, q1, z⟩) q2, q3⟩) _root_.id
  | .dct _ _, _, h => by
    simp only [RV] at h ⊢
    obtain ⟨a, xs, h1, ⟨q1, q2, q4, q3⟩, h3⟩ := h
    exact ⟨a, xs, h1, ⟨q1, hZ a ⟨_, q1, q3⟩ q2, q4, q3⟩, RVs.turnZ hK hm hZ h3⟩
  | .ref n, _, h => by simpa [RV] using h
  | .ty _, _, h => by simpa [RV] using h
  | .gl _, _, h => by simpa [RV, hm] using h
theorem RVs.turnZ {C C' : Ctx} {μ : Mu} {H : Hp} (hK : C'.K = C.K) (hm : C'.mg = C.mg) (hZ : ∀ a, (∃ o, a ∉ μ ∧ H a = some o) → a ∉ C.Z → a ∉ C'.Z) : ∀ {l : List AV} {xs : List V}, RVs C μ H l xs → RVs C' μ H l xs
  | [], _, h => by simpa [RVs] using h
  | v :: l, _, h => by
    simp only [RVs] at h ⊢
    obtain ⟨x, r, h1, h2, h3⟩ := h
    exact ⟨x, r, h1, RV.turnZ hK hm hZ h2, RVs.turnZ hK hm hZ h3⟩
end
section
variable {C : Ctx} {μ μ' : Mu} {H H' : Hp} {h : AHeap}
theorem RVs.nil : RVs C μ H [] [] := by simp [RVs]
theorem RVs.cons {v : AV} {l : List AV} {x : V} {r : List V} (a : RV C μ H v x) (b : RVs C μ H l r) : RVs C μ H (v :: l) (x :: r) := by
  simp only [RVs]; exact ⟨x, r, rfl, a, b⟩
theorem RVs.inv {v : AV} {l : List AV} {xs : List V} (h : RVs C μ H (v :: l) xs) : ∃ x r, xs = x :: r ∧ RV C μ H v x ∧ RVs C μ H l r := by simpa only [RVs] using h
theorem RVs.length : ∀ {l : List AV} {xs : List V}, RVs C μ H l xs → xs.length = l.length
  | [], _, h => by simp only [RVs] at h; subst h; rfl
  | v :: l, _, h => by
    obtain ⟨x, r, rfl, _, h3⟩ := h.inv
    simp [RVs.length h3]
theorem RVs.get : ∀ {l : List AV} {xs : List V} {i : Nat} {v : AV}, RVs C μ H l xs → l[i]? = some v → ∃ x, xs[i]? = some x ∧ RV C μ H v x
  | [], _, _, _, _, e => by simp at e
  | w :: l, _, 0, v, h, e => by
    obtain ⟨x, r, rfl, h2, _⟩ := h.inv
    simp at e; subst e
    exact ⟨x, rfl, h2⟩
  | w :: l, _, i + 1, v, h, e => by
    obtain ⟨x, r, rfl, _, h3⟩ := h.inv
    obtain ⟨y, e1, e2⟩ := RVs.get (i := i) h3 (by simpa using e)
    exact ⟨y, by simpa using e1, e2⟩
theorem RVs.append : ∀ {l m : List AV} {xs ys : List V}, RVs C μ H l xs → RVs C μ H m ys → RVs C μ H (l ++ m) (xs ++ ys)
  | [], _, _, _, h, k => by simp only [RVs] at h; subst h; exact k
  | v :: l, _, _, _, h, k => by
    obtain ⟨x, r, rfl, h2, h3⟩ := h.inv
    exact .cons h2 (RVs.append h3 k)
theorem RVs.take : ∀ {l : List AV} {xs : List V} (n : Nat), RVs C μ H l xs → RVs C μ H (l.take n) (xs.take n)
  | _, _, 0, _ => by simp [RVs]
  | [], _, n + 1, h => by simp only [RVs] at h; subst h; simp [RVs]
  | v :: l, _, n + 1, h => by
    obtain ⟨x, r, rfl, h2, h3⟩ := h.inv
    exact .cons h2 (RVs.take n h3)
theorem RVs.drop : ∀ {l : List AV} {xs : List V} (n : Nat), RVs C μ H l xs → RVs C μ H (l.drop n) (xs.drop n)
  | _, _, 0, h => h
  | [], _, n + 1, h => by simp only [RVs] at h; subst h; simp [RVs]
  | v :: l, _, n + 1, h => by
    obtain ⟨x, r, rfl, h2, h3⟩ := h.inv
    exact RVs.drop n h3
theorem RVs.set {v : AV} {x : V} (q : RV C μ H v x) : ∀ {l : List AV} {xs : List V} (n : Nat), RVs C μ H l xs → RVs C μ H (l.set n v) (xs.set n x)
  | [], _, _, h => by simp only [RVs] at h; subst h; simp [RVs]
  | w :: l, _, 0, h => by
    obtain ⟨y, r, rfl, h2, h3⟩ := h.inv
    exact .cons q h3
  | w :: l, _, n + 1, h => by
    obtain ⟨y, r, rfl, h2, h3⟩ := h.inv
    exact .cons h2 (RVs.set q n h3)

theorem OR.there {o : AO} {a : Addr} (r : OR C μ H o a) : ∃ u, H a = some u ∧ Mut (some u) := by
  cases o with
  | list l => obtain ⟨xs, e, _⟩ := r; exact ⟨_, e, trivial⟩
theorem OR.mono {o : AO} {a : Addr} (e : Ext μ H μ' H') (k : H' a = H a) (r : OR C μ H o a) : OR C μ' H' o a := by
  cases o with
  | list l => obtain ⟨xs, e1, e2⟩ := r; exact ⟨xs, k.trans e1, e2.mono e⟩
theorem RepH.there (r : RepH C μ h H) {a : Addr} (ha : a ∈ μ) : ∃ u, H a = some u ∧ Mut (some u) := by
  obtain ⟨n, hn⟩ := List.getElem?_of_mem ha
  have hl : n < h.length := by rw [← r.len]; exact (List.getElem?_eq_some_iff.mp hn).1
  exact (r.obj n h[n] a (List.getElem?_eq_getElem hl) hn).there
theorem RepH.freshZ (r : RepH C μ h H) {p : Addr} (hp : H p = none) : p ∉ C.Z := fun hm => by
  obtain ⟨_, o, e⟩ := r.zs p hm
  rw [hp] at e; cases e
theorem RepH.fresh (r : RepH C μ h H) {p : Addr} (hp : H p = none) : p ∉ μ := fun hm => by
  obtain ⟨u, e, _⟩ := r.there hm
  rw [hp] at e; cases e
/-- an object outside the abstract heap comes -/
theorem Ext.laid (μ : Mu) {p : Addr} {o : HO} (hp : H p = none) : Ext μ H μ (upd H p o) :=
  ⟨fun _ _ h => h, fun _ h => .inl h, fun b u _ hb => by rw [upd_ne (ne_of_none hb hp)]; exact hb⟩
/-- what is in the abstract heap is kept as it is -/
theorem RepH.step (r : RepH C μ h H) (e : Ext μ H μ H') (k : ∀ a ∈ μ, H' a = H a) : RepH C μ h H' :=
  ⟨r.len, r.nd, fun n o a h1 h2 => (r.obj n o a h1 h2).mono e (k a (List.mem_of_getElem? h2)), fun a ha => let ⟨n, o, q⟩ := r.zs a ha; ⟨n, o, e.frame a o n q⟩⟩
theorem RepH.laid (r : RepH C μ h H) {p : Addr} {o : HO} (hp : H p = none) : RepH C μ h (upd H p o) :=
  r.step (.laid μ hp) fun a ha => upd_ne fun z => r.fresh hp (z ▸ ha)
/-- an object becomes part of the abstract heap -/
theorem Ext.adopt {p : Addr} (hp : H p = none) (e : Ext μ H μ' H') : Ext μ H (μ' ++ [p]) H' := by
  refine ⟨fun n a h => ?_, fun a h => ?_, e.frame⟩
  · have q := e.pre n a h
    rw [List.getElem?_append_left (List.getElem?_eq_some_iff.mp q).1]; exact q
  · rcases List.mem_append.mp h with h | h
    · exact e.new a h
    · have : a = p := by simpa using h
      subst this; exact .inr hp
theorem ext_push (μ : Mu) {p : Addr} {o : HO} (hp : H p = none) : Ext μ H (μ ++ [p]) (upd H p o) := .adopt hp (.laid μ hp)
theorem RepH.push (r : RepH C μ h H) {p : Addr} {o : AO} {u : HO} (hp : H p = none) (q : OR C (μ ++ [p]) (upd H p u) o p) : RepH C (μ ++ [p]) (h ++ [o]) (upd H p u) := by
  have np := r.fresh hp
  refine ⟨by simp [r.len], ?_, fun n o' a h1 h2 => ?_, fun a ha => ?_⟩
  · exact List.nodup_append.mpr ⟨r.nd, by simp, fun a ha b hb => by
      have : b = p := by simpa using hb
      subst this; intro z; exact np (z ▸ ha)⟩
  · by_cases hn : n < h.length
    · rw [List.getElem?_append_left hn] at h1
      rw [List.getElem?_append_left (by rw [r.len]; exact hn)] at h2
      exact (r.obj n o' a h1 h2).mono (ext_push μ hp) (upd_ne fun z => np (z ▸ List.mem_of_getElem? h2))
    · have e : n = h.length := by
        have := (List.getElem?_eq_some_iff.mp h1).1
        simp at this; omega
      subst e
      simp at h1; subst h1
      rw [← r.len] at h2
      simp at h2; subst h2
      exact q
  · obtain ⟨n, u, z⟩ := r.zs a ha
    have ne : a ≠ p := fun e => by rw [e, hp] at z; cases z
    exact ⟨by simp [n, ne], u, by rw [upd_ne ne]; exact z⟩
/-- an object of the abstract heap is written -/
theorem ext_write {n : Nat} {a : Addr} {u : HO} (ha : μ[n]? = some a) : Ext μ H μ (upd H a u) :=
  ⟨fun _ _ h => h, fun _ h => .inl h, fun b o hb ho => by rw [upd_ne (show b ≠ a from fun z => hb (by rw [z]; exact List.mem_of_getElem? ha))]; exact ho⟩
theorem RepH.write (r : RepH C μ h H) {n : Nat} {a : Addr} {o : AO} {u : HO} (ha : μ[n]? = some a) (q : OR C μ (upd H a u) o a) : RepH C μ (h.set n o) (upd H a u) := by
  refine ⟨by simp [r.len], r.nd, fun m o' b h1 h2 => ?_, fun b hb => let ⟨n, u, z⟩ := r.zs b hb; ⟨n, u, by rw [upd_ne (show b ≠ a from fun e => n (by rw [e]; exact List.mem_of_getElem? ha))]; exact z⟩⟩
  by_cases hm : m = n
  · subst hm
    rw [ha] at h2; cases h2
    have hl : m < h.length := by rw [← r.len]; exact (List.getElem?_eq_some_iff.mp ha).1
    rw [List.getElem?_set_self hl] at h1; cases h1
    exact q
  · rw [List.getElem?_set_ne (Ne.symm hm)] at h1
    exact (r.obj m o' b h1 h2).mono (ext_write ha) (upd_ne fun z => hm (nodup_ix r.nd h2 (z ▸ ha)))
where
  nodup_ix {N : List Addr} (hN : N.Nodup) {i j : Nat} {x : Addr} (a : N[i]? = some x) (b : N[j]? = some x) : i = j := by
    obtain ⟨h1, e1⟩ := List.getElem?_eq_some_iff.mp a
    obtain ⟨h2, e2⟩ := List.getElem?_eq_some_iff.mp b
    exact (List.getElem_inj hN).mp (e1.trans e2.symm)
theorem RepH.at (r : RepH C μ h H) {n : Nat} {a : Addr} (ha : μ[n]? = some a) : ∃ o, h[n]? = some o ∧ OR C μ H o a := by
  have hl : n < h.length := by rw [← r.len]; exact (List.getElem?_eq_some_iff.mp ha).1
  exact ⟨h[n], List.getElem?_eq_getElem hl, r.obj n _ a (List.getElem?_eq_getElem hl) ha⟩
/-- the last objects are forgotten -/
theorem RepH.of_ix (r : RepH C μ h H) {n : Nat} {o : AO} (e : h[n]? = some o) : ∃ a, μ[n]? = some a ∧ OR C μ H o a := by
  have hl : n < μ.length := by rw [r.len]; exact (List.getElem?_eq_some_iff.mp e).1
  exact ⟨μ[n], List.getElem?_eq_getElem hl, r.obj n o _ e (List.getElem?_eq_getElem hl)⟩
end

theorem OR.turnZ {C C' : Ctx} {μ : Mu} {H : Hp} {o : AO} {a : Addr} (hK : C'.K = C.K) (hm : C'.mg = C.mg) (hZ : ∀ a, (∃ o, a ∉ μ ∧ H a = some o) → a ∉ C.Z → a ∉ C'.Z) (r : OR C μ H o a) : OR C' μ H o a := by
  cases o with
  | list l => obtain ⟨xs, e1, e2⟩ := r; exact ⟨xs, e1, e2.turnZ hK hm hZ⟩
theorem RepH.turnZ {C C' : Ctx} {μ : Mu} {H : Hp} {h : AHeap} (hK : C'.K = C.K) (hm : C'.mg = C.mg) (hZ : ∀ a, (∃ o, a ∉ μ ∧ H a = some o) → a ∉ C.Z → a ∉ C'.Z) (hz : ∀ a ∈ C'.Z, a ∉ μ ∧ ∃ o, H a = some o) (r : RepH C μ h H) : RepH C' μ h H :=
  ⟨r.len, r.nd, fun n o a h1 h2 => (r.obj n o a h1 h2).turnZ hK hm hZ, hz⟩

/-! ### the frame's names -/
def RepE (C : Ctx) (μ : Mu) (H : Hp) (ρ : AEnv) (σ : L2.St) : Prop := ρ.length = σ.length ∧ ∀ (i : Nat) (v : AV), ρ[i]? = some (some v) → ∃ x, σ[i]? = some (some x) ∧ RV C μ H v x
theorem RepE.mono {C : Ctx} {μ μ' : Mu} {H H' : Hp} {ρ : AEnv} {σ : L2.St} (e : Ext μ H μ' H') (r : RepE C μ H ρ σ) : RepE C μ' H' ρ σ :=
  ⟨r.1, fun i v h => let ⟨x, h1, h2⟩ := r.2 i v h; ⟨x, h1, h2.mono e⟩⟩
theorem RepE.set {C : Ctx} {μ : Mu} {H : Hp} {ρ : AEnv} {σ : L2.St} (r : RepE C μ H ρ σ) {v : AV} {x : V} (q : RV C μ H v x) (i : Nat) : RepE C μ H (ρ.set i (some v)) (σ.set i (some x)) := by
  refine ⟨by simp [r.1], fun j w h => ?_⟩
  by_cases hj : j = i
  · subst hj
    by_cases hl : j < ρ.length
    · rw [List.getElem?_set_self hl] at h; cases h
      exact ⟨x, by rw [List.getElem?_set_self (by rw [← r.1]; exact hl)], q⟩
    · rw [List.getElem?_eq_none (by simpa using hl)] at h; cases h
  · rw [List.getElem?_set_ne (Ne.symm hj)] at h
    obtain ⟨y, h1, h2⟩ := r.2 j w h
    exact ⟨y, by rw [List.getElem?_set_ne (Ne.symm hj)]; exact h1, h2⟩

theorem RepE.turnZ {C C' : Ctx} {μ : Mu} {H : Hp} {ρ : AEnv} {σ : L2.St} (hK : C'.K = C.K) (hm : C'.mg = C.mg) (hZ : ∀ a, (∃ o, a ∉ μ ∧ H a = some o) → a ∉ C.Z → a ∉ C'.Z) (r : RepE C μ H ρ σ) : RepE C' μ H ρ σ :=
  ⟨r.1, fun i v h => let ⟨x, h1, h2⟩ := r.2 i v h; ⟨x, h1, h2.turnZ hK hm hZ⟩⟩

/-! ### exceptions -/
/-- the exception's class, its own dict -/
def RX (C : Ctx) (μ : Mu) (H : Hp) (e : AX) (cls : Value) (d : Option Addr) : Prop :=
  ∃ a, C.mg e.cls = some (.ref a) ∧ cls = .ref a ∧
    match e.names with
    | [] => e.vals = []
    | _ => ∃ dx xs, d = some dx ∧ H dx = some (.xd (e.names.zip xs)) ∧ dx ∉ μ ∧ RVs C μ H e.vals xs

/-! ### what comes of it -/
def Post {α : Type} (C : Ctx) (μ : Mu) (H : Hp) (E : XK) (R : Mu → Hp → AHeap → α → Prop) : Res α → Prop
  | .ok a h' => ∀ μ' H', Ext μ H μ' H' → RepH C μ' h' H' → R μ' H' h' a
  | .exc e h' => ∀ μ' H' cls d, Ext μ H μ' H' → RepH C μ' h' H' → RX C μ' H' e cls d → E cls d H'
  | .bad => False
theorem Post.mono {α : Type} {C : Ctx} {μ : Mu} {H : Hp} {E : XK} {R R' : Mu → Hp → AHeap → α → Prop} {r : Res α} (p : Post C μ H E R r) (k : ∀ μ' H' h' a, Ext μ H μ' H' → RepH C μ' h' H' → R μ' H' h' a → R' μ' H' h' a) : Post C μ H E R' r := by
  cases r with
  | ok a h' => exact fun μ' H' e q => k _ _ _ _ e q (p μ' H' e q)
  | exc e h' => exact p
  | bad => exact p
theorem Post.bind {α β : Type} {C : Ctx} {μ : Mu} {H : Hp} {E : XK} {R : Mu → Hp → AHeap → β → Prop} {r : Res α} {k : α → AHeap → Res β} (p : Post C μ H E R (r.bind k)) :
    Post C μ H E (fun μ1 H1 h1 a => Post C μ1 H1 E R (k a h1)) r := by
  cases r with
  | ok a h' =>
    intro μ1 H1 e1 r1
    have p : Post C μ H E R (k a h') := p
    cases q : k a h' with
    | ok b h2 => rw [q] at p; exact fun μ2 H2 e2 r2 => p μ2 H2 (e1.trans e2) r2
    | exc x h2 => rw [q] at p; exact fun μ2 H2 cls d e2 r2 => p μ2 H2 cls d (e1.trans e2) r2
    | bad => rw [q] at p; exact p
  | exc e h' => exact p
  | bad => exact p
theorem Post.ext {α : Type} {C : Ctx} {μ μ1 : Mu} {H H1 : Hp} {E : XK} {R : Mu → Hp → AHeap → α → Prop} {r : Res α} (e1 : Ext μ H μ1 H1) (p : Post C μ H E R r) : Post C μ1 H1 E R r := by
  cases r with
  | ok a h' => exact fun μ2 H2 e2 r2 => p μ2 H2 (e1.trans e2) r2
  | exc x h' => exact fun μ2 H2 cls d e2 r2 => p μ2 H2 cls d (e1.trans e2) r2
  | bad => exact p

end AI
namespace AI
open PySem PySem.Spec PyProof.Rows
open L2

abbrev AE := AEnv → AHeap → Res AV
abbrev AT := AEnv → AHeap → Res Bool
abbrev AA := AEnv → AHeap → Res (List AV)
abbrev cc (X : Cx) (Z : List Addr) : Ctx := ⟨X.K, X.mg, Z⟩

/-! ### readings of mirrors -/
abbrev RVK (C : Ctx) (Q : VK) : Mu → Hp → AHeap → AV → Prop := fun μ' H' _ v => ∀ x, RV C μ' H' v x → Q x H'
def tD (X : Cx) (W : WX) (f : AE) : TE := fun σ H Q => ∃ Z μ ρ h, RepH (cc X Z) μ h H ∧ RepE (cc X Z) μ H ρ σ ∧ Post (cc X Z) μ H (fun c d H' => W c d σ H') (RVK (cc X Z) Q) (f ρ h)
def tDT (X : Cx) (W : WX) (f : AT) : TT := fun σ H Q => ∃ Z μ ρ h, RepH (cc X Z) μ h H ∧ RepE (cc X Z) μ H ρ σ ∧ Post (cc X Z) μ H (fun c d H' => W c d σ H') (fun _ H' _ b => Q b H') (f ρ h)
def tDA (X : Cx) (W : WX) (f : AA) : TA := fun σ H Q => ∃ Z μ ρ h, RepH (cc X Z) μ h H ∧ RepE (cc X Z) μ H ρ σ ∧ Post (cc X Z) μ H (fun c d H' => W c d σ H') (fun μ' H' _ l => ∀ xs, RVs (cc X Z) μ' H' l xs → Q xs H') (f ρ h)
/-- p, a new list of l, not yet part of the abstract heap h -/
structure NewAt (C : Ctx) (H : Hp) (μ : Mu) (H' : Hp) (h : AHeap) (l : List AV) (p : Addr) (xs : List V) : Prop where
  new : H p = Option.none
  at_ : H' p = some (.lst xs)
  nm : p ∉ μ
  nz : p ∉ C.Z
  rv : RVs C μ H' l xs
  rh : RepH C (μ ++ [p]) (h ++ [.list l]) H'
abbrev NewL (C : Ctx) (H : Hp) (Q : VK) : Mu → Hp → AHeap → List AV → Prop := fun μ' H' h' l => ∀ p xs, NewAt C H μ' H' h' l p xs → Q (.ref p) H'
def tDL (X : Cx) (W : WX) (f : AA) : TE := fun σ H Q => ∃ Z μ ρ h, RepH (cc X Z) μ h H ∧ RepE (cc X Z) μ H ρ σ ∧ Post (cc X Z) μ H (fun c d H' => W c d σ H') (NewL (cc X Z) H Q) (f ρ h)

structure DE (X : Cx) (W : WX) (e : Expr) (f : AE) : Prop where
  pe : PE X e (tD X W f)
structure DT (X : Cx) (W : WX) (e : Expr) (f : AT) : Prop where
  pt : PT X e (tDT X W f)
structure DW (X : Cx) (W : WX) (e : Expr) (f : AT) : Prop where
  pw : PW X e (tDT X W f)
structure DA (X : Cx) (W : WX) (es : List Expr) (f : AA) : Prop where
  pa : PA X es (tDA X W f)
structure DL (X : Cx) (W : WX) (e : Expr) (f : AA) : Prop where
  pe : PE X e (tDL X W f)

theorem PE.wk {X : Cx} {e : Expr} {t t' : TE} (h : PE X e t) (k : ∀ σ H Q, t' σ H Q → t σ H Q) : PE X e t' := ⟨fun pins s σ H Q I hw => h.run pins s σ H Q I (k σ H Q hw)⟩
theorem PT.wk {X : Cx} {e : Expr} {t t' : TT} (h : PT X e t) (k : ∀ σ H Q, t' σ H Q → t σ H Q) : PT X e t' := ⟨fun pins s σ H Q I hw => h.run pins s σ H Q I (k σ H Q hw)⟩
theorem PW.wk {X : Cx} {e : Expr} {t t' : TT} (h : PW X e t) (k : ∀ σ H Q, t' σ H Q → t σ H Q) : PW X e t' := ⟨fun wh pins s σ H Q I hw => h.run wh pins s σ H Q I (k σ H Q hw)⟩
theorem PA.wk {X : Cx} {e : List Expr} {t t' : TA} (h : PA X e t) (k : ∀ σ H Q, t' σ H Q → t σ H Q) : PA X e t' := ⟨fun pos pins s σ H Q I hw => h.run pos pins s σ H Q I (k σ H Q hw)⟩

section
variable {X : Cx} {Z : List Addr} {W : WX} {σ : L2.St} {H : Hp} {μ : Mu} {ρ : AEnv} {h : AHeap} {β : Type} {R : Mu → Hp → AHeap → β → Prop}
/-- first f, then the rest -/
theorem tD.seq {f : AE} {k : AV → AHeap → Res β} {Y : VK} (rh : RepH (cc X Z) μ h H) (re : RepE (cc X Z) μ H ρ σ) (p : Post (cc X Z) μ H (fun c d H' => W c d σ H') R ((f ρ h).bind k))
    (hY : ∀ μ1 H1 h1 v x, Ext μ H μ1 H1 → RepH (cc X Z) μ1 h1 H1 → RepE (cc X Z) μ1 H1 ρ σ → RV (cc X Z) μ1 H1 v x → Post (cc X Z) μ1 H1 (fun c d H' => W c d σ H') R (k v h1) → Y x H1) : tD X W f σ H Y :=
  ⟨Z, μ, ρ, h, rh, re, p.bind.mono fun μ1 H1 h1 v e r q x rx => hY μ1 H1 h1 v x e r (re.mono e) rx q⟩
theorem tDT.seq {f : AT} {k : Bool → AHeap → Res β} {Y : Bool → Hp → Prop} (rh : RepH (cc X Z) μ h H) (re : RepE (cc X Z) μ H ρ σ) (p : Post (cc X Z) μ H (fun c d H' => W c d σ H') R ((f ρ h).bind k))
    (hY : ∀ μ1 H1 h1 v, Ext μ H μ1 H1 → RepH (cc X Z) μ1 h1 H1 → RepE (cc X Z) μ1 H1 ρ σ → Post (cc X Z) μ1 H1 (fun c d H' => W c d σ H') R (k v h1) → Y v H1) : tDT X W f σ H Y :=
  ⟨Z, μ, ρ, h, rh, re, p.bind.mono fun μ1 H1 h1 v e r q => hY μ1 H1 h1 v e r (re.mono e) q⟩
theorem tDA.seq {f : AA} {k : List AV → AHeap → Res β} {Y : List V → Hp → Prop} (rh : RepH (cc X Z) μ h H) (re : RepE (cc X Z) μ H ρ σ) (p : Post (cc X Z) μ H (fun c d H' => W c d σ H') R ((f ρ h).bind k))
    (hY : ∀ μ1 H1 h1 v x, Ext μ H μ1 H1 → RepH (cc X Z) μ1 h1 H1 → RepE (cc X Z) μ1 H1 ρ σ → RVs (cc X Z) μ1 H1 v x → Post (cc X Z) μ1 H1 (fun c d H' => W c d σ H') R (k v h1) → Y x H1) : tDA X W f σ H Y :=
  ⟨Z, μ, ρ, h, rh, re, p.bind.mono fun μ1 H1 h1 v e r q x rx => hY μ1 H1 h1 v x e r (re.mono e) rx q⟩
theorem tDL.seq {f : AA} {k : List AV → AHeap → Res β} {Y : VK} (rh : RepH (cc X Z) μ h H) (re : RepE (cc X Z) μ H ρ σ) (p : Post (cc X Z) μ H (fun c d H' => W c d σ H') R ((f ρ h).bind k))
    (hY : ∀ μ1 H1 h1 l p xs, Ext μ H μ1 H1 → RepH (cc X Z) μ1 h1 H1 → RepE (cc X Z) μ1 H1 ρ σ → NewAt (cc X Z) H μ1 H1 h1 l p xs → Post (cc X Z) μ1 H1 (fun c d H' => W c d σ H') R (k l h1) → Y (.ref p) H1) : tDL X W f σ H Y :=
  ⟨Z, μ, ρ, h, rh, re, p.bind.mono fun μ1 H1 h1 v e r q p xs n => hY μ1 H1 h1 v p xs e r (re.mono e) n q⟩
end
section
variable {C : Ctx} {H : Hp} {μ : Mu} {h : AHeap}
/-- at the end, nothing has changed -/
theorem Post.fin {α : Type} {E : XK} {R : Mu → Hp → AHeap → α → Prop} {a : α} (p : Post C μ H E R (.ok a h)) (rh : RepH C μ h H) : R μ H h a := p μ H (.refl μ H) rh
/-- at the end, an object outside has come -/
theorem Post.fin1 {α : Type} {E : XK} {R : Mu → Hp → AHeap → α → Prop} {a : α} (p : Post C μ H E R (.ok a h)) (rh : RepH C μ h H) {q : Addr} {o : HO} (hq : H q = none) : R μ (upd H q o) h a :=
  p μ _ (.laid μ hq) (rh.laid hq)
end

/-! ### names and constants -/
def aVar (i : Nat) : AE := fun ρ h => match ρ[i]? with
  | some (some v) => .ok v h
  | _ => .bad
def aC (v : AV) : AE := fun _ h => .ok v h
section
variable {X : Cx} {W : WX} {pos : Pos}
theorem DE.var (i : Nat) {x : Str} (hN : X.N[i]? = some x := by rfl) (hv : Vis X.env.scope x := by first | exact Or.inl rfl | exact Or.inr (Or.inl rfl) | exact Or.inr (Or.inr rfl)) (hd : (x == ("__debug__" : Str)) = false := by rfl)
    (hcd : (x == ("__classdict__" : Str)) = false := by rfl) : DE X W (.Name x pos) (aVar i) := by
  refine ⟨PE.wk (pe_var hN hv hd hcd) fun σ H Q h => ?_⟩
  obtain ⟨Z, μ, ρ, h, rh, re, p⟩ := h
  unfold aVar at p
  split at p
  · rename_i v e
    obtain ⟨x, e1, e2⟩ := re.2 i v e
    exact ⟨x, e1, p.fin rh x e2⟩
  · exact p.elim
theorem DE.int {i : Int} {j : Nat} : DE X W (.Constant (.int i) j pos) (aC (.int i)) :=
  ⟨PE.wk pe_int fun σ H Q ⟨Z, μ, ρ, h, rh, re, p⟩ => Post.fin (a := AV.int i) p rh _ (by simp [RV])⟩
theorem DE.bool {b : Bool} {j : Nat} : DE X W (.Constant (.bool b) j pos) (aC (.bl b)) :=
  ⟨PE.wk pe_bl fun σ H Q ⟨Z, μ, ρ, h, rh, re, p⟩ => Post.fin (a := AV.bl b) p rh _ (by simp [RV])⟩
theorem DE.nonE {j : Nat} : DE X W (.Constant .none j pos) (aC .non) :=
  ⟨PE.wk pe_non fun σ H Q ⟨Z, μ, ρ, h, rh, re, p⟩ => Post.fin (a := AV.non) p rh _ (by simp [RV])⟩
theorem DE.str {x : Str} {j : Nat} (l : List Nat) (e : x.cps.toList = l := by rfl) : DE X W (.Constant (.str x) j pos) (aC (.str l)) :=
  ⟨PE.wk pe_str fun σ H Q ⟨Z, μ, ρ, h, rh, re, p⟩ => Post.fin (a := AV.str l) p rh _ (by simp [RV, ← e])⟩
/-- a module's name that holds a value of the text -/
theorem DE.glob {x : Str} {v : AV} (hg : Gl X x) (hm : ∃ u, X.mg x = some u ∧ ∀ Z μ H, ∃ y, RelV y u ∧ RV (cc X Z) μ H v y) (hd : (x == ("__debug__" : Str)) = false := by rfl) : DE X W (.Name x pos) (aC v) := by
  obtain ⟨u, hm, hv⟩ := hm
  obtain ⟨y, r, _⟩ := hv [] [] (fun _ => none)
  refine ⟨PE.wk (pe_glob hg hm r hd) fun σ H Q ⟨Z, μ, ρ, h, rh, re, p⟩ => ?_⟩
  obtain ⟨y', r', q⟩ := hv Z μ H
  have : y' = y := r'.inj r
  subst this
  exact Post.fin (a := v) p rh _ q
/-- a built-in class as a value -/
theorem DE.ty {x : Str} (n : Tag) (hg : Gl X x) (hm : X.mg x = none) (hv : bootBuiltins x = some (.type n.nm)) (hn : x ≠ "__name__" := by decide) (hd : (x == ("__debug__" : Str)) = false := by rfl) : DE X W (.Name x pos) (aC (.ty n)) :=
  ⟨PE.wk (pe_bltn (v := .ty n.nm) hg hm hv rfl hn hd) fun σ H Q ⟨Z, μ, ρ, h, rh, re, p⟩ => Post.fin (a := AV.ty n) p rh _ (by simp [RV])⟩

/-! ### operators by values: what comes is outside the abstract heap -/
abbrev POp2 := AHeap → AV → AV → Option AV
abbrev POp1 := AHeap → AV → Option AV
def lift1 (o : Option AV) (h : AHeap) : Res AV := match o with
  | some v => .ok v h
  | none => .bad
def Out (C : Ctx) (μ : Mu) (H : Hp) (h : AHeap) (v : AV) (Q : VK) : Prop := ∀ H' z, Ext μ H μ H' → RepH C μ h H' → RV C μ H' v z → Q z H'
theorem Out.of {C : Ctx} {μ : Mu} {H : Hp} {h : AHeap} {o : Option AV} {E : XK} {Q : VK} (p : Post C μ H E (RVK C Q) (lift1 o h)) : ∃ v, o = some v ∧ Out C μ H h v Q := by
  cases o with
  | none => exact (show False from p).elim
  | some v => exact ⟨v, rfl, fun H' z e r q => p μ H' e r z q⟩
/-- the answer is a plain value -/
theorem Out.val {C : Ctx} {μ : Mu} {H : Hp} {h : AHeap} {v : AV} {Q : VK} (o : Out C μ H h v Q) (rh : RepH C μ h H) {x : V} (r : RV C μ H v x) : Q x H := o H x (.refl μ H) rh r
theorem Out.new {C : Ctx} {μ : Mu} {H : Hp} {h : AHeap} {v : AV} {Q : VK} (o : Out C μ H h v Q) (rh : RepH C μ h H) {p : Addr} {u : HO} (hp : H p = none) (r : RV C μ (upd H p u) v (.ref p)) : Q (.ref p) (upd H p u) :=
  o _ _ (.laid μ hp) (rh.laid hp) r
def rA (X : Cx) (op : POp2) : R2 := fun x y H Q => ∃ Z μ h a b v, RepH (cc X Z) μ h H ∧ RV (cc X Z) μ H a x ∧ RV (cc X Z) μ H b y ∧ op h a b = some v ∧ Out (cc X Z) μ H h v Q
def VOp (X : Cx) (f : Value → Value → Sem Value) (op : POp2) : Prop := OpR X f (rA X op)
def rA1 (X : Cx) (op : POp1) : V → Hp → VK → Prop := fun x H Q => ∃ Z μ h a v, RepH (cc X Z) μ h H ∧ RV (cc X Z) μ H a x ∧ op h a = some v ∧ Out (cc X Z) μ H h v Q
def VUn (X : Cx) (f : Value → Sem Value) (op : POp1) : Prop := UnR X f (rA1 X op)

def aBin (op : POp2) (fa fb : AE) : AE := fun ρ h => (fa ρ h).bind fun a h1 => (fb ρ h1).bind fun b h2 => lift1 (op h2 a b) h2
def aUn (op : POp1) (fa : AE) : AE := fun ρ h => (fa ρ h).bind fun a h1 => lift1 (op h1 a) h1
theorem tOp_of {op : POp2} {fa fb : AE} {σ : L2.St} {H : Hp} {Q : VK} (h : tD X W (aBin op fa fb) σ H Q) : tOp (rA X op) (tD X W fa) (tD X W fb) σ H Q := by
  obtain ⟨Z, μ, ρ, h, rh, re, p⟩ := h
  refine tD.seq rh re p fun μ1 H1 h1 a x e1 rh1 re1 ra p1 => ?_
  refine tD.seq rh1 re1 p1 fun μ2 H2 h2 b y e2 rh2 re2 rb p2 => ?_
  obtain ⟨v, ev, o⟩ := Out.of p2
  exact ⟨Z, μ2, h2, a, b, v, rh2, ra.mono e2, rb, ev, o⟩
theorem DE.bin {o : Operator} {op : POp2} {a b : Expr} {fa fb : AE} (ho : VOp X (binaryOp o) op) (ha : DE X W a fa) (hb : DE X W b fb) : DE X W (.BinOp a o b pos) (aBin op fa fb) :=
  ⟨PE.wk (pe_op ho ha.pe hb.pe) fun σ H Q h => tOp_of h⟩
theorem DE.un {o : UnaryOp} {op : POp1} {a : Expr} {fa : AE} (ho : VUn X (unaryOp o) op) (ha : DE X W a fa) : DE X W (.UnaryOp o a pos) (aUn op fa) := by
  refine ⟨PE.wk (pe_un ho ha.pe) fun σ H Q h => ?_⟩
  obtain ⟨Z, μ, ρ, h, rh, re, p⟩ := h
  refine tD.seq rh re p fun μ1 H1 h1 a x e1 rh1 re1 ra p1 => ?_
  obtain ⟨v, ev, o⟩ := Out.of p1
  exact ⟨Z, μ1, h1, a, v, rh1, ra, ev, o⟩
/-- comparisons -/
theorem DE.cmp {o : CmpOp} {op : POp2} {a b : Expr} {fa fb : AE} (ho : VOp X (compareOp o) op) (ha : DE X W a fa) (hb : DE X W b fb) (hm : behindInMarks o b = false := by first | exact nomark _ | with_unfolding_all rfl) : DE X W (.Compare a [o] [b] pos) (aBin op fa fb) :=
  ⟨PE.wk (pe_cmpR ho ha.pe hb.pe hm) fun σ H Q h => tOp_of h⟩
def toB (v : AV) (h : AHeap) : Res Bool := match v with
  | .bl b => .ok b h
  | _ => .bad
def aTest (f : AE) : AT := fun ρ h => (f ρ h).bind toB
theorem toB_inv {C : Ctx} {μ : Mu} {H : Hp} {h : AHeap} {E : XK} {R : Mu → Hp → AHeap → Bool → Prop} {v : AV} (p : Post C μ H E R (toB v h)) : ∃ b, v = .bl b ∧ Post C μ H E R (.ok b h) := by
  cases v with
  | bl b => exact ⟨b, rfl, p⟩
  | _ => exact (show False from p).elim
theorem RV.bl_inv {C : Ctx} {μ : Mu} {H : Hp} {b : Bool} {x : V} (r : RV C μ H (.bl b) x) : x = .bl b := by simpa only [RV] using r
theorem RV.int_inv {C : Ctx} {μ : Mu} {H : Hp} {b : Int} {x : V} (r : RV C μ H (.int b) x) : x = .int b := by simpa only [RV] using r
theorem RV.str_inv {C : Ctx} {μ : Mu} {H : Hp} {b : List Nat} {x : V} (r : RV C μ H (.str b) x) : x = .str ⟨b.toArray⟩ := by simpa only [RV] using r
theorem RV.non_inv {C : Ctx} {μ : Mu} {H : Hp} {x : V} (r : RV C μ H .non x) : x = .non := by simpa only [RV] using r
theorem RV.tup_inv {C : Ctx} {μ : Mu} {H : Hp} {l : List AV} {x : V} (r : RV C μ H (.tup l) x) : ∃ a xs, x = .ref a ∧ TupAt C μ H a xs ∧ RVs C μ H l xs := by simpa only [RV] using r
theorem RV.lst_inv {C : Ctx} {μ : Mu} {H : Hp} {l : List AV} {x : V} (r : RV C μ H (.lst l) x) : ∃ a xs, x = .ref a ∧ LstAt C μ H a xs ∧ RVs C μ H l xs := by simpa only [RV] using r
theorem RV.ref_inv {C : Ctx} {μ : Mu} {H : Hp} {n : Nat} {x : V} (r : RV C μ H (.ref n) x) : ∃ a, x = .ref a ∧ μ[n]? = some a := by simpa only [RV] using r
theorem RV.dct_inv {C : Ctx} {μ : Mu} {H : Hp} {ks : List Key} {l : List AV} {x : V} (r : RV C μ H (.dct ks l) x) : ∃ a xs, x = .ref a ∧ DctAt C μ H a ks xs ∧ RVs C μ H l xs := by simpa only [RV] using r
theorem RV.dct {C : Ctx} {μ : Mu} {H : Hp} {ks : List Key} {l : List AV} {a : Addr} {xs : List V} (h : DctAt C μ H a ks xs) (r : RVs C μ H l xs) : RV C μ H (.dct ks l) (.ref a) := by simp only [RV]; exact ⟨a, xs, rfl, h, r⟩
theorem RV.ty_inv {C : Ctx} {μ : Mu} {H : Hp} {n : Tag} {x : V} (r : RV C μ H (.ty n) x) : x = .ty n.nm := by simpa only [RV] using r
theorem RV.bl {C : Ctx} {μ : Mu} {H : Hp} {b : Bool} : RV C μ H (.bl b) (.bl b) := by simp [RV]
theorem RV.int {C : Ctx} {μ : Mu} {H : Hp} {b : Int} : RV C μ H (.int b) (.int b) := by simp [RV]
theorem RV.non {C : Ctx} {μ : Mu} {H : Hp} : RV C μ H .non .non := by simp [RV]
theorem RV.str {C : Ctx} {μ : Mu} {H : Hp} {b : List Nat} : RV C μ H (.str b) (.str ⟨b.toArray⟩) := by simp [RV]
theorem RV.tup {C : Ctx} {μ : Mu} {H : Hp} {l : List AV} {a : Addr} {xs : List V} (h : TupAt C μ H a xs) (r : RVs C μ H l xs) : RV C μ H (.tup l) (.ref a) := by simp only [RV]; exact ⟨a, xs, rfl, h, r⟩
theorem RV.lst {C : Ctx} {μ : Mu} {H : Hp} {l : List AV} {a : Addr} {xs : List V} (h : LstAt C μ H a xs) (r : RVs C μ H l xs) : RV C μ H (.lst l) (.ref a) := by simp only [RV]; exact ⟨a, xs, rfl, h, r⟩
theorem RV.ref {C : Ctx} {μ : Mu} {H : Hp} {n : Nat} {a : Addr} (h : μ[n]? = some a) : RV C μ H (.ref n) (.ref a) := by simp only [RV]; exact ⟨a, rfl, h⟩
theorem tTest_of {f : AE} {σ : L2.St} {H : Hp} {Q : Bool → Hp → Prop} (h : tDT X W (aTest f) σ H Q) : tTest (tD X W f) σ H Q := by
  obtain ⟨Z, μ, ρ, h, rh, re, p⟩ := h
  refine tD.seq rh re p fun μ1 H1 h1 v x e1 rh1 re1 rv p1 => ?_
  obtain ⟨b, rfl, p2⟩ := toB_inv p1
  exact ⟨b, rv.bl_inv, p2.fin rh1⟩
theorem DT.cmp {o : CmpOp} {op : POp2} {a b : Expr} {fa fb : AE} (ho : VOp X (compareOp o) op) (ha : DE X W a fa) (hb : DE X W b fb) (hm : behindInMarks o b = false := by first | exact nomark _ | with_unfolding_all rfl) : DT X W (.Compare a [o] [b] pos) (aTest (aBin op fa fb)) := by
  refine ⟨PT.wk (pt_cmpR ho ha.pe hb.pe hm) fun σ H Q h => ?_⟩
  obtain ⟨Z, μ, ρ, h, rh, re, p⟩ := tTest_of h
  exact tOp_of ⟨Z, μ, ρ, h, rh, re, p⟩
/-- a op1 b op2 c -/
def aChain (op op' : POp2) (fa fb fc : AE) : AE := fun ρ h => (fa ρ h).bind fun a h1 => (fb ρ h1).bind fun b h2 => (lift1 (op h2 a b) h2).bind fun r h3 => (toB r h3).bind fun k h4 =>
  if k = true then (fc ρ h4).bind fun c h5 => lift1 (op' h5 b c) h5 else .ok (.bl false) h4
theorem chain_of {op op' : POp2} {fa fb fc : AE} {σ : L2.St} {H : Hp} {Q : VK} (h : tD X W (aChain op op' fa fb fc) σ H Q) : tChain (rA X op) (rA X op') (tD X W fa) (tD X W fb) (tD X W fc) σ H Q := by
  obtain ⟨Z, μ, ρ, h, rh, re, p⟩ := h
  refine tD.seq rh re p fun μ1 H1 h1 a x e1 rh1 re1 ra p1 => ?_
  refine tD.seq rh1 re1 p1 fun μ2 H2 h2 b y e2 rh2 re2 rb p2 => ?_
  cases ev : op h2 a b with
  | none => rw [ev] at p2; exact (show False from p2).elim
  | some v =>
    rw [ev] at p2
    refine ⟨Z, μ2, h2, a, b, v, rh2, ra.mono e2, rb, ev, fun H3 z e3 rh3 rz => ?_⟩
    obtain ⟨k, rfl, p3⟩ := toB_inv (Post.bind (r := toB v h2) p2)
    refine ⟨k, rz.bl_inv, ?_⟩
    have p4 := (p3.fin rh2).ext e3
    cases k with
    | true =>
      rw [if_pos rfl] at p4 ⊢
      refine tD.seq rh3 (re2.mono e3) p4 fun μ4 H4 h4 c w e4 rh4 re4 rc p5 => ?_
      obtain ⟨v5, ev5, o5⟩ := Out.of p5
      exact ⟨Z, μ4, h4, b, c, v5, rh4, (rb.mono e3).mono e4, rc, ev5, o5⟩
    | false =>
      rw [if_neg Bool.false_ne_true] at p4 ⊢
      exact p4.fin rh3 _ .bl
theorem DE.chain {o o' : CmpOp} {op op' : POp2} {a b c : Expr} {fa fb fc : AE} (ho : VOp X (compareOp o) op) (ho' : VOp X (compareOp o') op') (ha : DE X W a fa) (hb : DE X W b fb) (hc : DE X W c fc)
    (hm : lastMarks [o, o'] [b, c] = false := by with_unfolding_all rfl) : DE X W (.Compare a [o, o'] [b, c] pos) (aChain op op' fa fb fc) :=
  ⟨PE.wk (pe_chain ho ho' ha.pe hb.pe hc.pe hm) fun σ H Q h => chain_of h⟩
theorem DT.chain {o o' : CmpOp} {op op' : POp2} {a b c : Expr} {fa fb fc : AE} (ho : VOp X (compareOp o) op) (ho' : VOp X (compareOp o') op') (ha : DE X W a fa) (hb : DE X W b fb) (hc : DE X W c fc)
    (hm : lastMarks [o, o'] [b, c] = false := by with_unfolding_all rfl) : DT X W (.Compare a [o, o'] [b, c] pos) (aTest (aChain op op' fa fb fc)) := by
  refine ⟨PT.wk (pt_chain ho ho' ha.pe hb.pe hc.pe hm) fun σ H Q h => ?_⟩
  obtain ⟨Z, μ, ρ, h, rh, re, p⟩ := tTest_of h
  exact chain_of ⟨Z, μ, ρ, h, rh, re, p⟩

/-! ### and, or, not -/
def aAndT (f g : AT) : AT := fun ρ h => (f ρ h).bind fun b h1 => if b = true then g ρ h1 else .ok false h1
def aOrT (f g : AT) : AT := fun ρ h => (f ρ h).bind fun b h1 => if b = true then .ok true h1 else g ρ h1
def aNotT (f : AT) : AT := fun ρ h => (f ρ h).bind fun b h1 => .ok (!b) h1
theorem DW.dt {e : Expr} {f : AT} (h : DW X W e f) : DT X W e f := ⟨h.pw.pt⟩
variable {a b c : Expr} {rest : List Expr} {fa fb fc : AE} {ta tb tc : AT}
theorem DW.and1 (ha : DT X W a ta) : DW X W (.BoolOp .And [a] pos) ta := ⟨pw_and1 ha.pt⟩
theorem DW.or1 (ha : DT X W a ta) : DW X W (.BoolOp .Or [a] pos) ta := ⟨pw_or1 ha.pt⟩
theorem DW.and (ha : DT X W a ta) (hb : DW X W (.BoolOp .And (b :: rest) pos) tb) : DW X W (.BoolOp .And (a :: b :: rest) pos) (aAndT ta tb) := by
  refine ⟨PW.wk (pw_and ha.pt hb.pw) fun σ H Q h => ?_⟩
  obtain ⟨Z, μ, ρ, h, rh, re, p⟩ := h
  refine tDT.seq rh re p fun μ1 H1 h1 v e1 rh1 re1 p1 => ?_
  cases v with
  | true => rw [if_pos rfl] at p1 ⊢; exact ⟨Z, μ1, ρ, h1, rh1, re1, p1⟩
  | false => rw [if_neg Bool.false_ne_true] at p1 ⊢; exact p1.fin rh1
theorem DW.or (ha : DT X W a ta) (hb : DW X W (.BoolOp .Or (b :: rest) pos) tb) : DW X W (.BoolOp .Or (a :: b :: rest) pos) (aOrT ta tb) := by
  refine ⟨PW.wk (pw_or ha.pt hb.pw) fun σ H Q h => ?_⟩
  obtain ⟨Z, μ, ρ, h, rh, re, p⟩ := h
  refine tDT.seq rh re p fun μ1 H1 h1 v e1 rh1 re1 p1 => ?_
  cases v with
  | true => rw [if_pos rfl] at p1 ⊢; exact p1.fin rh1
  | false => rw [if_neg Bool.false_ne_true] at p1 ⊢; exact ⟨Z, μ1, ρ, h1, rh1, re1, p1⟩
theorem DT.not (ha : DT X W a ta) : DT X W (.UnaryOp .Not a pos) (aNotT ta) := by
  refine ⟨PT.wk (pt_not ha.pt) fun σ H Q h => ?_⟩
  obtain ⟨Z, μ, ρ, h, rh, re, p⟩ := h
  exact tDT.seq rh re p fun μ1 H1 h1 v e1 rh1 re1 p1 => p1.fin rh1
/-- .. as values, of bools -/
def aAnd (f g : AE) : AE := fun ρ h => (f ρ h).bind fun v h1 => (toB v h1).bind fun b h2 => if b = true then g ρ h2 else .ok (.bl false) h2
def aOr (f g : AE) : AE := fun ρ h => (f ρ h).bind fun v h1 => (toB v h1).bind fun b h2 => if b = true then .ok (.bl true) h2 else g ρ h2
def aNot (f : AE) : AE := fun ρ h => (f ρ h).bind fun v h1 => (toB v h1).bind fun b h2 => .ok (.bl (!b)) h2
theorem DE.one {op : BoolOp} {f : AE} (ha : DE X W a f) : DE X W (.BoolOp op [a] pos) f := ⟨pe_one ha.pe⟩
theorem DE.and (ha : DE X W a fa) (hb : DE X W (.BoolOp .And (b :: rest) pos) fb) : DE X W (.BoolOp .And (a :: b :: rest) pos) (aAnd fa fb) := by
  refine ⟨PE.wk (pe_and ha.pe hb.pe) fun σ H Q h => ?_⟩
  obtain ⟨Z, μ, ρ, h, rh, re, p⟩ := h
  refine tD.seq rh re p fun μ1 H1 h1 v x e1 rh1 re1 rv p1 => ?_
  obtain ⟨k, rfl, p2⟩ := toB_inv (Post.bind (r := toB v h1) p1)
  have p3 := p2.fin rh1
  refine ⟨k, rv.bl_inv, ?_⟩
  cases k with
  | true => rw [if_pos rfl] at p3 ⊢; exact ⟨Z, μ1, ρ, h1, rh1, re1, p3⟩
  | false => rw [if_neg Bool.false_ne_true] at p3 ⊢; exact p3.fin rh1 _ .bl
theorem DE.or (ha : DE X W a fa) (hb : DE X W (.BoolOp .Or (b :: rest) pos) fb) : DE X W (.BoolOp .Or (a :: b :: rest) pos) (aOr fa fb) := by
  refine ⟨PE.wk (pe_or ha.pe hb.pe) fun σ H Q h => ?_⟩
  obtain ⟨Z, μ, ρ, h, rh, re, p⟩ := h
  refine tD.seq rh re p fun μ1 H1 h1 v x e1 rh1 re1 rv p1 => ?_
  obtain ⟨k, rfl, p2⟩ := toB_inv (Post.bind (r := toB v h1) p1)
  have p3 := p2.fin rh1
  refine ⟨k, rv.bl_inv, ?_⟩
  cases k with
  | true => rw [if_pos rfl] at p3 ⊢; exact p3.fin rh1 _ .bl
  | false => rw [if_neg Bool.false_ne_true] at p3 ⊢; exact ⟨Z, μ1, ρ, h1, rh1, re1, p3⟩
theorem DE.not (ha : DE X W a fa) : DE X W (.UnaryOp .Not a pos) (aNot fa) := by
  refine ⟨PE.wk (pe_not ha.pe) fun σ H Q h => ?_⟩
  obtain ⟨Z, μ, ρ, h, rh, re, p⟩ := h
  refine tD.seq rh re p fun μ1 H1 h1 v x e1 rh1 re1 rv p1 => ?_
  obtain ⟨k, rfl, p2⟩ := toB_inv (Post.bind (r := toB v h1) p1)
  exact ⟨k, rv.bl_inv, (p2.fin rh1).fin rh1 _ .bl⟩
/-- a test by an expression that is a bool -/
theorem DT.val {e : Expr} {f : AE} (h : DE X W e f) (he : ∀ whole, isTrue e X.env whole = (do let v ← whole; standAt e.pos; holding [v] (truthy v)) := by intro _; rfl) : DT X W e (aTest f) :=
  ⟨PT.wk (pt_val h.pe he) fun σ H Q h => by
    obtain ⟨Z, μ, ρ, h, rh, re, p⟩ := h
    refine tD.seq rh re p fun μ1 H1 h1 v x e1 rh1 re1 rv p1 => ?_
    obtain ⟨b, rfl, p2⟩ := toB_inv p1
    exact ⟨b, rv.bl_inv, p2.fin rh1⟩⟩
/-- a if c else b -/
def aIf (t : AT) (f g : AE) : AE := fun ρ h => (t ρ h).bind fun b h1 => if b = true then f ρ h1 else g ρ h1
theorem DE.ifExp (hc : DT X W c tc) (ha : DE X W a fa) (hb : DE X W b fb) : DE X W (.IfExp c a b pos) (aIf tc fa fb) := by
  refine ⟨PE.wk (pe_ifExp hc.pt ha.pe hb.pe) fun σ H Q h => ?_⟩
  obtain ⟨Z, μ, ρ, h, rh, re, p⟩ := h
  refine tDT.seq rh re p fun μ1 H1 h1 v e1 rh1 re1 p1 => ?_
  cases v with
  | true => rw [if_pos rfl] at p1 ⊢; exact ⟨Z, μ1, ρ, h1, rh1, re1, p1⟩
  | false => rw [if_neg Bool.false_ne_true] at p1 ⊢; exact ⟨Z, μ1, ρ, h1, rh1, re1, p1⟩

/-! ### argument lists, displays -/
def aNil : AA := fun _ h => .ok [] h
def aCons (f : AE) (g : AA) : AA := fun ρ h => (f ρ h).bind fun v h1 => (g ρ h1).bind fun l h2 => .ok (v :: l) h2
theorem DA.nil : DA X W [] aNil := ⟨PA.wk pa_nil fun σ H Q ⟨Z, μ, ρ, h, rh, re, p⟩ => Post.fin (a := ([] : List AV)) p rh _ .nil⟩
theorem DA.cons {e : Expr} {es : List Expr} {f : AE} {g : AA} (ha : DE X W e f) (hr : DA X W es g) (hs : starEach (e :: es) X.env = (false, eval e X.env) :: starEach es X.env := by rfl) : DA X W (e :: es) (aCons f g) := by
  refine ⟨PA.wk (pa_cons ha.pe hr.pa hs) fun σ H Q h => ?_⟩
  obtain ⟨Z, μ, ρ, h, rh, re, p⟩ := h
  refine tD.seq rh re p fun μ1 H1 h1 v x e1 rh1 re1 rv p1 => ?_
  refine tDA.seq rh1 re1 p1 fun μ2 H2 h2 l xs e2 rh2 re2 rl p2 => ?_
  exact p2.fin rh2 _ (.cons (rv.mono e2) rl)
def szOk {α : Type} (l : List α) : Bool := decide (l.length ≤ sizeLine)
def aTup (g : AA) : AE := fun ρ h => (g ρ h).bind fun l h1 => if szOk l = true then .ok (.tup l) h1 else .bad
def aList (g : AA) : AA := fun ρ h => (g ρ h).bind fun l h1 => if szOk l = true then .ok l h1 else .bad
theorem sz_inv {α : Type} {C : Ctx} {μ : Mu} {H : Hp} {E : XK} {R : Mu → Hp → AHeap → α → Prop} {l : List AV} {r : Res α} (p : Post C μ H E R (if szOk l = true then r else .bad)) : l.length ≤ sizeLine ∧ Post C μ H E R r := by
  by_cases h : szOk l = true
  · rw [if_pos h] at p; exact ⟨of_decide_eq_true h, p⟩
  · rw [if_neg h] at p; exact p.elim
theorem TupAt.new {C : Ctx} {μ : Mu} {H : Hp} {p : Addr} {xs : List V} (np : p ∉ μ) : TupAt C μ (upd H p (.tup xs)) p xs := .inl ⟨np, .inl upd_same⟩
theorem LstAt.new {C : Ctx} {μ : Mu} {H : Hp} {p : Addr} {xs : List V} (np : p ∉ μ) (nz : p ∉ C.Z) : LstAt C μ (upd H p (.lst xs)) p xs := .inl ⟨np, nz, .inl upd_same⟩
theorem DE.tup {es : List Expr} {g : AA} {x1 : Nat} (h : DA X W es g) : DE X W (.Tuple es x1 pos) (aTup g) := by
  refine ⟨PE.wk (pe_tup h.pa) fun σ H Q h => ?_⟩
  obtain ⟨Z, μ, ρ, h, rh, re, p⟩ := h
  refine tDA.seq rh re p fun μ1 H1 h1 l xs e1 rh1 re1 rl p1 => ?_
  obtain ⟨hz, p2⟩ := sz_inv p1
  refine ⟨by rw [rl.length]; exact hz, fun q hq => p2.fin1 rh1 hq _ (.tup (.new (rh1.fresh hq)) (rl.mono (.laid μ1 hq)))⟩
theorem NewAt.laid {C : Ctx} {μ μ1 : Mu} {H H1 : Hp} {h1 : AHeap} {l : List AV} {xs : List V} (e1 : Ext μ H μ1 H1) (rh1 : RepH C μ1 h1 H1) (rl : RVs C μ1 H1 l xs) {q : Addr} (hq : H1 q = none) : NewAt C H μ1 (upd H1 q (.lst xs)) h1 l q xs :=
  ⟨e1.free hq (rh1.fresh hq), upd_same, rh1.fresh hq, rh1.freshZ hq, rl.mono (.laid μ1 hq), rh1.push hq ⟨xs, upd_same, rl.mono (ext_push μ1 hq)⟩⟩
theorem DL.list {es : List Expr} {g : AA} (h : DA X W es g) : DL X W (.List es pos) (aList g) := by
  refine ⟨PE.wk (pe_lst h.pa) fun σ H Q h => ?_⟩
  obtain ⟨Z, μ, ρ, h, rh, re, p⟩ := h
  refine tDA.seq rh re p fun μ1 H1 h1 l xs e1 rh1 re1 rl p1 => ?_
  obtain ⟨hz, p2⟩ := sz_inv p1
  refine ⟨by rw [rl.length]; exact hz, fun q hq => p2.fin1 rh1 hq q xs (.laid e1 rh1 rl hq)⟩
/-- a new list that nobody will change -/
def pureL (g : AA) : AE := fun ρ h => (g ρ h).bind fun l h1 => .ok (.lst l) h1
/-- a new list of the abstract heap -/
def newL (g : AA) : AE := fun ρ h => (g ρ h).bind fun l h1 => .ok (.ref h1.length) (h1 ++ [.list l])
theorem DL.pure {e : Expr} {g : AA} (h : DL X W e g) : DE X W e (pureL g) := by
  refine ⟨PE.wk h.pe fun σ H Q h => ?_⟩
  obtain ⟨Z, μ, ρ, h, rh, re, p⟩ := h
  exact tDL.seq rh re p fun μ1 H1 h1 l q xs e1 rh1 re1 n p1 => p1.fin rh1 _ (.lst (.inl ⟨n.nm, n.nz, .inl n.at_⟩) n.rv)
theorem DL.new {e : Expr} {g : AA} (h : DL X W e g) : DE X W e (newL g) := by
  refine ⟨PE.wk h.pe fun σ H Q h => ?_⟩
  obtain ⟨Z, μ, ρ, h, rh, re, p⟩ := h
  refine ⟨Z, μ, ρ, h, rh, re, ?_⟩
  unfold newL at p
  cases hg : g ρ h with
  | ok l h1 =>
    rw [hg] at p
    intro μ1 H1 e1 rh1 q xs n
    refine p (μ1 ++ [q]) H1 (.adopt n.new e1) n.rh (.ref q) (.ref ?_)
    rw [← rh1.len]; simp
  | exc x h1 => rw [hg] at p; exact p
  | bad => rw [hg] at p; exact p
end
end AI
namespace AI
open PySem PySem.Spec PyProof.Rows
open L2

/-! ### statements -/
inductive SRes where
  | nx (ρ : AEnv) (h : AHeap)
  | rt (v : AV) (h : AHeap)
  | bk (ρ : AEnv) (h : AHeap)
  | ct (ρ : AEnv) (h : AHeap)
  | exc (e : AX) (ρ : AEnv) (h : AHeap)
  | bad
abbrev AS := AEnv → AHeap → SRes
def PostS (C : Ctx) (μ : Mu) (H : Hp) (W : WX) (D : Ends) : SRes → Prop
  | .nx ρ' h' => ∀ μ' H' σ', Ext μ H μ' H' → RepH C μ' h' H' → RepE C μ' H' ρ' σ' → D.nx σ' H'
  | .rt v h' => ∀ μ' H' x, Ext μ H μ' H' → RepH C μ' h' H' → RV C μ' H' v x → D.rt x H'
  | .bk ρ' h' => ∀ μ' H' σ', Ext μ H μ' H' → RepH C μ' h' H' → RepE C μ' H' ρ' σ' → D.bk σ' H'
  | .ct ρ' h' => ∀ μ' H' σ', Ext μ H μ' H' → RepH C μ' h' H' → RepE C μ' H' ρ' σ' → D.ct σ' H'
  | .exc e ρ' h' => ∀ μ' H' σ' cls d, Ext μ H μ' H' → RepH C μ' h' H' → RepE C μ' H' ρ' σ' → RX C μ' H' e cls d → W cls d σ' H'
  | .bad => False
theorem PostS.ext {C : Ctx} {μ μ1 : Mu} {H H1 : Hp} {W : WX} {D : Ends} {r : SRes} (e1 : Ext μ H μ1 H1) (p : PostS C μ H W D r) : PostS C μ1 H1 W D r := by
  cases r with
  | nx _ _ => exact fun μ2 H2 s e2 => p μ2 H2 s (e1.trans e2)
  | rt _ _ => exact fun μ2 H2 s e2 => p μ2 H2 s (e1.trans e2)
  | bk _ _ => exact fun μ2 H2 s e2 => p μ2 H2 s (e1.trans e2)
  | ct _ _ => exact fun μ2 H2 s e2 => p μ2 H2 s (e1.trans e2)
  | exc _ _ _ => exact fun μ2 H2 s c d e2 => p μ2 H2 s c d (e1.trans e2)
  | bad => exact p
theorem PostS.mono {C : Ctx} {μ : Mu} {H : Hp} {W : WX} {D D' : Ends} {r : SRes} (p : PostS C μ H W D r) (h1 : ∀ σ H, D.nx σ H → D'.nx σ H) (h2 : ∀ x H, D.rt x H → D'.rt x H) (h3 : ∀ σ H, D.bk σ H → D'.bk σ H) (h4 : ∀ σ H, D.ct σ H → D'.ct σ H) : PostS C μ H W D' r := by
  cases r with
  | nx _ _ => exact fun μ2 H2 s e2 a b => h1 _ _ (p μ2 H2 s e2 a b)
  | rt _ _ => exact fun μ2 H2 s e2 a b => h2 _ _ (p μ2 H2 s e2 a b)
  | bk _ _ => exact fun μ2 H2 s e2 a b => h3 _ _ (p μ2 H2 s e2 a b)
  | ct _ _ => exact fun μ2 H2 s e2 a b => h4 _ _ (p μ2 H2 s e2 a b)
  | exc _ _ _ => exact p
  | bad => exact p

def tDS (X : Cx) (W : WX) (f : AS) : TS := fun D σ H => ∃ Z μ ρ h, RepH (cc X Z) μ h H ∧ RepE (cc X Z) μ H ρ σ ∧ PostS (cc X Z) μ H W D (f ρ h)
structure DS (X : Cx) (W : WX) (st : Stmt) (f : AS) : Prop where
  ps : PS X st (tDS X W f)
structure DSs (X : Cx) (W : WX) (st : List Stmt) (f : AS) : Prop where
  pss : PSs X st (tDS X W f)
theorem PS.wk {X : Cx} {st : Stmt} {t t' : TS} (h : PS X st t) (k : ∀ D σ H, t' D σ H → t D σ H) : PS X st t' := ⟨fun pins s σ H D I hw => h.run pins s σ H D I (k D σ H hw)⟩
theorem PSs.wk {X : Cx} {st : List Stmt} {t t' : TS} (h : PSs X st t) (k : ∀ D σ H, t' D σ H → t D σ H) : PSs X st t' := ⟨fun pins s σ H D I hw => h.run pins s σ H D I (k D σ H hw)⟩

def SRes.ofRes {α : Type} (ρ : AEnv) (r : Res α) (k : α → AHeap → SRes) : SRes := match r with
  | .ok a h => k a h
  | .exc e h => .exc e ρ h
  | .bad => .bad
theorem PostS.of {α : Type} {C : Ctx} {μ : Mu} {H : Hp} {W : WX} {D : Ends} {ρ : AEnv} {σ : L2.St} {r : Res α} {k : α → AHeap → SRes} (re : RepE C μ H ρ σ) (p : PostS C μ H W D (.ofRes ρ r k)) :
    Post C μ H (fun c d H' => W c d σ H') (fun μ1 H1 h1 a => PostS C μ1 H1 W D (k a h1)) r := by
  cases r with
  | ok a h' => exact fun μ1 H1 e1 r1 => PostS.ext e1 p
  | exc e h' => exact fun μ1 H1 cls d e1 r1 x => p μ1 H1 σ cls d e1 r1 (re.mono e1) x
  | bad => exact p

def aSeq (f g : AS) : AS := fun ρ h => match f ρ h with
  | .nx ρ' h' => g ρ' h'
  | r => r
def aSkip : AS := fun ρ h => .nx ρ h
def aBreak : AS := fun ρ h => .bk ρ h
def aCont : AS := fun ρ h => .ct ρ h
section
variable {X : Cx} {W : WX} {pos : Pos} {st : Stmt} {rest : List Stmt} {f g : AS}
theorem DSs.nil : DSs X W [] aSkip := ⟨PSs.wk pss_nil fun D σ H ⟨Z, μ, ρ, h, rh, re, p⟩ => p μ H σ (.refl μ H) rh re⟩
theorem DSs.one (h1 : DS X W st f) : DSs X W [st] f := ⟨PSs.wk (pss_one h1.ps) fun D σ H h => h⟩
theorem DSs.cons (h1 : DS X W st f) (h2 : DSs X W rest g) : DSs X W (st :: rest) (aSeq f g) := by
  refine ⟨PSs.wk (pss_cons h1.ps h2.pss) fun D σ H h => ?_⟩
  obtain ⟨Z, μ, ρ, h, rh, re, p⟩ := h
  refine ⟨Z, μ, ρ, h, rh, re, ?_⟩
  unfold aSeq at p
  cases e : f ρ h with
  | nx ρ' h' =>
    rw [e] at p
    exact fun μ1 H1 σ1 e1 rh1 re1 => ⟨Z, μ1, ρ', h', rh1, re1, PostS.ext e1 p⟩
  | rt v h' => rw [e] at p; exact p
  | bk v h' => rw [e] at p; exact p
  | ct v h' => rw [e] at p; exact p
  | exc x v h' => rw [e] at p; exact p
  | bad => rw [e] at p; exact p
theorem DS.pass : DS X W (.Pass pos) aSkip := ⟨PS.wk ps_pass fun D σ H ⟨Z, μ, ρ, h, rh, re, p⟩ => p μ H σ (.refl μ H) rh re⟩
theorem DS.break_ : DS X W (.Break pos) aBreak := ⟨PS.wk ps_break fun D σ H ⟨Z, μ, ρ, h, rh, re, p⟩ => p μ H σ (.refl μ H) rh re⟩
theorem DS.continue_ : DS X W (.Continue pos) aCont := ⟨PS.wk ps_continue fun D σ H ⟨Z, μ, ρ, h, rh, re, p⟩ => p μ H σ (.refl μ H) rh re⟩
theorem DS.doc {x : Str} {j : Nat} {pos' : Pos} : DS X W (.Expr (.Constant (.str x) j pos) pos') aSkip := ⟨PS.wk ps_doc fun D σ H ⟨Z, μ, ρ, h, rh, re, p⟩ => p μ H σ (.refl μ H) rh re⟩
variable {e c : Expr} {fe : AE} {tc : AT} {a b : List Stmt}
/-- first an expression -/
theorem tD.seqS {Z : List Addr} {μ : Mu} {H : Hp} {h : AHeap} {ρ : AEnv} {σ : L2.St} {k : AV → AHeap → SRes} {Y : VK} {D : Ends} (rh : RepH (cc X Z) μ h H) (re : RepE (cc X Z) μ H ρ σ) (p : PostS (cc X Z) μ H W D (.ofRes ρ (fe ρ h) k))
    (hY : ∀ μ1 H1 h1 v x, Ext μ H μ1 H1 → RepH (cc X Z) μ1 h1 H1 → RepE (cc X Z) μ1 H1 ρ σ → RV (cc X Z) μ1 H1 v x → PostS (cc X Z) μ1 H1 W D (k v h1) → Y x H1) : tD X W fe σ H Y :=
  ⟨Z, μ, ρ, h, rh, re, (PostS.of re p).mono fun μ1 H1 h1 v e r q x rx => hY μ1 H1 h1 v x e r (re.mono e) rx q⟩
def aDrop (fe : AE) : AS := fun ρ h => .ofRes ρ (fe ρ h) fun _ h1 => .nx ρ h1
theorem DS.expr (he : DE X W e fe) (hs : swapsWith e none pos.line X.env = pure false := by rfl) : DS X W (.Expr e pos) (aDrop fe) := by
  refine ⟨PS.wk (ps_expr he.pe hs) fun D σ H h => ?_⟩
  obtain ⟨Z, μ, ρ, h, rh, re, p⟩ := h
  exact tD.seqS rh re p fun μ1 H1 h1 v x e1 rh1 re1 rv p1 => p1 μ1 H1 σ (.refl _ _) rh1 re1
def aRet (fe : AE) : AS := fun ρ h => .ofRes ρ (fe ρ h) fun v h1 => .rt v h1
theorem DS.ret (he : DE X W e fe) : DS X W (.Return (some e) pos) (aRet fe) := by
  refine ⟨PS.wk (ps_ret he.pe) fun D σ H h => ?_⟩
  obtain ⟨Z, μ, ρ, h, rh, re, p⟩ := h
  exact tD.seqS rh re p fun μ1 H1 h1 v x e1 rh1 re1 rv p1 => p1 μ1 H1 x (.refl _ _) rh1 rv
def aRetN : AS := fun _ h => .rt .non h
theorem DS.retN : DS X W (.Return none pos) aRetN := ⟨PS.wk ps_retN fun D σ H ⟨Z, μ, ρ, h, rh, re, p⟩ => p μ H .non (.refl μ H) rh .non⟩
def aIfS (t : AT) (f g : AS) : AS := fun ρ h => .ofRes ρ (t ρ h) fun b h1 => if b = true then f ρ h1 else g ρ h1
theorem DS.ite (hc : DT X W c tc) (ha : DSs X W a f) (hb : DSs X W b g) : DS X W (.If c a b pos) (aIfS tc f g) := by
  refine ⟨PS.wk (ps_if hc.pt ha.pss hb.pss) fun D σ H h => ?_⟩
  obtain ⟨Z, μ, ρ, h, rh, re, p⟩ := h
  refine ⟨Z, μ, ρ, h, rh, re, (PostS.of re p).mono fun μ1 H1 h1 v e1 rh1 q => ?_⟩
  cases v with
  | true => rw [if_pos rfl] at q ⊢; exact ⟨Z, μ1, ρ, h1, rh1, re.mono e1, q⟩
  | false => rw [if_neg Bool.false_ne_true] at q ⊢; exact ⟨Z, μ1, ρ, h1, rh1, re.mono e1, q⟩

/-! ### targets -/
abbrev AG := AV → AEnv → AHeap → Option (AEnv × AHeap)
abbrev AGs := List AV → AEnv → AHeap → Option (AEnv × AHeap)
def GoodG (C : Ctx) (μ : Mu) (H : Hp) (o : Option (AEnv × AHeap)) (Q : L2.St → Hp → Prop) : Prop := ∃ ρ' h', o = some (ρ', h') ∧ ∀ μ' H' σ', Ext μ H μ' H' → RepH C μ' h' H' → RepE C μ' H' ρ' σ' → Q σ' H'
def tDG (X : Cx) (g : AG) : TG := fun x σ H Q => ∃ Z μ ρ h v, RepH (cc X Z) μ h H ∧ RepE (cc X Z) μ H ρ σ ∧ RV (cc X Z) μ H v x ∧ GoodG (cc X Z) μ H (g v ρ h) Q
def tDGs (X : Cx) (g : AGs) : TGs := fun xs σ H Q => ∃ Z μ ρ h l, RepH (cc X Z) μ h H ∧ RepE (cc X Z) μ H ρ σ ∧ RVs (cc X Z) μ H l xs ∧ GoodG (cc X Z) μ H (g l ρ h) Q
structure DG (X : Cx) (tg : Expr) (g : AG) : Prop where
  pg : PG X tg (tDG X g)
structure DGs (X : Cx) (ts : List Expr) (g : AGs) : Prop where
  pgs : PGs X ts (tDGs X g)
theorem PG.wk {X : Cx} {tg : Expr} {t t' : TG} (h : PG X tg t) (k : ∀ x σ H Q, t' x σ H Q → t x σ H Q) : PG X tg t' := ⟨fun pins s σ H v u Q I r hw => h.run pins s σ H v u Q I r (k v σ H Q hw)⟩
theorem PGs.wk {X : Cx} {tg : List Expr} {t t' : TGs} (h : PGs X tg t) (k : ∀ x σ H Q, t' x σ H Q → t x σ H Q) : PGs X tg t' := ⟨fun pins s σ H v u Q I r hw => h.run pins s σ H v u Q I r (k v σ H Q hw)⟩
def agName (i : Nat) : AG := fun v ρ h => some (ρ.set i (some v), h)
def agNil : AGs := fun l ρ h => match l with
  | [] => some (ρ, h)
  | _ => none
def agCons (g : AG) (gs : AGs) : AGs := fun l ρ h => match l with
  | v :: r => (g v ρ h).bind fun (ρ', h') => gs r ρ' h'
  | [] => none
def agTup (n : Nat) (gs : AGs) : AG := fun v ρ h => match v with
  | .tup l => if l.length = n then gs l ρ h else none
  | _ => none
theorem DG.name (i : Nat) {x : Str} (hN : X.N.Nodup) (hi : X.N[i]? = some x := by rfl) (hx : Loc X.env.scope x := by first | exact Or.inl rfl | exact Or.inr rfl) (hf : X.fn x = true ∨ X.env.scope.names.lookup x = some .local := by first | exact .inl rfl | exact .inr rfl | assumption) : DG X (.Name x pos) (agName i) := by
  refine ⟨PG.wk (pg_name (i := i) hN hi hx hf) fun x σ H Q h => ?_⟩
  obtain ⟨Z, μ, ρ, h, v, rh, re, rv, ρ', h', e, k⟩ := h
  cases e
  exact k μ H _ (.refl _ _) rh (re.set rv i)
theorem DGs.nil : DGs X [] agNil := by
  refine ⟨PGs.wk pgs_nil fun xs σ H Q h => ?_⟩
  obtain ⟨Z, μ, ρ, h, l, rh, re, rl, ρ', h', e, k⟩ := h
  cases l with
  | nil => cases e; simp only [RVs] at rl; exact ⟨rl, k μ H _ (.refl _ _) rh re⟩
  | cons _ _ => cases e
theorem DGs.cons {t : Expr} {ts : List Expr} {g : AG} {gs : AGs} (h1 : DG X t g) (h2 : DGs X ts gs) (hs : (assignEach (t :: ts) X.env).map (·.2) = assign t X.env :: (assignEach ts X.env).map (·.2) := by rfl) : DGs X (t :: ts) (agCons g gs) := by
  refine ⟨PGs.wk (pgs_cons h1.pg h2.pgs hs) fun xs σ H Q h => ?_⟩
  obtain ⟨Z, μ, ρ, h, l, rh, re, rl, ρ', h', e, k⟩ := h
  cases l with
  | nil => cases e
  | cons v l =>
    obtain ⟨x, r, rfl, rv, rr⟩ := rl.inv
    unfold agCons at e
    dsimp only at e
    cases eg : g v ρ h with
    | none => rw [eg] at e; cases e
    | some q =>
      obtain ⟨ρ1, h1⟩ := q
      rw [eg] at e
      refine ⟨x, r, rfl, Z, μ, ρ, h, v, rh, re, rv, ρ1, h1, eg, fun μ1 H1 σ1 e1 rh1 re1 => ?_⟩
      exact ⟨Z, μ1, ρ1, h1, l, rh1, re1, rr.mono e1, ρ', h', e, fun μ2 H2 σ2 e2 => k μ2 H2 σ2 (e1.trans e2)⟩
theorem DG.tup {ts : List Expr} {k n : Nat} {gs : AGs} (hc : X.calm = true) (h : DGs X ts gs) (hn : (assignEach ts X.env).length = n := by rfl) (hst : (assignEach ts X.env).findIdx? (·.1) = none := by rfl) : DG X (.Tuple ts k pos) (agTup n gs) := by
  refine ⟨PG.wk (pg_tup hc h.pgs hn hst) fun x σ H Q h => ?_⟩
  obtain ⟨Z, μ, ρ, h, v, rh, re, rv, ρ', h', e, k⟩ := h
  unfold agTup at e
  split at e
  · rename_i l
    split at e
    · rename_i hl
      obtain ⟨a, xs, rfl, ta, rl⟩ := rv.tup_inv
      exact ⟨a, xs, rfl, ta.sq, by rw [rl.length]; exact hl, Z, μ, ρ, h, l, rh, re, rl, ρ', h', e, k⟩
    · cases e
  · cases e
/-- target = value -/
def aAsg (fe : AE) (g : AG) : AS := fun ρ h => .ofRes ρ (fe ρ h) fun v h1 => match g v ρ h1 with
  | some (ρ', h') => .nx ρ' h'
  | none => .bad
theorem asg_of {g : AG} {D : Ends} {σ : L2.St} {H : Hp} (h : tDS X W (aAsg fe g) D σ H) : tAsg (tD X W fe) (tDG X g) D σ H := by
  obtain ⟨Z, μ, ρ, h, rh, re, p⟩ := h
  refine tD.seqS rh re p fun μ1 H1 h1 v x e1 rh1 re1 rv p1 => ?_
  refine ⟨Z, μ1, ρ, h1, v, rh1, re1, rv, ?_⟩
  cases eg : g v ρ h1 with
  | none => rw [eg] at p1; exact (show False from p1).elim
  | some q =>
    obtain ⟨ρ2, h2⟩ := q
    rw [eg] at p1
    exact ⟨ρ2, h2, rfl, p1⟩
theorem DS.asg {tg : Expr} {g : AG} (he : DE X W e fe) (hg : DG X tg g) (hs : swapsWithSole [tg] e pos.line X.env = pure false := by rfl) (hw : swappedStores [tg] e X.env = pure none := by rfl)
    (h1 : (assignEach [tg] X.env).map (·.2) = [assign tg X.env] := by rfl) : DS X W (.Assign [tg] e pos) (aAsg fe g) :=
  ⟨PS.wk (ps_asg he.pe hg.pg hs hw h1) fun D σ H h => asg_of h⟩
theorem gName_of {i : Nat} {x : V} {σ : L2.St} {H : Hp} {Q : L2.St → Hp → Prop} (h : tDG X (agName i) x σ H Q) : gName i x σ H Q := by
  obtain ⟨Z, μ, ρ, h, v, rh, re, rv, ρ', h', e, k⟩ := h
  cases e
  exact k μ H _ (.refl _ _) rh (re.set rv i)
theorem tD.mono {fe : AE} {σ : L2.St} {H : Hp} {Q Q' : VK} (h : tD X W fe σ H Q) (k : ∀ x H, Q x H → Q' x H) : tD X W fe σ H Q' := by
  obtain ⟨Z, μ, ρ, h, rh, re, p⟩ := h
  exact ⟨Z, μ, ρ, h, rh, re, p.mono fun _ _ _ _ _ _ q x r => k _ _ (q x r)⟩
theorem DS.set (i : Nat) {x : Str} {pos' : Pos} (hN : X.N.Nodup) (he : DE X W e fe) (hi : X.N[i]? = some x := by rfl) (hx : Loc X.env.scope x := by first | exact Or.inl rfl | exact Or.inr rfl) (hs : swapsWith e (some (.Name x pos')) pos.line X.env = pure false := by rfl)
    (hf : X.fn x = true ∨ X.env.scope.names.lookup x = some .local := by first | exact .inl rfl | exact .inr rfl | assumption) : DS X W (.Assign [.Name x pos'] e pos) (aAsg fe (agName i)) :=
  ⟨PS.wk (ps_set (i := i) hN hi hx he.pe hs hf) fun D σ H h => (asg_of h).mono fun x H q => gName_of q⟩

/-! ### for -/
structure ItemsOf (C : Ctx) (μ : Mu) (H : Hp) (J : It) (l : List AV) : Prop where
  go : ∀ i μ' H', Ext μ H μ' H' → i < l.length → J.go i H'
  stop : ∀ μ' H', Ext μ H μ' H' → J.stop l.length H'
  yld : ∀ i μ' h' H' x H'' v Z', (∀ a ∈ Z', a ∈ C.Z ∨ H a = none) → Ext μ H μ' H' → RepH ⟨C.K, C.mg, Z'⟩ μ' h' H' → l[i]? = some v → J.yld i H' x H'' → Ext μ' H' μ' H'' ∧ RepH ⟨C.K, C.mg, Z'⟩ μ' h' H'' ∧ RV ⟨C.K, C.mg, Z'⟩ μ' H'' v x
def tDI (X : Cx) (W : WX) (f : AA) : TI := fun σ H R => ∃ Z μ ρ h, RepH (cc X Z) μ h H ∧ RepE (cc X Z) μ H ρ σ ∧ Post (cc X Z) μ H (fun c d H' => W c d σ H') (fun μ' H' _ l => ∀ J, ItemsOf (cc X Z) μ' H' J l → R J H') (f ρ h)
structure DI (X : Cx) (W : WX) (tg iter : Expr) (f : AA) : Prop where
  pi : PI X tg iter (tDI X W f)
theorem PI.wk {X : Cx} {tg iter : Expr} {t t' : TI} (h : PI X tg iter t) (k : ∀ σ H Q, t' σ H Q → t σ H Q) : PI X tg iter t' := ⟨fun pins s σ H Q I hw => h.run pins s σ H Q I (k σ H Q hw)⟩
def loopS (g : AG) (body : AS) : List AV → AEnv → AHeap → SRes
  | [], ρ, h => .nx ρ h
  | v :: r, ρ, h => match g v ρ h with
    | none => .bad
    | some (ρ1, h1) => match body ρ1 h1 with
      | .nx ρ2 h2 => loopS g body r ρ2 h2
      | .ct ρ2 h2 => loopS g body r ρ2 h2
      | .bk ρ2 h2 => .nx ρ2 h2
      | .rt v h2 => .rt v h2
      | .exc e ρ2 h2 => .exc e ρ2 h2
      | .bad => .bad
def aFor (f : AA) (g : AG) (body : AS) : AS := fun ρ h => .ofRes ρ (f ρ h) fun l h1 => loopS g body l ρ h1
theorem for_of {tg : Expr} {f : AA} {g : AG} {body : AS} {D : Ends} {σ : L2.St} {H : Hp} (h : tDS X W (aFor f g body) D σ H) : tFor (tDI X W f) (tDG X g) (tDS X W body) D σ H := by
  obtain ⟨Z, μ, ρ, h, rh, re, p⟩ := h
  refine ⟨Z, μ, ρ, h, rh, re, (PostS.of re p).mono fun μ1 H1 h1 l e1 rh1 p1 J it => ?_⟩
  refine ⟨fun i m σ' H' => m = l.length - i ∧ i ≤ l.length ∧ ∃ μ' ρ' h', Ext μ1 H1 μ' H' ∧ RepH (cc X Z) μ' h' H' ∧ RepE (cc X Z) μ' H' ρ' σ' ∧ PostS (cc X Z) μ' H' W D (loopS g body (l.drop i) ρ' h'),
    ⟨l.length, by simp, Nat.zero_le _, μ1, ρ, h1, .refl _ _, rh1, re.mono e1, p1⟩, ?_⟩
  rintro i m σ' H' ⟨rfl, hi, μ', ρ', h', e', rh', re', p'⟩
  by_cases hlt : i < l.length
  · refine .inr ⟨it.go i μ' H' e' hlt, fun σ2 H2 => ∃ μ2 ρ2 h2, Ext μ1 H1 μ2 H2 ∧ RepH (cc X Z) μ2 h2 H2 ∧ RepE (cc X Z) μ2 H2 ρ2 σ2 ∧ PostS (cc X Z) μ2 H2 W D (loopS g body (l.drop (i + 1)) ρ2 h2),
      fun σ2 H2 q => ⟨l.length - (i + 1), by omega, rfl, hlt, q⟩, fun x H'' hy => ?_⟩
    have hv : l[i]? = some l[i] := List.getElem?_eq_getElem hlt
    obtain ⟨e2, rh2, rv⟩ := it.yld i μ' h' H' x H'' _ Z (fun a ha => .inl ha) e' rh' hv hy
    rw [List.drop_eq_getElem_cons hlt] at p'
    unfold loopS at p'
    have p2 := PostS.ext e2 p'
    refine ⟨Z, μ', ρ', h', l[i], rh2, re'.mono e2, rv, ?_⟩
    cases eg : g l[i] ρ' h' with
    | none => rw [eg] at p2; exact (show False from p2).elim
    | some q =>
      obtain ⟨ρ3, h3⟩ := q
      rw [eg] at p2
      refine ⟨ρ3, h3, rfl, fun μ3 H3 σ3 e3 rh3 re3 => ⟨Z, μ3, ρ3, h3, rh3, re3, ?_⟩⟩
      have p3 := PostS.ext e3 p2
      dsimp only at p3
      cases eb : body ρ3 h3 with
      | nx ρ4 h4 =>
        rw [eb] at p3
        exact fun μ4 H4 σ4 e4 rh4 re4 => ⟨μ4, ρ4, h4, ((e'.trans e2).trans e3).trans e4, rh4, re4, PostS.ext e4 p3⟩
      | ct ρ4 h4 =>
        rw [eb] at p3
        exact fun μ4 H4 σ4 e4 rh4 re4 => ⟨μ4, ρ4, h4, ((e'.trans e2).trans e3).trans e4, rh4, re4, PostS.ext e4 p3⟩
      | bk ρ4 h4 => rw [eb] at p3; exact p3
      | rt v h4 => rw [eb] at p3; exact p3
      | exc x ρ4 h4 => rw [eb] at p3; exact p3
      | bad => rw [eb] at p3; exact p3
  · have e : i = l.length := by omega
    subst e
    rw [List.drop_length] at p'
    exact .inl ⟨it.stop μ' H' e', p' μ' H' σ' (.refl _ _) rh' re'⟩
theorem DS.for_ {tg iter : Expr} {body : List Stmt} {fi : AA} {g : AG} {fb : AS} (hp : PassesOwn (model X.prog X.w) X.A X.env X.xe) (hc : X.calm = true) (hi : DI X W tg iter fi) (hg : DG X tg g) (hb : DSs X W body fb)
    (hs : ∀ x, foldedSetIterable iter X.env x = pure x := by intro _; rfl) : DS X W (.For tg iter body [] pos) (aFor fi g fb) :=
  ⟨PS.wk (ps_for hp hc hi.pi hg.pg hb.pss hs) fun D σ H h => for_of (tg := tg) h⟩

/-! ### while -/
def loopW (c : AT) (body : AS) : Nat → AEnv → AHeap → SRes
  | 0, _, _ => .bad
  | n + 1, ρ, h => .ofRes ρ (c ρ h) fun b h1 => if b = true then (match body ρ h1 with
      | .nx ρ2 h2 => loopW c body n ρ2 h2
      | .ct ρ2 h2 => loopW c body n ρ2 h2
      | .bk ρ2 h2 => .nx ρ2 h2
      | .rt v h2 => .rt v h2
      | .exc e ρ2 h2 => .exc e ρ2 h2
      | .bad => .bad) else .nx ρ h1
theorem DS.while_ (n : Nat) {body : List Stmt} {fb : AS} (hp : PassesOwn (model X.prog X.w) X.A X.env X.xe) (hc : DT X W c tc) (hb : DSs X W body fb) : DS X W (.While c body [] pos) (loopW tc fb n) := by
  refine ⟨PS.wk (ps_while hp hc.pt hb.pss) fun D σ H h => ?_⟩
  obtain ⟨Z, μ, ρ, h, rh, re, p⟩ := h
  refine ⟨fun m σ' H' => ∃ μ' ρ' h', RepH (cc X Z) μ' h' H' ∧ RepE (cc X Z) μ' H' ρ' σ' ∧ PostS (cc X Z) μ' H' W D (loopW tc fb m ρ' h'), ⟨n, μ, ρ, h, rh, re, p⟩, ?_⟩
  rintro m σ' H' ⟨μ', ρ', h', rh', re', p'⟩
  cases m with
  | zero => exact (show False from p').elim
  | succ m =>
    unfold loopW at p'
    refine ⟨Z, μ', ρ', h', rh', re', (PostS.of re' p').mono fun μ1 H1 h1 b e1 rh1 p1 => ?_⟩
    cases b with
    | false =>
      rw [if_neg Bool.false_ne_true] at p1 ⊢
      exact p1 μ1 H1 σ' (.refl _ _) rh1 (re'.mono e1)
    | true =>
      rw [if_pos rfl] at p1 ⊢
      refine ⟨fun σ2 H2 => ∃ μ' ρ' h', RepH (cc X Z) μ' h' H2 ∧ RepE (cc X Z) μ' H2 ρ' σ2 ∧ PostS (cc X Z) μ' H2 W D (loopW tc fb m ρ' h'), fun σ2 H2 q => ⟨m, Nat.lt_succ_self m, q⟩, ?_⟩
      refine ⟨Z, μ1, ρ', h1, rh1, re'.mono e1, ?_⟩
      cases eb : fb ρ' h1 with
      | nx ρ4 h4 => rw [eb] at p1; exact fun μ4 H4 σ4 e4 rh4 re4 => ⟨μ4, ρ4, h4, rh4, re4, PostS.ext e4 p1⟩
      | ct ρ4 h4 => rw [eb] at p1; exact fun μ4 H4 σ4 e4 rh4 re4 => ⟨μ4, ρ4, h4, rh4, re4, PostS.ext e4 p1⟩
      | bk ρ4 h4 => rw [eb] at p1; exact p1
      | rt v h4 => rw [eb] at p1; exact p1
      | exc x ρ4 h4 => rw [eb] at p1; exact p1
      | bad => rw [eb] at p1; exact p1
end
end AI
namespace AI
open PySem PySem.Spec PyProof.Rows
open L2

abbrev MF := List AV → AHeap → Res AV

/-! ### the objects that a def leaves behind are forgotten -/
mutual
def AV.closed (b : Nat) : AV → Bool
  | .ref n => decide (n < b)
  | .tup l => AV.closeds b l
  | .lst l => AV.closeds b l
  | .dct _ l => AV.closeds b l
  | .non => true
  | .bl _ => true
  | .int _ => true
  | .str _ => true
  | .ty _ => true
  | .gl _ => true
def AV.closeds (b : Nat) : List AV → Bool
  | [] => true
  | v :: l => AV.closed b v && AV.closeds b l
end
def AO.closed (b : Nat) : AO → Bool
  | .list l => AV.closeds b l
def convOne (h : AHeap) (b : Nat) (v : AV) : Option AV := match v with
  | .ref n => if n < b then some (.ref n) else match h[n]? with
    | some (.list l) => if AV.closeds b l = true then some (.lst l) else none
    | none => none
  | v => if v.closed b = true then some v else none
def convAll (h : AHeap) (b : Nat) : List AV → Option (List AV)
  | [] => some []
  | v :: l => (convOne h b v).bind fun v' => (convAll h b l).map (v' :: ·)
def convV (h : AHeap) (b : Nat) (v : AV) : Option AV := match convOne h b v with
  | some v' => some v'
  | none => match v with
    | .tup l => (convAll h b l).map .tup
    | _ => none
def gcRes (b : Nat) : Res AV → Res AV
  | .ok v h => if h.length ≤ b then .ok v h else match convV h b v with
    | some v' => if (h.take b).all (AO.closed b) = true then .ok v' (h.take b) else .ok v h
    | none => .ok v h
  | .exc e h => if h.length ≤ b then .exc e h else if AV.closeds b e.vals = true ∧ (h.take b).all (AO.closed b) = true then .exc e (h.take b) else .exc e h
  | .bad => .bad

section
variable {C : Ctx} {μ : Mu} {H : Hp} {h : AHeap} {b : Nat}
theorem notin_take {a : Addr} (hn : a ∉ μ) : a ∉ μ.take b := fun hm => hn (List.mem_of_mem_take hm)
theorem TupAt.cut {a : Addr} {xs : List V} (t : TupAt C μ H a xs) : TupAt C (μ.take b) H a xs := t.imp (fun ⟨x, y⟩ => ⟨notin_take x, y⟩) id
theorem LstAt.cut {a : Addr} {xs : List V} (t : LstAt C μ H a xs) : LstAt C (μ.take b) H a xs := t.imp (fun t => ⟨notin_take t.1, t.2⟩) _root_.id
theorem DctAt.cut {a : Addr} {ks : List Key} {xs : List V} (t : DctAt C μ H a ks xs) : DctAt C (μ.take b) H a ks xs := ⟨notin_take t.1, t.2⟩
mutual
theorem RV.cut : ∀ {v : AV} {x : V}, v.closed b = true → RV C μ H v x → RV C (μ.take b) H v x
  | .non, _, _, r => by simpa [RV] using r
  | .bl _, _, _, r => by simpa [RV] using r
  | .int _, _, _, r => by simpa [RV] using r
  | .str _, _, _, r => by simpa [RV] using r
  | .tup l, _, c, r => by
    obtain ⟨a, xs, rfl, t, q⟩ := r.tup_inv
    exact .tup t.cut (RVs.cut (by simpa [AV.closed] using c) q)
  | .lst l, _, c, r => by
    obtain ⟨a, xs, rfl, t, q⟩ := r.lst_inv
    exact .lst t.cut (RVs.cut (by simpa [AV.closed] using c) q)
  | .dct ks l, _, c, r => by
    obtain ⟨a, xs, rfl, t, q⟩ := r.dct_inv
    exact .dct t.cut (RVs.cut (by simpa [AV.closed] using c) q)
  | .ref n, _, c, r => by
    obtain ⟨a, rfl, e⟩ := r.ref_inv
    have hn : n < b := by simpa [AV.closed] using c
    exact .ref (by rw [List.getElem?_take_of_lt hn]; exact e)
  | .ty _, _, _, r => by simpa [RV] using r
  | .gl _, _, _, r => by simpa [RV] using r
theorem RVs.cut : ∀ {l : List AV} {xs : List V}, AV.closeds b l = true → RVs C μ H l xs → RVs C (μ.take b) H l xs
  | [], _, _, r => by simpa [RVs] using r
  | v :: l, _, c, r => by
    obtain ⟨x, q, rfl, r1, r2⟩ := r.inv
    have c' : v.closed b = true ∧ AV.closeds b l = true := by simpa [AV.closeds] using c
    exact .cons (RV.cut c'.1 r1) (RVs.cut c'.2 r2)
end
theorem OR.cut {o : AO} {a : Addr} (c : o.closed b = true) (r : OR C μ H o a) : OR C (μ.take b) H o a := by
  cases o with
  | list l => obtain ⟨xs, e, q⟩ := r; exact ⟨xs, e, q.cut c⟩
theorem RepH.cut (r : RepH C μ h H) (c : (h.take b).all (AO.closed b) = true) : RepH C (μ.take b) (h.take b) H := by
  refine ⟨by simp [r.len], r.nd.sublist (List.take_sublist _ _), fun n o a h1 h2 => ?_, fun a ha => let ⟨z1, z2⟩ := r.zs a ha; ⟨notin_take z1, z2⟩⟩
  have hc : o.closed b = true := List.all_eq_true.mp c o (List.mem_of_getElem? h1)
  have hn : n < b := by
    have := (List.getElem?_eq_some_iff.mp h1).1
    simp at this; omega
  rw [List.getElem?_take_of_lt hn] at h1 h2
  exact (r.obj n o a h1 h2).cut hc
theorem convOne_ok (r : RepH C μ h H) {v v' : AV} {x : V} (e : convOne h b v = some v') (q : RV C μ H v x) : RV C (μ.take b) H v' x := by
  have plain : ∀ {v : AV}, v.closed b = true → RV C μ H v x → RV C (μ.take b) H v x := fun c q => RV.cut c q
  cases v with
  | ref n =>
    unfold convOne at e
    dsimp only at e
    by_cases hn : n < b
    · rw [if_pos hn] at e; cases e
      exact plain (by simpa [AV.closed] using hn) q
    · rw [if_neg hn] at e
      obtain ⟨a, rfl, ea⟩ := q.ref_inv
      cases ho : h[n]? with
      | none => rw [ho] at e; cases e
      | some o =>
        rw [ho] at e
        cases o with
        | list l =>
          dsimp only at e
          by_cases hc : AV.closeds b l = true
          · rw [if_pos hc] at e; cases e
            obtain ⟨xs, e1, e2⟩ := r.obj n _ a ho ea
            have ham : a ∈ μ := List.mem_of_getElem? ea
            refine .lst (.inl ⟨fun hm => ?_, fun hz => (r.zs a hz).1 ham, .inl e1⟩) (e2.cut hc)
            obtain ⟨i, hi⟩ := List.getElem?_of_mem hm
            have hib : i < b := by
              have := (List.getElem?_eq_some_iff.mp hi).1
              simp at this; omega
            rw [List.getElem?_take_of_lt hib] at hi
            have : i = n := RepH.write.nodup_ix r.nd hi ea
            omega
          · rw [if_neg hc] at e; cases e
  | _ =>
    unfold convOne at e
    dsimp only at e
    split at e
    · rename_i hc
      cases e
      exact plain hc q
    · cases e
theorem convAll_ok (r : RepH C μ h H) : ∀ {l l' : List AV} {xs : List V}, convAll h b l = some l' → RVs C μ H l xs → RVs C (μ.take b) H l' xs
  | [], _, _, e, q => by cases e; simpa [RVs] using q
  | v :: l, l', _, e, q => by
    obtain ⟨x, t, rfl, q1, q2⟩ := q.inv
    unfold convAll at e
    cases e1 : convOne h b v with
    | none => rw [e1] at e; cases e
    | some v' =>
      rw [e1] at e
      cases e2 : convAll h b l with
      | none => rw [e2] at e; cases e
      | some m =>
        rw [e2] at e; cases e
        exact .cons (convOne_ok r e1 q1) (convAll_ok r e2 q2)
theorem convV_ok (r : RepH C μ h H) {v v' : AV} {x : V} (e : convV h b v = some v') (q : RV C μ H v x) : RV C (μ.take b) H v' x := by
  unfold convV at e
  cases e1 : convOne h b v with
  | some w => rw [e1] at e; cases e; exact convOne_ok r e1 q
  | none =>
    rw [e1] at e
    dsimp only at e
    split at e
    · rename_i l
      cases e2 : convAll h b l with
      | none => rw [e2] at e; cases e
      | some m =>
        rw [e2] at e; cases e
        obtain ⟨a, xs, rfl, t, q'⟩ := q.tup_inv
        exact .tup t.cut (convAll_ok r e2 q')
    · cases e
theorem gc_post {E : XK} {Q : VK} {r : Res AV} (rh : RepH C μ h H) (p : Post C μ H E (RVK C Q) (gcRes h.length r)) : Post C μ H E (RVK C Q) r := by
  have cutE : ∀ {μ' : Mu} {H' : Hp}, Ext μ H μ' H' → Ext μ H (μ'.take h.length) H' := fun e =>
    ⟨fun n a hn => by
      have hl : n < h.length := by rw [← rh.len]; exact (List.getElem?_eq_some_iff.mp hn).1
      rw [List.getElem?_take_of_lt hl]; exact e.pre n a hn, fun a ha => e.new a (List.mem_of_mem_take ha), e.frame⟩
  cases r with
  | bad => exact p
  | ok v h' =>
    unfold gcRes at p
    dsimp only at p
    split at p
    · exact p
    · split at p
      · rename_i v' ev
        split at p
        · rename_i hc
          intro μ' H' e rh' x rv
          exact p (μ'.take h.length) H' (cutE e) (rh'.cut hc) x (convV_ok rh' ev rv)
        · exact p
      · exact p
  | exc x h' =>
    unfold gcRes at p
    dsimp only at p
    split at p
    · exact p
    · split at p
      · rename_i hc
        intro μ' H' cls d e rh' rx
        refine p (μ'.take h.length) H' cls d (cutE e) (rh'.cut hc.2) ?_
        obtain ⟨a, q1, q2, q3⟩ := rx
        refine ⟨a, q1, q2, ?_⟩
        cases hn : x.names with
        | nil => rw [hn] at q3; exact q3
        | cons y r =>
          rw [hn] at q3
          obtain ⟨dx, xs, z1, z2, z3, z4⟩ := q3
          exact ⟨dx, xs, z1, z2, notin_take z3, z4.cut hc.1⟩
      · exact p
end

/-! ### defs -/
def gcIf (gc : Bool) (b : Nat) (r : Res AV) : Res AV := if gc = true then gcRes b r else r
theorem gcIf_post {C : Ctx} {μ : Mu} {H : Hp} {h : AHeap} {gc : Bool} {E : XK} {Q : VK} {r : Res AV} (rh : RepH C μ h H) (p : Post C μ H E (RVK C Q) (gcIf gc h.length r)) : Post C μ H E (RVK C Q) r := by
  cases gc with
  | true => exact gc_post rh p
  | false => exact p
def aDef (gc : Bool) (np nl : Nat) (body : AS) : MF := fun as h => if as.length = np then gcIf gc h.length (match body (as.map some ++ List.replicate (nl - np) none) h with
  | .rt v h' => .ok v h'
  | .nx _ h' => .ok .non h'
  | .exc e _ h' => .exc e h'
  | .bk _ _ => .bad
  | .ct _ _ => .bad
  | .bad => .bad) else .bad
theorem aDef_len {gc : Bool} {np nl : Nat} {body : AS} (l : List AV) (h : AHeap) (hl : l.length ≠ np) : aDef gc np nl body l h = .bad := if_neg hl
def spD (K : PySem.W.Frag) (mg : Str → Option Value) (n : Nat) (m : MF) (vs : List V) (H : Hp) (Q : VK) (E : XK) : Prop :=
  vs.length = n ∧ ∃ Z μ h as, RepH ⟨K, mg, Z⟩ μ h H ∧ RVs ⟨K, mg, Z⟩ μ H as vs ∧ Post ⟨K, mg, Z⟩ μ H E (RVK ⟨K, mg, Z⟩ Q) (m as h)
/-- the def at f does what m says, called where no repr is running -/
structure FG (P : Program) (w : World) (K : PySem.W.Frag) (mg : Str → Option Value) (base : Heap) (k : Nat) (f : Addr) (fd : FuncData) (ps : List Str) (m : MF) : Prop where
  run : ∀ (A : Around) (outer : List Env) (s : Shared) (H : Hp) (args : Args) (us : List Value) (vs : List V) (Q : VK) (E : XK), Room k A → A.guards = some [] → Env0 P w K mg base A outer s H → BindsTo s fd args (ps.zip us) →
    Vals vs us → spD K mg ps.length m vs H Q E → codeAny (model P w) A (.call (.ref f) args) (CR (L2.CX P w) outer P w H s Q E) s

section
variable {P : Program} {w : World} {K : PySem.W.Frag} {mg : Str → Option Value} {base : Heap}
theorem FG.mono {j k : Nat} {f : Addr} {fd : FuncData} {ps : List Str} {m : MF} (F : FG P w K mg base j f fd ps m) (h : j ≤ k) : FG P w K mg base k f fd ps m :=
  ⟨fun A outer s H args us vs Q E hr hg => F.run A outer s H args us vs Q E (hr.mono h) hg⟩
theorem repE_start {C : Ctx} {μ : Mu} {H : Hp} {as : List AV} {vs : List V} {N : List Str} (r : RVs C μ H as vs) : RepE C μ H (as.map some ++ List.replicate (N.length - as.length) none) (L2.start N vs) := by
  have hl := r.length
  unfold L2.start
  refine ⟨by simp [hl], fun i v e => ?_⟩
  by_cases hi : i < as.length
  · rw [List.getElem?_append_left (by simpa using hi), List.getElem?_map] at e
    cases ev : as[i]? with
    | none => rw [ev] at e; cases e
    | some a =>
      rw [ev] at e; cases e
      obtain ⟨x, e1, e2⟩ := r.get ev
      refine ⟨x, ?_, e2⟩
      rw [List.getElem?_append_left (by simp [hl, hi]), List.getElem?_map, e1]; rfl
  · rw [List.getElem?_append_right (by simpa using hi), List.getElem?_replicate] at e
    split at e <;> cases e
theorem FG.of {k : Nat} {f : Addr} {fd : FuncData} {x qual : Str} {params : Arguments} {body : List Stmt} {scope : Scope} {dvs : List V} {kws : List (Str × V)} {N ps : List Str} {fb : AS} (gc : Bool)
    (F : FunD K x qual params body scope dvs kws f fd) (S : FnScope N ps scope)
    (hbody : ∀ (cdv : Value) (A : Around) (outer : List Env) (s : Shared) (H : Hp) (E : XK), Room k (A.deeper (envOfC qual scope s.heap.objs.size f cdv)) → A.guards = some [] →
      DSs (cxOf (L2.CX P w) P w K mg base N qual scope f cdv A outer s H E) (fun cls d _ H' => E cls d H') body fb) : FG P w K mg base (k + 1) f fd ps (aDef gc ps.length N.length fb) := by
  obtain ⟨oc, od, dV, kV, doc, pm, an, cdv, ct, osl, rfl, lookup_, code_, _, _⟩ := F.ex
  refine ⟨fun A outer s H args us vs Q E room quiet e0 binding vals spec => ?_⟩
  obtain ⟨len_, Z, μ, h, as, rh, ra, post⟩ := spec
  have inK : K.In s.heap := e0.mod.kin.keeps fun b o e => (e0.bs b o e).1
  have noLim : s.heap.NoLimit := e0.mod.nolimit.keeps fun b o e => (e0.bs b o e).1
  refine codeAny_call_function room.depth (inK _ _ lookup_) rfl S.co S.gen rfl (PySem.W.codeRec_of inK code_) (binding _ _ _ _ ?_)
  refine wpAny_newFunctionEnv_cells S.kind (fun ⟨nm, vl⟩ hy => ?_) fun env henv s1 started => ?_
  · rcases S.par nm (List.of_mem_zip hy).1 with q | q
    · exact .inl q
    · exact .inr ⟨q, PySem.W.cellsFrom_some _ _ _ (.inl q)⟩
  · subst henv
    refine ⟨noLim.keeps started.toInCall.keep, codeAny_func ?_⟩
    have I := inv_start (CX := L2.CX P w) (N := N) (E := E) (cd := cdv) (f := f) (qual := qual) S room.hd e0 len_ vals started
    have hal : as.length = ps.length := by rw [← ra.length]; exact len_
    unfold aDef at post
    rw [if_pos hal] at post
    have p1 := gcIf_post rh post
    have run := (hbody cdv A outer s H E (room.deeper _) quiet).pss.run [] s1 (L2.start N vs) H { nx := fun _ H' => Q .non H', rt := Q } I ⟨Z, μ, _, h, rh, repE_start (N := N) ra, by
      rw [hal]
      cases eb : fb (as.map some ++ List.replicate (N.length - ps.length) none) h with
      | rt v h' => rw [eb] at p1; exact fun μ' H' x e' r' rx => p1 μ' H' e' r' x rx
      | nx ρ' h' => rw [eb] at p1; exact fun μ' H' σ' e' r' _ => p1 μ' H' e' r' .non .non
      | exc x ρ' h' => rw [eb] at p1; exact fun μ' H' σ' cls d e' r' _ rx => p1 μ' H' cls d e' r' rx
      | bk ρ' h' => rw [eb] at p1; exact p1.elim
      | ct ρ' h' => rw [eb] at p1; exact p1.elim
      | bad => rw [eb] at p1; exact p1⟩
    refine wpAny_mono run (fun fl s' hs => ?_) fun e s' hs => hs
    cases fl with
    | ret u => obtain ⟨v, σ', H', J, rv, q⟩ := hs; exact ⟨v, H', J.os, J.bare, J.base, J.hok, rv, q⟩
    | next => obtain ⟨σ', H', J, q⟩ := hs; exact ⟨V.non, H', J.os, J.bare, J.base, J.hok, rfl, q⟩
    | brk => obtain ⟨_, _, _, q⟩ := hs; exact q.elim
    | cont => obtain ⟨_, _, _, q⟩ := hs; exact q.elim

/-- the text's def x does what m says: called by the arguments in order -/
structure Fn (P : Program) (w : World) (K : PySem.W.Frag) (mg : Str → Option Value) (base : Heap) (k : Nat) (x : Str) (m : MF) : Prop where
  ex : ∃ f fd ps, mg x = some (.ref f) ∧ PySem.W.keepIn K (.ref f) = true ∧ Binds K fd ps [] ∧ (∀ l h, l.length ≠ ps.length → m l h = .bad) ∧ FG P w K mg base k f fd ps m
/-- .. by n arguments in order and the keywords ks; arr puts them in the parameters' order -/
structure FnK (P : Program) (w : World) (K : PySem.W.Frag) (mg : Str → Option Value) (base : Heap) (k : Nat) (x : Str) (n : Nat) (ks : List Str) (arr : List AV → List AV → List AV) (m : MF) : Prop where
  ex : ∃ f fd ps g gV, mg x = some (.ref f) ∧ (∃ o, K.lookup f = some o ∧ o.data = .func fd) ∧ (∀ l h, l.length ≠ ps.length → m l h = .bad) ∧ KBn K fd ps n ks g gV ∧
    (∀ {C : Ctx} {μ : Mu} {H : Hp} {as bs : List AV} {xs ys : List V}, as.length = n → bs.length = ks.length → RVs C μ H as xs → RVs C μ H bs ys → RVs C μ H (arr as bs) (gV xs ys)) ∧ FG P w K mg base k f fd ps m
end

section
variable {X : Cx} {W : WX} {pins : List (Addr × Obj)} {σ : L2.St} {H : Hp} {s : Shared} {k : Nat} {f : Addr} {fd : FuncData} {ps : List Str} {m : MF}
theorem run_fg {Q : VK} {us bs : List Value} {kw : List (Str × Value)} {vs : List V} (F : FG X.prog X.w X.K X.mg X.base k f fd ps m) (hr : Room k X.A) (hg : X.A.guards = some []) (tk : Takes X W) (I : Inv X pins σ H s) (r : Vals vs bs)
    (bt : BindsTo s fd ⟨us, kw⟩ (ps.zip bs)) (h : spD X.K X.mg ps.length m vs H Q (fun c d H' => W c d σ H')) : wpAny (model X.prog X.w) X.A (call (.ref f) us kw) (EP X pins σ Q) X.xe s := by
  refine wpAny_call (codeAny_mono (F.run X.A X.stack s H ⟨us, kw⟩ bs vs Q _ hr hg I.env0 bt r h) fun res s' back => ?_)
  cases res with
  | error e => exact tk e s' (XE.of_call I (fun _ _ _ z => z) back)
  | ok fl =>
    cases fl with
    | ret u => exact I.after back
    | next => exact back.elim
    | brk => exact back.elim
    | cont => exact back.elim
end

def aCall (m : MF) (fa : AA) : AE := fun ρ h => (fa ρ h).bind fun l h1 => m l h1
def aCallK (m : MF) (n nk : Nat) (arr : List AV → List AV → List AV) (fa fk : AA) : AE := fun ρ h => (fa ρ h).bind fun l h1 => (fk ρ h1).bind fun r h2 => if l.length = n ∧ r.length = nk then m (arr l r) h2 else .bad
/-- the keywords' values -/
structure DK (X : Cx) (W : WX) (kws : List Keyword) (f : AA) : Prop where
  pk : PK X kws (tDA X W f)
section
variable {X : Cx} {W : WX} {pos p : Pos} {x : Str} {k : Nat} {m : MF} {e : Expr} {es : List Expr} {fa fk : AA} {fe : AE}
theorem PK.wk {kws : List Keyword} {t t' : TA} (h : PK X kws t) (q : ∀ σ H Q, t' σ H Q → t σ H Q) : PK X kws t' := ⟨fun pos pins s σ H Q I hw => h.run pos pins s σ H Q I (q σ H Q hw)⟩
theorem DK.nil : DK X W [] aNil := ⟨PK.wk pk_nil fun σ H Q ⟨Z, μ, ρ, h, rh, re, p⟩ => Post.fin (a := ([] : List AV)) p rh _ .nil⟩
theorem DK.cons {nm : Option Str} {kpos : Pos} {kws : List Keyword} (ha : DE X W e fe) (hr : DK X W kws fk) : DK X W (⟨nm, e, kpos⟩ :: kws) (aCons fe fk) := by
  refine ⟨PK.wk (pk_cons ha.pe hr.pk) fun σ H Q h => ?_⟩
  obtain ⟨Z, μ, ρ, h, rh, re, p⟩ := h
  refine tD.seq rh re p fun μ1 H1 h1 v x e1 rh1 re1 rv p1 => ?_
  refine tDA.seq rh1 re1 p1 fun μ2 H2 h2 l xs e2 rh2 re2 rl p2 => ?_
  exact p2.fin rh2 _ (.cons (rv.mono e2) rl)
/-- f(e, ..) -/
theorem DE.call (F : Fn X.prog X.w X.K X.mg X.base k x m) (hr : Room k X.A) (hg : X.A.guards = some []) (tk : Takes X W) (ha : DA X W (e :: es) fa) (hgl : Gl X x := by rfl) (hdb : (x == ("__debug__" : Str)) = false := by rfl)
    (he : starEach (e :: es) X.env = (false, eval e X.env) :: starEach es X.env := by rfl) (hpl : (backTo pos (starEach es X.env)).any (·.1) = false := by rfl) : DE X W (.Call (.Name x p) (e :: es) [] pos) (aCall m fa) := by
  obtain ⟨f, fd, ps, hm, hk, hb, hlen, FF⟩ := F.ex
  refine ⟨⟨fun pins s σ H Q I h => ?_⟩⟩
  refine wpAny_Call_Name_kw (ld_glob I hgl hm ?_ hdb)
  obtain ⟨Z, μ, ρ, h, rh, re, pp⟩ := h
  have go : tDA X W fa σ H fun xs H1 => spD X.K X.mg ps.length m xs H1 Q (fun c d H' => W c d σ H') := by
    refine tDA.seq rh re pp fun μ1 H1 h1 l xs e1 rh1 re1 rl p1 => ?_
    by_cases hl : l.length = ps.length
    · exact ⟨rl.length.trans hl, Z, μ1, h1, l, rh1, rl, p1⟩
    · rw [hlen l h1 hl] at p1; exact p1.elim
  refine PySem.W.callWith_K (h₀ := X.base) I.ok.mod.kin hk (thn (ha.pa.run pos pins s σ H _ I go) fun us s1 ⟨vs, H1, I1, r, q⟩ => ⟨I1.kIn, ?_⟩) he hpl
  have bt := hb s1 us I1.kIn (by rw [List.append_nil, ← r.length]; exact q.1)
  rw [List.append_nil] at bt
  exact run_fg FF hr hg tk I1 r bt q
/-- f() -/
theorem DE.call0 (F : Fn X.prog X.w X.K X.mg X.base k x m) (hr : Room k X.A) (hg : X.A.guards = some []) (tk : Takes X W) (hgl : Gl X x := by rfl) (hdb : (x == ("__debug__" : Str)) = false := by rfl) : DE X W (.Call (.Name x p) [] [] pos) (aCall m aNil) := by
  obtain ⟨f, fd, ps, hm, hk, hb, hlen, FF⟩ := F.ex
  refine ⟨⟨fun pins s σ H Q I h => ?_⟩⟩
  refine wpAny_Call_Name_kw (ld_glob I hgl hm ?_ hdb)
  obtain ⟨Z, μ, ρ, h, rh, re, pp⟩ := h
  have pp : Post (cc X Z) μ H (fun c d H' => W c d σ H') (RVK (cc X Z) Q) (m [] h) := pp
  by_cases hl : ([] : List AV).length = ps.length
  · have bt := hb s [] I.kIn (by simpa using hl)
    exact PySem.W.callWith_K0 I.kIn hk (run_fg (vs := []) FF hr hg tk I .nil bt ⟨hl, Z, μ, h, [], rh, .nil, pp⟩)
  · rw [hlen [] h hl] at pp; exact pp.elim
/-- what a call with keywords wants behind its arguments -/
theorem run_fk {n : Nat} {ks ps : List Str} {arr : List AV → List AV → List AV} {f : Addr} {fd : FuncData} {g : List Value → List Value → List Value} {gV : List V → List V → List V} {pins : List (Addr × Obj)} {σ : L2.St} {H : Hp} {s : Shared} {Q : VK} {us ws : List Value} {vs zs : List V}
    (hlen : ∀ l h, l.length ≠ ps.length → m l h = .bad) (hb : KBn X.K fd ps n ks g gV)
    (harr : ∀ {C : Ctx} {μ : Mu} {H : Hp} {as bs : List AV} {xs ys : List V}, as.length = n → bs.length = ks.length → RVs C μ H as xs → RVs C μ H bs ys → RVs C μ H (arr as bs) (gV xs ys)) (FF : FG X.prog X.w X.K X.mg X.base k f fd ps m)
    (hr : Room k X.A) (hg : X.A.guards = some []) (tk : Takes X W) (I : Inv X pins σ H s) (r : Vals vs us) (rz : Vals zs ws)
    (h : ∃ Z μ h l q, RepH (cc X Z) μ h H ∧ RVs (cc X Z) μ H l vs ∧ RVs (cc X Z) μ H q zs ∧ Post (cc X Z) μ H (fun c d H' => W c d σ H') (RVK (cc X Z) Q) (if l.length = n ∧ q.length = ks.length then m (arr l q) h else .bad)) :
    wpAny (model X.prog X.w) X.A (call (.ref f) us (ks.zip ws)) (EP X pins σ Q) X.xe s := by
  obtain ⟨Z, μ, h, l, q, rh, rl, rq, p⟩ := h
  by_cases hl : l.length = n ∧ q.length = ks.length
  · rw [if_pos hl] at p
    have ra := harr hl.1 hl.2 rl rq
    have bt := hb.to s us ws I.kIn (by rw [← r.length, rl.length]; exact hl.1) (by rw [← rz.length, rq.length]; exact hl.2)
    by_cases hp : (arr l q).length = ps.length
    · exact run_fg FF hr hg tk I (hb.rel r rz) bt ⟨ra.length.trans hp, Z, μ, h, _, rh, ra, p⟩
    · rw [hlen _ h hp] at p; exact p.elim
  · rw [if_neg hl] at p; exact p.elim
/-- f(k = v, ..) -/
theorem DE.callK0 {ks : List Str} {arr : List AV → List AV → List AV} {kws : List Keyword} (F : FnK X.prog X.w X.K X.mg X.base k x 0 ks arr m) (hr : Room k X.A) (hg : X.A.guards = some []) (tk : Takes X W) (hkw : DK X W kws fk) (hgl : Gl X x := by rfl)
    (hall : (backToKw pos (keywordEach kws X.env)).all (·.1.isSome) = true := by rfl) (hks : (backToKw pos (keywordEach kws X.env)).filterMap (·.1) = ks := by rfl) (hdb : (x == ("__debug__" : Str)) = false := by rfl) :
    DE X W (.Call (.Name x p) [] kws pos) (aCallK m 0 ks.length arr aNil fk) := by
  obtain ⟨f, fd, ps, g, gV, hm, ⟨o, lo, od⟩, hlen, hb, harr, FF⟩ := F.ex
  refine ⟨⟨fun pins s σ H Q I h => ?_⟩⟩
  refine wpAny_Call_Name_kw (ld_glob I hgl hm ?_ hdb)
  obtain ⟨Z, μ, ρ, h, rh, re, pp⟩ := h
  have go : tDA X W fk σ H fun zs H1 => ∃ Z μ h l q, RepH (cc X Z) μ h H1 ∧ RVs (cc X Z) μ H1 l [] ∧ RVs (cc X Z) μ H1 q zs ∧ Post (cc X Z) μ H1 (fun c d H' => W c d σ H') (RVK (cc X Z) Q) (if l.length = 0 ∧ q.length = ks.length then m (arr l q) h else .bad) :=
    tDA.seq (k := fun q h2 => if ([] : List AV).length = 0 ∧ q.length = ks.length then m (arr [] q) h2 else .bad) rh re pp fun μ1 H1 h1 q xs e1 rh1 re1 rq p1 => ⟨Z, μ1, h1, [], q, rh1, .nil, rq, p1⟩
  refine callWith_function_kw (evalArgs_kw_nil hall (thn (hkw.pk.run pos pins s σ H _ I go) fun ws s2 ⟨zs, H2, I2, rz, q2⟩ => ⟨⟨I2.kIn f o lo, od⟩, ?_⟩))
  rw [hks]
  exact run_fk hlen hb harr FF hr hg tk I2 .nil rz q2
/-- f(e, .., k = v, ..) -/
theorem DE.callK {n : Nat} {ks : List Str} {arr : List AV → List AV → List AV} {kws : List Keyword} (F : FnK X.prog X.w X.K X.mg X.base k x n ks arr m) (hr : Room k X.A) (hg : X.A.guards = some []) (tk : Takes X W) (ha : DA X W (e :: es) fa) (hkw : DK X W kws fk) (hgl : Gl X x := by rfl)
    (hall : (backToKw pos (keywordEach kws X.env)).all (·.1.isSome) = true := by rfl) (hks : (backToKw pos (keywordEach kws X.env)).filterMap (·.1) = ks := by rfl) (hdb : (x == ("__debug__" : Str)) = false := by rfl)
    (he : starEach (e :: es) X.env = (false, eval e X.env) :: starEach es X.env := by rfl) : DE X W (.Call (.Name x p) (e :: es) kws pos) (aCallK m n ks.length arr fa fk) := by
  obtain ⟨f, fd, ps, g, gV, hm, ⟨o, lo, od⟩, hlen, hb, harr, FF⟩ := F.ex
  refine ⟨⟨fun pins s σ H Q I h => ?_⟩⟩
  refine wpAny_Call_Name_kw (ld_glob I hgl hm ?_ hdb)
  obtain ⟨Z, μ, ρ, h, rh, re, pp⟩ := h
  have go : tDA X W fa σ H fun xs H1 => tDA X W fk σ H1 fun zs H2 => ∃ Z μ h l q, RepH (cc X Z) μ h H2 ∧ RVs (cc X Z) μ H2 l xs ∧ RVs (cc X Z) μ H2 q zs ∧ Post (cc X Z) μ H2 (fun c d H' => W c d σ H') (RVK (cc X Z) Q) (if l.length = n ∧ q.length = ks.length then m (arr l q) h else .bad) :=
    tDA.seq rh re pp fun μ1 H1 h1 l xs e1 rh1 re1 rl p1 => tDA.seq rh1 re1 p1 fun μ2 H2 h2 q zs e2 rh2 re2 rq p2 => ⟨Z, μ2, h2, l, q, rh2, rl.mono e2, rq, p2⟩
  have hA := ha.pa.run pos pins s σ H _ I go
  rw [he] at hA ⊢
  refine callWith_function_kw (evalArgs_kw hall (thn hA fun us s1 ⟨vs, H1, I1, r, q⟩ => thn (hkw.pk.run pos pins s1 σ H1 _ I1 q) fun ws s2 ⟨zs, H2, I2, rz, q2⟩ => ⟨⟨I2.kIn f o lo, od⟩, ?_⟩))
  rw [hks]
  exact run_fk hlen hb harr FF hr hg tk I2 r rz q2
end
end AI
namespace AI
open PySem PySem.Spec PyProof.Rows
open L2

def szM : Nat := 16777216
theorem szM_eq : szM = sizeLine := sizeLine_eq.symm
theorem le_line {n : Nat} (h : n ≤ szM) : n ≤ sizeLine := by rw [← szM_eq]; exact h

/-! ### sequences -/
def seqL (h : AHeap) : AV → Option (List AV)
  | .lst l => some l
  | .ref n => match h[n]? with
    | some (.list l) => some l
    | _ => none
  | _ => none
def seqT : AV → Option (List AV)
  | .tup l => some l
  | _ => none
section
variable {C : Ctx} {μ : Mu} {H : Hp} {h : AHeap} {v : AV} {x : V} {l : List AV}
theorem seqL_sq (rh : RepH C μ h H) (r : RV C μ H v x) (e : seqL h v = some l) : ∃ a xs, x = .ref a ∧ SqL C.K H a xs ∧ RVs C μ H l xs := by
  cases v with
  | lst m => cases e; obtain ⟨a, xs, rfl, t, q⟩ := r.lst_inv; exact ⟨a, xs, rfl, t.sq, q⟩
  | ref n =>
    obtain ⟨a, rfl, ha⟩ := r.ref_inv
    unfold seqL at e
    dsimp only at e
    split at e
    · rename_i m hm
      cases e
      obtain ⟨xs, e1, e2⟩ := rh.obj n _ a hm ha
      exact ⟨a, xs, rfl, .inl (.inl e1), e2⟩
    · cases e
  | _ => cases e
theorem seqT_sq (r : RV C μ H v x) (e : seqT v = some l) : ∃ a xs, x = .ref a ∧ SqT C.K H a xs ∧ TupAt C μ H a xs ∧ RVs C μ H l xs := by
  cases v with
  | tup m => cases e; obtain ⟨a, xs, rfl, t, q⟩ := r.tup_inv; exact ⟨a, xs, rfl, t.sq, t, q⟩
  | _ => cases e
end

/-! ### operators -/
def vOr (f g : POp2) : POp2 := fun h a b => match f h a b with
  | some v => some v
  | none => g h a b
def vInt (c : Int → Int → Bool) (g : Int → Int → AV) : POp2 := fun _ a b => match a, b with
  | .int i, .int j => if c i j = true then some (g i j) else none
  | _, _ => none
def yes2 : Int → Int → Bool := fun _ _ => true
section
variable {X : Cx} {f : Value → Value → Sem Value} {op op' : POp2}
theorem VOp.or (a : VOp X f op) (b : VOp X f op') : VOp X f (vOr op op') := by
  intro pins s σ H x y v u Q I rx ry hh
  obtain ⟨Z, μ, h, p, q, r, rh, rp, rq, ev, o⟩ := hh
  unfold vOr at ev
  cases e : op h p q with
  | some w =>
    rw [e] at ev; cases ev
    exact a pins s σ H x y v u Q I rx ry ⟨Z, μ, h, p, q, _, rh, rp, rq, e, o⟩
  | none =>
    rw [e] at ev
    exact b pins s σ H x y v u Q I rx ry ⟨Z, μ, h, p, q, r, rh, rp, rq, ev, o⟩
theorem vInt_inv {c : Int → Int → Bool} {g : Int → Int → AV} {h : AHeap} {a b r : AV} (e : vInt c g h a b = some r) : ∃ i j, a = .int i ∧ b = .int j ∧ c i j = true ∧ r = g i j := by
  unfold vInt at e
  split at e
  · rename_i i j
    split at e
    · rename_i hc
      cases e
      exact ⟨i, j, rfl, rfl, hc, rfl⟩
    · cases e
  · cases e
theorem VOp.int {P : Int → Int → Prop} {g : Int → Int → Int} (c : Int → Int → Bool) (hc : ∀ i j, c i j = true → P i j) (ho : OpR X f (rI P fun i j => .int (g i j))) : VOp X f (vInt c fun i j => .int (g i j)) := by
  intro pins s σ H x y v u Q I rx ry hh
  obtain ⟨Z, μ, h, p, q, r, rh, rp, rq, ev, o⟩ := hh
  obtain ⟨i, j, rfl, rfl, k, rfl⟩ := vInt_inv ev
  exact ho pins s σ H x y v u Q I rx ry ⟨i, j, rp.int_inv, rq.int_inv, hc i j k, o.val rh .int⟩
theorem VOp.int0 {g : Int → Int → Int} (ho : OpR X f (rI0 fun i j => .int (g i j))) : VOp X f (vInt yes2 fun i j => .int (g i j)) := by
  intro pins s σ H x y v u Q I rx ry hh
  obtain ⟨Z, μ, h, p, q, r, rh, rp, rq, ev, o⟩ := hh
  obtain ⟨i, j, rfl, rfl, k, rfl⟩ := vInt_inv ev
  exact ho pins s σ H x y v u Q I rx ry ⟨i, j, rp.int_inv, rq.int_inv, o.val rh .int⟩
theorem VOp.intB {g : Int → Int → Bool} (ho : OpR X f (rI0 fun i j => .bl (g i j))) : VOp X f (vInt yes2 fun i j => .bl (g i j)) := by
  intro pins s σ H x y v u Q I rx ry hh
  obtain ⟨Z, μ, h, p, q, r, rh, rp, rq, ev, o⟩ := hh
  obtain ⟨i, j, rfl, rfl, k, rfl⟩ := vInt_inv ev
  exact ho pins s σ H x y v u Q I rx ry ⟨i, j, rp.int_inv, rq.int_inv, o.val rh .bl⟩

def vAddStr : POp2 := fun _ a b => match a, b with
  | .str s, .str t => if decide (s.length + t.length ≤ szM) = true then some (.str (s ++ t)) else none
  | _, _ => none
theorem VOp.addStr : VOp X (binaryOp .Add) vAddStr := by
  intro pins s σ H x y v u Q I rx ry hh
  obtain ⟨Z, μ, h, p, q, r, rh, rp, rq, ev, o⟩ := hh
  unfold vAddStr at ev
  split at ev
  · rename_i a b
    split at ev
    · rename_i hc
      cases ev
      refine op_add_str pins s σ H x y v u Q I rx ry ⟨_, _, rp.str_inv, rq.str_inv, ?_, ?_⟩
      · have := le_line (of_decide_eq_true hc)
        simpa [PySem.Str.length] using this
      · refine o.val rh ?_
        have e : (⟨a.toArray⟩ ++ ⟨b.toArray⟩ : PySem.Str) = ⟨(a ++ b).toArray⟩ := by
          show PySem.Str.mk (a.toArray ++ b.toArray) = _
          simp
        rw [e]; exact .str
    · cases ev
  · cases ev
def vAddTup : POp2 := fun _ a b => match a, b with
  | .tup l, .tup m => if decide (l.length + m.length ≤ szM) = true then some (.tup (l ++ m)) else none
  | _, _ => none
theorem VOp.addTup : VOp X (binaryOp .Add) vAddTup := by
  intro pins s σ H x y v u Q I rx ry hh
  obtain ⟨Z, μ, h, p, q, r, rh, rp, rq, ev, o⟩ := hh
  unfold vAddTup at ev
  split at ev
  · rename_i l m
    split at ev
    · rename_i hc
      cases ev
      obtain ⟨a, xs, rfl, ta, ra⟩ := rp.tup_inv
      obtain ⟨b, ys, rfl, tb, rb⟩ := rq.tup_inv
      refine op_catA pins s σ H _ _ v u Q I rx ry ⟨a, b, xs, ys, rfl, rfl, ta.sq, tb.sq, ?_, ?_, ?_, ?_⟩
      · rw [ra.length, rb.length]; exact le_line (of_decide_eq_true hc)
      · intro e
        subst e
        have : l = [] := List.eq_nil_of_length_eq_zero (by rw [← ra.length]; rfl)
        subst this
        exact o.val rh (.tup tb rb)
      · intro _ e
        subst e
        have : m = [] := List.eq_nil_of_length_eq_zero (by rw [← rb.length]; rfl)
        subst this
        exact o.val rh (by rw [List.append_nil]; exact .tup ta ra)
      · intro _ _ p hp
        exact o.new rh hp (.tup (.new (rh.fresh hp)) ((ra.append rb).mono (.laid μ hp)))
    · cases ev
  · cases ev
theorem op_catL : OpR X (binaryOp .Add) (fun x y H Q => ∃ l b xs zs, x = .ref l ∧ y = .ref b ∧ SqL X.K H l xs ∧ SqL X.K H b zs ∧ xs.length + zs.length ≤ sizeLine ∧ ∀ p, H p = none → Q (.ref p) (upd H p (.lst (xs ++ zs)))) := by
  intro pins s σ H x y v u Q I rx ry h
  obtain ⟨l, b, xs, zs, rfl, rfl, hl, hb, hz, q⟩ := h
  cases rx
  cases ry
  obtain ⟨its, r1, ⟨⟨c1, d1, t1, s1⟩, n1, g1, k1, _, e1⟩, z1⟩ := I.list hl
  obtain ⟨its2, r2, ⟨⟨c2, d2, t2, s2⟩, n2, g2, k2, _, e2⟩, z2⟩ := I.list hb
  simp only at k1 e1 k2 e2
  subst k1 e1 k2 e2
  have hlen : its.length + its2.length ≤ sizeLine := by rw [← r1.length, ← r2.length]; exact hz
  refine concat_meets ⟨_, g1, rfl⟩ ⟨_, g2, rfl⟩ noFill_list_add seq_list_add PySem.F.slot_list_add PySem.F.entry_list_add (PySem.F.args_list_add_2 _ _) (list_addW l b its.toArray its2.toArray n1 n2 d1 d2 s1 s2 (by simpa using hlen)) ⟨g1, g2, ?_⟩
  rw [show its.toArray ++ its2.toArray = (its ++ its2).toArray by simp]
  exact ⟨.ref _, _, I.lnew (t' := s.toks) (r1.append r2) (by rw [List.length_append]; omega), rfl, q _ I.fresh⟩
def vAddLst : POp2 := fun h a b => match seqL h a, seqL h b with
  | some l, some m => if decide (l.length + m.length ≤ szM) = true then some (.lst (l ++ m)) else none
  | _, _ => none
theorem VOp.addLst : VOp X (binaryOp .Add) vAddLst := by
  intro pins s σ H x y v u Q I rx ry hh
  obtain ⟨Z, μ, h, p, q, r, rh, rp, rq, ev, o⟩ := hh
  unfold vAddLst at ev
  split at ev
  · rename_i l m e1 e2
    split at ev
    · rename_i hc
      cases ev
      obtain ⟨a, xs, rfl, ta, ra⟩ := seqL_sq rh rp e1
      obtain ⟨b, ys, rfl, tb, rb⟩ := seqL_sq rh rq e2
      refine op_catL pins s σ H _ _ v u Q I rx ry ⟨a, b, xs, ys, rfl, rfl, ta, tb, ?_, fun p hp => ?_⟩
      · rw [ra.length, rb.length]; exact le_line (of_decide_eq_true hc)
      · exact o.new rh hp (.lst (.new (rh.fresh hp) (rh.freshZ hp)) ((ra.append rb).mono (.laid μ hp)))
    · cases ev
  · cases ev
def iAdd : POp2 := vInt yes2 fun i j => .int (i + j)
def vAdd : POp2 := vOr iAdd (vOr vAddStr (vOr vAddTup vAddLst))
theorem VOp.add : VOp X (binaryOp .Add) vAdd := (VOp.int0 op_add).or (VOp.addStr.or (VOp.addTup.or .addLst))
def vSub : POp2 := vInt yes2 fun i j => .int (i - j)
theorem VOp.sub : VOp X (binaryOp .Sub) vSub := .int0 op_sub
def cMul (i j : Int) : Bool := decide (-(2 ^ 64) < i ∧ i < 2 ^ 64) || decide (-(2 ^ 64) < j ∧ j < 2 ^ 64)
def vMul : POp2 := vInt cMul fun i j => .int (i * j)
theorem VOp.mul : VOp X (binaryOp .Mult) vMul := .int cMul (fun i j h => by
  unfold cMul at h
  simpa [CMul] using h) op_mul
def cDiv (_ j : Int) : Bool := decide (0 < j ∧ j < 1073741824)
def vDiv : POp2 := vInt cDiv fun i j => .int (i / j)
theorem VOp.div : VOp X (binaryOp .FloorDiv) vDiv := .int cDiv (fun i j h => of_decide_eq_true h) op_fdiv
def cMod (_ j : Int) : Bool := decide (0 < j)
def vMod : POp2 := vInt cMod fun i j => .int (i % j)
theorem VOp.mod : VOp X (binaryOp .Mod) vMod := .int cMod (fun i j h => of_decide_eq_true h) op_mod
def cPow (i j : Int) : Bool := decide (0 ≤ j ∧ j ≤ 1000000 ∧ i.natAbs < 2 ^ 64)
def vPow : POp2 := vInt cPow fun i j => .int (i ^ j.toNat)
theorem VOp.pow : VOp X (binaryOp .Pow) vPow := .int cPow (fun i j h => of_decide_eq_true h) op_pow
def vLt : POp2 := vInt yes2 fun i j => .bl (decide (i < j))
def vLe : POp2 := vInt yes2 fun i j => .bl (decide (i ≤ j))
def vGt : POp2 := vInt yes2 fun i j => .bl (decide (j < i))
def vGe : POp2 := vInt yes2 fun i j => .bl (decide (j ≤ i))
theorem VOp.lt : VOp X (compareOp .Lt) vLt := .intB op_lt
theorem VOp.le : VOp X (compareOp .LtE) vLe := .intB op_le
theorem VOp.gt : VOp X (compareOp .Gt) vGt := .intB op_gt
theorem VOp.ge : VOp X (compareOp .GtE) vGe := .intB op_ge
def vNeg : POp1 := fun _ a => match a with
  | .int i => some (.int (-i))
  | _ => none
theorem VUn.neg : VUn X (unaryOp .USub) vNeg := by
  intro pins s σ H x v Q I rx hh
  obtain ⟨Z, μ, h, p, r, rh, rp, ev, o⟩ := hh
  unfold vNeg at ev
  split at ev
  · rename_i i
    cases ev
    exact un_neg pins s σ H x v Q I rx ⟨i, rp.int_inv, o.val rh .int⟩
  · cases ev

/-! ### flat values -/
def flat? : AV → Option V
  | .non => some .non
  | .bl b => some (.bl b)
  | .int i => some (.int i)
  | .str s => some (.str ⟨s.toArray⟩)
  | _ => none
theorem flat_rv {C : Ctx} {μ : Mu} {H : Hp} {v : AV} {x w : V} (r : RV C μ H v x) (e : flat? v = some w) : x = w ∧ flatV w = true := by
  cases v with
  | non => cases e; exact ⟨r.non_inv, rfl⟩
  | bl b => cases e; exact ⟨r.bl_inv, rfl⟩
  | int b => cases e; exact ⟨r.int_inv, rfl⟩
  | str b => cases e; exact ⟨r.str_inv, rfl⟩
  | _ => cases e
def flats? : List AV → Option (List V)
  | [] => some []
  | v :: l => match flat? v, flats? l with
    | some x, some r => some (x :: r)
    | _, _ => none
theorem flats_rv {C : Ctx} {μ : Mu} {H : Hp} : ∀ {l : List AV} {xs ws : List V}, RVs C μ H l xs → flats? l = some ws → xs = ws ∧ ws.all flatV = true
  | [], xs, ws, r, e => by cases e; simp only [RVs] at r; exact ⟨r, rfl⟩
  | v :: l, xs, ws, r, e => by
    obtain ⟨x, t, rfl, r1, r2⟩ := r.inv
    unfold flats? at e
    split at e
    · rename_i y u e1 e2
      cases e
      obtain ⟨rfl, f1⟩ := flat_rv r1 e1
      obtain ⟨rfl, f2⟩ := flats_rv r2 e2
      exact ⟨rfl, by simp [f1, f2]⟩
    · cases e
/-- x in a list, a tuple of flat values -/
def vInSeq (neg : Bool) : POp2 := fun h a b => match flat? a, (match seqT b with | some l => some l | none => seqL h b) with
  | some x, some l => match flats? l with
    | some xs => some (.bl (if neg = true then !inV x xs else inV x xs))
    | none => none
  | _, _ => none
theorem vInSeq_of (neg : Bool) (ho : OpR X f (rIn X.K neg)) : VOp X f (vInSeq neg) := by
  intro pins s σ H x y v u Q I rx ry hh
  obtain ⟨Z, μ, h, p, q, r, rh, rp, rq, ev, o⟩ := hh
  unfold vInSeq at ev
  split at ev
  · rename_i w l e1 e2
    split at ev
    · rename_i ws e3
      cases ev
      obtain ⟨rfl, fx⟩ := flat_rv rp e1
      cases et : seqT q with
      | some m =>
        rw [et] at e2; cases e2
        obtain ⟨a, xs, rfl, ta, _, ra⟩ := seqT_sq rq et
        obtain ⟨rfl, fs⟩ := flats_rv ra e3
        exact ho pins s σ H _ _ v u Q I rx ry ⟨a, xs, rfl, .inr ta, fx, fs, o.val rh .bl⟩
      | none =>
        rw [et] at e2
        obtain ⟨a, xs, rfl, ta, ra⟩ := seqL_sq rh rq e2
        obtain ⟨rfl, fs⟩ := flats_rv ra e3
        exact ho pins s σ H _ _ v u Q I rx ry ⟨a, xs, rfl, .inl ta, fx, fs, o.val rh .bl⟩
    · cases ev
  · cases ev
/-- one sign in a text -/
def vInSign (neg : Bool) : POp2 := fun _ a b => match a, b with
  | .str [c], .str t => some (.bl (if neg = true then !decide (c ∈ t) else decide (c ∈ t)))
  | _, _ => none
theorem VOp.inSign : VOp X (compareOp .In) (vInSign false) := by
  intro pins s σ H x y v u Q I rx ry hh
  obtain ⟨Z, μ, h, p, q, r, rh, rp, rq, ev, o⟩ := hh
  unfold vInSign at ev
  split at ev
  · rename_i c t
    cases ev
    exact op_in_sign pins s σ H _ _ v u Q I rx ry ⟨c, _, rp.str_inv, rq.str_inv, o.val rh (by simp [RV])⟩
  · cases ev
theorem VOp.notInSign : VOp X (compareOp .NotIn) (vInSign true) := by
  intro pins s σ H x y v u Q I rx ry hh
  obtain ⟨Z, μ, h, p, q, r, rh, rp, rq, ev, o⟩ := hh
  unfold vInSign at ev
  split at ev
  · rename_i c t
    cases ev
    exact op_notIn_sign pins s σ H _ _ v u Q I rx ry ⟨c, _, rp.str_inv, rq.str_inv, o.val rh (by simp [RV])⟩
  · cases ev

/-! ### data -/
mutual
def AV.data : AV → Option PyData
  | .non => some .none
  | .bl b => some (.bool b)
  | .int i => some (.int i)
  | .str s => some (.str ⟨s.toArray⟩)
  | .tup l => (AV.datas l).map .tuple
  | .lst l => (AV.datas l).map .list
  | _ => none
def AV.datas : List AV → Option (List PyData)
  | [] => some []
  | v :: l => match AV.data v, AV.datas l with
    | some d, some r => some (d :: r)
    | _, _ => none
end
def dataH (h : AHeap) (v : AV) : Option PyData := match v.data with
  | some d => some d
  | none => match seqL h v with
    | some l => (AV.datas l).map .list
    | none => none
mutual
theorem data_dp {C : Ctx} {μ : Mu} {H : Hp} : ∀ {v : AV} {x : V} {d : PyData}, RV C μ H v x → v.data = some d → Dp C.K H x d
  | .non, x, d, r, e => by cases e; rw [r.non_inv]; exact .non
  | .bl b, x, d, r, e => by cases e; rw [r.bl_inv]; exact .bl b
  | .int b, x, d, r, e => by cases e; rw [r.int_inv]; exact .int b
  | .str b, x, d, r, e => by cases e; rw [r.str_inv]; exact .str _
  | .tup l, x, d, r, e => by
    obtain ⟨a, xs, rfl, t, q⟩ := r.tup_inv
    unfold AV.data at e
    cases ed : AV.datas l with
    | none => rw [ed] at e; cases e
    | some ds => rw [ed] at e; cases e; exact .tup t.sq (datas_dp q ed)
  | .lst l, x, d, r, e => by
    obtain ⟨a, xs, rfl, t, q⟩ := r.lst_inv
    unfold AV.data at e
    cases ed : AV.datas l with
    | none => rw [ed] at e; cases e
    | some ds => rw [ed] at e; cases e; exact .lst t.sq (datas_dp q ed)
  | .dct _ _, _, _, _, e => by simp [AV.data] at e
  | .ref _, _, _, _, e => by simp [AV.data] at e
  | .ty _, _, _, _, e => by simp [AV.data] at e
  | .gl _, _, _, _, e => by simp [AV.data] at e
theorem datas_dp {C : Ctx} {μ : Mu} {H : Hp} : ∀ {l : List AV} {xs : List V} {ds : List PyData}, RVs C μ H l xs → AV.datas l = some ds → DpAll C.K H xs ds
  | [], xs, ds, r, e => by
    simp only [RVs] at r; subst r
    simp only [AV.datas, Option.some.injEq] at e; subst e; exact .nil
  | v :: l, xs, ds, r, e => by
    obtain ⟨x, t, rfl, r1, r2⟩ := r.inv
    unfold AV.datas at e
    split at e
    · rename_i d ds' e1 e2
      cases e
      exact .cons (data_dp r1 e1) (datas_dp r2 e2)
    · cases e
end
theorem dataH_dp {C : Ctx} {μ : Mu} {H : Hp} {h : AHeap} {v : AV} {x : V} {d : PyData} (rh : RepH C μ h H) (r : RV C μ H v x) (e : dataH h v = some d) : Dp C.K H x d := by
  unfold dataH at e
  split at e
  · rename_i d' e1
    cases e
    exact data_dp r e1
  · split at e
    · rename_i l e2
      obtain ⟨a, xs, rfl, t, q⟩ := seqL_sq rh r e2
      cases ed : AV.datas l with
      | none => rw [ed] at e; cases e
      | some ds => rw [ed] at e; cases e; exact .lst t (datas_dp q ed)
    · cases e
def vEqFlat (neg : Bool) : POp2 := fun _ a b => match flat? a, flat? b with
  | some x, some y => if scal x y = true then some (.bl (if neg = true then !decide (x = y) else decide (x = y))) else none
  | _, _ => none
def vEqData (neg : Bool) : POp2 := fun h a b => match dataH h a, dataH h b with
  | some d, some e => if (SeqAt.shaped d && SeqAt.shaped e) = true then some (.bl (if neg = true then !PyData.eqv d e else PyData.eqv d e)) else none
  | _, _ => none
theorem VOp.eqFlat : VOp X (compareOp .Eq) (vEqFlat false) := by
  intro pins s σ H x y v u Q I rx ry hh
  obtain ⟨Z, μ, h, p, q, r, rh, rp, rq, ev, o⟩ := hh
  unfold vEqFlat at ev
  split at ev
  · rename_i a b e1 e2
    obtain ⟨rfl, _⟩ := flat_rv rp e1
    obtain ⟨rfl, _⟩ := flat_rv rq e2
    split at ev
    · rename_i hc
      cases ev
      exact op_eq pins s σ H _ _ v u Q I rx ry ⟨hc, o.val rh .bl⟩
    · cases ev
  · cases ev
theorem VOp.neFlat : VOp X (compareOp .NotEq) (vEqFlat true) := by
  intro pins s σ H x y v u Q I rx ry hh
  obtain ⟨Z, μ, h, p, q, r, rh, rp, rq, ev, o⟩ := hh
  unfold vEqFlat at ev
  split at ev
  · rename_i a b e1 e2
    obtain ⟨rfl, _⟩ := flat_rv rp e1
    obtain ⟨rfl, _⟩ := flat_rv rq e2
    split at ev
    · rename_i hc
      cases ev
      exact op_ne pins s σ H _ _ v u Q I rx ry ⟨hc, o.val rh .bl⟩
    · cases ev
  · cases ev
theorem VOp.eqData (hu : X.A.units + 64 < cLine) : VOp X (compareOp .Eq) (vEqData false) := by
  intro pins s σ H x y v u Q I rx ry hh
  obtain ⟨Z, μ, h, p, q, r, rh, rp, rq, ev, o⟩ := hh
  unfold vEqData at ev
  split at ev
  · rename_i a b e1 e2
    split at ev
    · rename_i hc
      cases ev
      have hc := Bool.and_eq_true_iff.mp hc
      exact op_eqD hu pins s σ H _ _ v u Q I rx ry ⟨a, b, dataH_dp rh rp e1, dataH_dp rh rq e2, hc.1, hc.2, o.val rh .bl⟩
    · cases ev
  · cases ev
theorem VOp.neData (hu : X.A.units + 64 < cLine) : VOp X (compareOp .NotEq) (vEqData true) := by
  intro pins s σ H x y v u Q I rx ry hh
  obtain ⟨Z, μ, h, p, q, r, rh, rp, rq, ev, o⟩ := hh
  unfold vEqData at ev
  split at ev
  · rename_i a b e1 e2
    split at ev
    · rename_i hc
      cases ev
      have hc := Bool.and_eq_true_iff.mp hc
      exact op_neD hu pins s σ H _ _ v u Q I rx ry ⟨a, b, dataH_dp rh rp e1, dataH_dp rh rq e2, hc.1, hc.2, o.val rh .bl⟩
    · cases ev
  · cases ev
/-- x in a list, by data -/
def vInData (neg : Bool) : POp2 := fun h a b => match dataH h a, dataH h b with
  | some d, some (.list ds) => if (SeqAt.shaped d && SeqAt.shaped (.list ds)) = true then some (.bl (if neg = true then !ds.any fun z => PyData.eqv z d else ds.any fun z => PyData.eqv z d)) else none
  | _, _ => none
theorem VOp.inData (hu : X.A.units + 65 < cLine) : VOp X (compareOp .In) (vInData false) := by
  intro pins s σ H x y v u Q I rx ry hh
  obtain ⟨Z, μ, h, p, q, r, rh, rp, rq, ev, o⟩ := hh
  unfold vInData at ev
  split at ev
  · rename_i a b e1 e2
    split at ev
    · rename_i hc
      cases ev
      have hc := Bool.and_eq_true_iff.mp hc
      exact op_inD hu pins s σ H _ _ v u Q I rx ry ⟨a, b, dataH_dp rh rp e1, dataH_dp rh rq e2, hc.1, hc.2, o.val rh .bl⟩
    · cases ev
  · cases ev
theorem VOp.notInData (hu : X.A.units + 65 < cLine) : VOp X (compareOp .NotIn) (vInData true) := by
  intro pins s σ H x y v u Q I rx ry hh
  obtain ⟨Z, μ, h, p, q, r, rh, rp, rq, ev, o⟩ := hh
  unfold vInData at ev
  split at ev
  · rename_i a b e1 e2
    split at ev
    · rename_i hc
      cases ev
      have hc := Bool.and_eq_true_iff.mp hc
      exact op_notInD hu pins s σ H _ _ v u Q I rx ry ⟨a, b, dataH_dp rh rp e1, dataH_dp rh rq e2, hc.1, hc.2, o.val rh .bl⟩
    · cases ev
  · cases ev
def vEq : POp2 := vOr (vEqFlat false) (vEqData false)
def vNe : POp2 := vOr (vEqFlat true) (vEqData true)
def vIn : POp2 := vOr (vInSeq false) (vOr (vInSign false) (vInData false))
def vNotIn : POp2 := vOr (vInSeq true) (vOr (vInSign true) (vInData true))
theorem VOp.eq (hu : X.A.units + 64 < cLine) : VOp X (compareOp .Eq) vEq := VOp.eqFlat.or (.eqData hu)
theorem VOp.ne (hu : X.A.units + 64 < cLine) : VOp X (compareOp .NotEq) vNe := VOp.neFlat.or (.neData hu)
theorem VOp.in_ (hu : X.A.units + 65 < cLine) : VOp X (compareOp .In) vIn := (vInSeq_of false op_in_seq).or (VOp.inSign.or (.inData hu))
theorem VOp.notIn (hu : X.A.units + 65 < cLine) : VOp X (compareOp .NotIn) vNotIn := (vInSeq_of true op_notIn_seq).or (VOp.notInSign.or (.notInData hu))
def vIs (neg : Bool) : POp2 := fun _ a b => match b with
  | .non => match a with
    | .non => some (.bl (!neg))
    | .ty _ => none
    | .gl _ => none
    | _ => some (.bl neg)
  | _ => none
theorem vIs_rv {C : Ctx} {μ : Mu} {H : Hp} {h : AHeap} {p q r : AV} {x y : V} {neg : Bool} (rp : RV C μ H p x) (rq : RV C μ H q y) (e : vIs neg h p q = some r) : y = .non ∧ r = .bl (if neg = true then !decide (x = .non) else decide (x = .non)) := by
  cases q with
  | non =>
    refine ⟨rq.non_inv, ?_⟩
    cases p with
    | non => rw [rp.non_inv]; cases e; cases neg <;> simp
    | bl _ => rw [rp.bl_inv]; cases e; cases neg <;> simp
    | int _ => rw [rp.int_inv]; cases e; cases neg <;> simp
    | str _ => rw [rp.str_inv]; cases e; cases neg <;> simp
    | tup _ => obtain ⟨_, _, rfl, _⟩ := rp.tup_inv; cases e; cases neg <;> simp
    | lst _ => obtain ⟨_, _, rfl, _⟩ := rp.lst_inv; cases e; cases neg <;> simp
    | dct _ _ => obtain ⟨_, _, rfl, _⟩ := rp.dct_inv; cases e; cases neg <;> simp
    | ref _ => obtain ⟨_, rfl, _⟩ := rp.ref_inv; cases e; cases neg <;> simp
    | ty _ => cases e
    | gl _ => cases e
  | _ => cases e
theorem VOp.is_ : VOp X (compareOp .Is) (vIs false) := by
  intro pins s σ H x y v u Q I rx ry hh
  obtain ⟨Z, μ, h, p, q, r, rh, rp, rq, ev, o⟩ := hh
  obtain ⟨rfl, rfl⟩ := vIs_rv rp rq ev
  exact op_isN pins s σ H _ _ v u Q I rx ry ⟨rfl, o.val rh .bl⟩
theorem VOp.isNot : VOp X (compareOp .IsNot) (vIs true) := by
  intro pins s σ H x y v u Q I rx ry hh
  obtain ⟨Z, μ, h, p, q, r, rh, rp, rq, ev, o⟩ := hh
  obtain ⟨rfl, rfl⟩ := vIs_rv rp rq ev
  exact op_notN pins s σ H _ _ v u Q I rx ry ⟨rfl, o.val rh .bl⟩
end
end AI
namespace AI
open PySem PySem.Spec PyProof.Rows
open L2

/-! ### calls of built-ins: what comes is outside the abstract heap -/
abbrev PFn := AHeap → List AV → Option AV
def rAC (X : Cx) (op : PFn) : List V → Hp → VK → Prop := fun xs H Q => ∃ Z μ h l v, RepH (cc X Z) μ h H ∧ RVs (cc X Z) μ H l xs ∧ op h l = some v ∧ Out (cc X Z) μ H h v Q
def VCall (X : Cx) (f : Value) (op : PFn) : Prop := CallR X f (rAC X op)
def aFn (op : PFn) (fa : AA) : AE := fun ρ h => (fa ρ h).bind fun l h1 => lift1 (op h1 l) h1
section
variable {X : Cx} {W : WX} {pos p : Pos} {x : Str} {e : Expr} {es : List Expr} {fa : AA} {fe fb : AE} {op op' : PFn} {id T : String} {f : Value}
theorem fn_of {σ : L2.St} {H : Hp} {Q : VK} (h : tD X W (aFn op fa) σ H Q) : tCB (rAC X op) (tDA X W fa) σ H Q := by
  obtain ⟨Z, μ, ρ, h, rh, re, pp⟩ := h
  refine tDA.seq rh re pp fun μ1 H1 h1 l xs e1 rh1 re1 rl p1 => ?_
  obtain ⟨v, ev, o⟩ := Out.of p1
  exact ⟨Z, μ1, h1, l, v, rh1, rl, ev, o⟩
theorem DE.fnB (hc : VCall X (.builtin id) op) (hg : Gl X x) (hm : X.mg x = none) (hv : bootBuiltins x = some (.builtin id)) (ha : DA X W (e :: es) fa) (hn : x ≠ "__name__" := by decide) (hdb : (x == ("__debug__" : Str)) = false := by decide)
    (he : starEach (e :: es) X.env = (false, eval e X.env) :: starEach es X.env := by rfl) (hpl : (backTo pos (starEach es X.env)).any (·.1) = false := by rfl) : DE X W (.Call (.Name x p) (e :: es) [] pos) (aFn op fa) :=
  ⟨PE.wk (pe_callB hc hg hm hv ha.pa hn hdb he hpl) fun σ H Q h => fn_of h⟩
theorem DE.fnT (hc : VCall X (.type T) op) (hg : Gl X x) (hm : X.mg x = none) (hv : bootBuiltins x = some (.type T)) (ha : DA X W (e :: es) fa) (hn : x ≠ "__name__" := by decide) (hdb : (x == ("__debug__" : Str)) = false := by decide)
    (he : starEach (e :: es) X.env = (false, eval e X.env) :: starEach es X.env := by rfl) (hpl : (backTo pos (starEach es X.env)).any (·.1) = false := by rfl) : DE X W (.Call (.Name x p) (e :: es) [] pos) (aFn op fa) :=
  ⟨PE.wk (pe_callTy hc hg hm hv ha.pa hn hdb he hpl) fun σ H Q h => fn_of h⟩
def cOr (f g : PFn) : PFn := fun h a => match f h a with
  | some v => some v
  | none => g h a
theorem VCall.or (a : VCall X f op) (b : VCall X f op') : VCall X f (cOr op op') := by
  intro pins s σ H xs us Q I r hh
  obtain ⟨Z, μ, h, l, v, rh, rl, ev, o⟩ := hh
  unfold cOr at ev
  cases e : op h l with
  | some w =>
    rw [e] at ev; cases ev
    exact a pins s σ H xs us Q I r ⟨Z, μ, h, l, _, rh, rl, e, o⟩
  | none =>
    rw [e] at ev
    exact b pins s σ H xs us Q I r ⟨Z, μ, h, l, v, rh, rl, ev, o⟩
theorem RVs.one {C : Ctx} {μ : Mu} {H : Hp} {a : AV} {xs : List V} (r : RVs C μ H [a] xs) : ∃ x, xs = [x] ∧ RV C μ H a x := by
  obtain ⟨x, t, rfl, r1, r2⟩ := r.inv
  simp only [RVs] at r2; subst r2
  exact ⟨x, rfl, r1⟩
theorem RVs.two {C : Ctx} {μ : Mu} {H : Hp} {a b : AV} {xs : List V} (r : RVs C μ H [a, b] xs) : ∃ x y, xs = [x, y] ∧ RV C μ H a x ∧ RV C μ H b y := by
  obtain ⟨x, t, rfl, r1, r2⟩ := r.inv
  obtain ⟨y, rfl, r3⟩ := r2.one
  exact ⟨x, y, rfl, r1, r3⟩
/-- len -/
def vLen : PFn := fun h l => match l with
  | [.str s] => if decide (s.length ≤ szM) = true then some (.int s.length) else none
  | [.tup m] => some (.int m.length)
  | [v] => match seqL h v with
    | some m => some (.int m.length)
    | none => none
  | _ => none
theorem VCall.len : VCall X (.builtin "len") vLen := by
  intro pins s σ H xs us Q I r hh
  obtain ⟨Z, μ, h, l, v, rh, rl, ev, o⟩ := hh
  unfold vLen at ev
  split at ev
  · rename_i t
    obtain ⟨x, rfl, rx⟩ := rl.one
    split at ev
    · rename_i hc
      cases ev
      have hc := le_line (of_decide_eq_true hc)
      refine call_len pins s σ H _ us Q I r ⟨x, t.length, rfl, ?_, o.val rh .int⟩
      rw [rx.str_inv]
      exact ⟨by simpa [PySem.Str.length] using hc, by simp [PySem.Str.length]⟩
    · cases ev
  · rename_i m
    cases ev
    obtain ⟨x, rfl, rx⟩ := rl.one
    obtain ⟨a, ys, rfl, t, q⟩ := rx.tup_inv
    exact call_len pins s σ H _ us Q I r ⟨_, m.length, rfl, .inr ⟨ys, t.sq, q.length.symm⟩, o.val rh .int⟩
  · rename_i v' _ _
    obtain ⟨x, rfl, rx⟩ := rl.one
    split at ev
    · rename_i m em
      cases ev
      obtain ⟨a, ys, rfl, t, q⟩ := seqL_sq rh rx em
      exact call_len pins s σ H _ us Q I r ⟨_, m.length, rfl, .inl ⟨ys, t, q.length.symm⟩, o.val rh .int⟩
    · cases ev
  · cases ev
def vAbs : PFn := fun _ l => match l with
  | [.int i] => some (.int (if i < 0 then -i else i))
  | _ => none
theorem VCall.abs : VCall X (.builtin "abs") vAbs := by
  intro pins s σ H xs us Q I r hh
  obtain ⟨Z, μ, h, l, v, rh, rl, ev, o⟩ := hh
  unfold vAbs at ev
  split at ev
  · rename_i i
    cases ev
    obtain ⟨x, rfl, rx⟩ := rl.one
    exact call_abs pins s σ H _ us Q I r ⟨i, by rw [rx.int_inv], o.val rh .int⟩
  · cases ev
def vMax : PFn := fun _ l => match l with
  | [.int i, .int j] => some (.int (if j > i then j else i))
  | _ => none
def vMin : PFn := fun _ l => match l with
  | [.int i, .int j] => some (.int (if j < i then j else i))
  | _ => none
theorem VCall.max (hc : X.calm = true) : VCall X (.builtin "max") vMax := by
  intro pins s σ H xs us Q I r hh
  obtain ⟨Z, μ, h, l, v, rh, rl, ev, o⟩ := hh
  unfold vMax at ev
  split at ev
  · rename_i i j
    cases ev
    obtain ⟨x, y, rfl, rx, ry⟩ := rl.two
    exact call_max2 hc pins s σ H _ us Q I r ⟨i, j, by rw [rx.int_inv, ry.int_inv], o.val rh .int⟩
  · cases ev
theorem VCall.min (hc : X.calm = true) : VCall X (.builtin "min") vMin := by
  intro pins s σ H xs us Q I r hh
  obtain ⟨Z, μ, h, l, v, rh, rl, ev, o⟩ := hh
  unfold vMin at ev
  split at ev
  · rename_i i j
    cases ev
    obtain ⟨x, y, rfl, rx, ry⟩ := rl.two
    exact call_min2 hc pins s σ H _ us Q I r ⟨i, j, by rw [rx.int_inv, ry.int_inv], o.val rh .int⟩
  · cases ev
def vDivmod : PFn := fun _ l => match l with
  | [.int i, .int j] => if cDiv i j = true then some (.tup [.int (i / j), .int (i % j)]) else none
  | _ => none
theorem VCall.divmod : VCall X (.builtin "divmod") vDivmod := by
  intro pins s σ H xs us Q I r hh
  obtain ⟨Z, μ, h, l, v, rh, rl, ev, o⟩ := hh
  unfold vDivmod at ev
  split at ev
  · rename_i i j
    split at ev
    · rename_i hc
      cases ev
      obtain ⟨x, y, rfl, rx, ry⟩ := rl.two
      refine call_divmod pins s σ H _ us Q I r ⟨i, j, by rw [rx.int_inv, ry.int_inv], (by unfold cDiv at hc; simpa [CDiv] using hc), fun p hp => ?_⟩
      exact o.new rh hp (.tup (.new (rh.fresh hp)) (.cons .int (.cons .int .nil)))
    · cases ev
  · cases ev
def vTuple : PFn := fun h l => match l with
  | [.tup m] => some (.tup m)
  | [v] => match seqL h v with
    | some m => some (.tup m)
    | none => none
  | _ => none
theorem VCall.tuple : VCall X (.type "tuple") vTuple := by
  intro pins s σ H xs us Q I r hh
  obtain ⟨Z, μ, h, l, v, rh, rl, ev, o⟩ := hh
  unfold vTuple at ev
  split at ev
  · rename_i m
    cases ev
    obtain ⟨x, rfl, rx⟩ := rl.one
    obtain ⟨a, ys, rfl, t, q⟩ := rx.tup_inv
    exact call_tuple_of pins s σ H _ us Q I r ⟨a, ys, rfl, .inr ⟨t.sq, o.val rh (.tup t q)⟩⟩
  · obtain ⟨x, rfl, rx⟩ := rl.one
    split at ev
    · rename_i m em
      cases ev
      obtain ⟨a, ys, rfl, t, q⟩ := seqL_sq rh rx em
      exact call_tuple_of pins s σ H _ us Q I r ⟨a, ys, rfl, .inl ⟨t, fun p hp => o.new rh hp (.tup (.new (rh.fresh hp)) (q.mono (.laid μ hp)))⟩⟩
    · cases ev
  · cases ev
def bools? : List AV → Option (List Bool)
  | [] => some []
  | .bl b :: l => (bools? l).map (b :: ·)
  | _ => none
theorem bools_rv {C : Ctx} {μ : Mu} {H : Hp} : ∀ {l : List AV} {xs : List V} {bs : List Bool}, RVs C μ H l xs → bools? l = some bs → xs = bs.map V.bl
  | [], xs, bs, r, e => by cases e; simp only [RVs] at r; rw [r]; rfl
  | v :: l, xs, bs, r, e => by
    obtain ⟨x, t, rfl, r1, r2⟩ := r.inv
    cases v with
    | bl b =>
      unfold bools? at e
      cases eb : bools? l with
      | none => rw [eb] at e; cases e
      | some q => rw [eb] at e; cases e; rw [bools_rv r2 eb, r1.bl_inv]; rfl
    | _ => cases e
def vAll : PFn := fun h l => match l with
  | [v] => match seqL h v with
    | some m => (bools? m).map fun bs => .bl (bs.all _root_.id)
    | none => none
  | _ => none
def vAny : PFn := fun h l => match l with
  | [v] => match seqL h v with
    | some m => (bools? m).map fun bs => .bl (bs.any _root_.id)
    | none => none
  | _ => none
theorem VCall.all (hc : X.calm = true) : VCall X (.builtin "all") vAll := by
  intro pins s σ H xs us Q I r hh
  obtain ⟨Z, μ, h, l, v, rh, rl, ev, o⟩ := hh
  unfold vAll at ev
  split at ev
  · obtain ⟨x, rfl, rx⟩ := rl.one
    split at ev
    · rename_i m em
      obtain ⟨a, ys, rfl, t, q⟩ := seqL_sq rh rx em
      cases eb : bools? m with
      | none => rw [eb] at ev; cases ev
      | some bs =>
        rw [eb] at ev; cases ev
        have := bools_rv q eb
        subst this
        exact cr_all hc pins s σ H _ us Q I r ⟨a, bs, rfl, t, o.val rh .bl⟩
    · cases ev
  · cases ev
theorem VCall.any (hc : X.calm = true) : VCall X (.builtin "any") vAny := by
  intro pins s σ H xs us Q I r hh
  obtain ⟨Z, μ, h, l, v, rh, rl, ev, o⟩ := hh
  unfold vAny at ev
  split at ev
  · obtain ⟨x, rfl, rx⟩ := rl.one
    split at ev
    · rename_i m em
      obtain ⟨a, ys, rfl, t, q⟩ := seqL_sq rh rx em
      cases eb : bools? m with
      | none => rw [eb] at ev; cases ev
      | some bs =>
        rw [eb] at ev; cases ev
        have := bools_rv q eb
        subst this
        exact cr_any hc pins s σ H _ us Q I r ⟨a, bs, rfl, t, o.val rh .bl⟩
    · cases ev
  · cases ev

/-! ### isinstance -/
def isT (a b : Tag) : Bool := decide (a = b) || (decide (a = .bl) && decide (b = .int))
theorem isT_ok (a b : Tag) (hb : b ≠ .non) : kitB a.nm b.nm = some (isT a b) := by
  cases b <;> first | exact absurd rfl hb | (cases a <;> decide +kernel)
def tagOf (h : AHeap) : AV → Option Tag
  | .non => some .non
  | .bl _ => some .bl
  | .int _ => some .int
  | .str _ => some .str
  | .tup _ => some .tup
  | .lst _ => some .lst
  | .dct _ _ => some .dct
  | .ref n => match h[n]? with
    | some (.list _) => some .lst
    | none => none
  | _ => none
theorem Rd.tyL {K : PySem.W.Frag} {H : Hp} {a : Addr} {xs : List V} (h : Rd H a (.lst xs)) : TyX K H (.ref a) (.type "list") := by
  rcases h with h | ⟨o, h⟩
  · exact .base (.lst h)
  · exact .base (.frz h)
theorem tag_ty {C : Ctx} {μ : Mu} {H : Hp} {h : AHeap} {v : AV} {x : V} {t : Tag} (rh : RepH C μ h H) (r : RV C μ H v x) (e : tagOf h v = some t) : TyX C.K H x (.type t.nm) := by
  cases v with
  | non => cases e; rw [r.non_inv]; exact .base .non
  | bl b => cases e; rw [r.bl_inv]; exact .base (.bl b)
  | int b => cases e; rw [r.int_inv]; exact .base (.int b)
  | str b => cases e; rw [r.str_inv]; exact .base (.str _)
  | tup l =>
    cases e
    obtain ⟨a, xs, rfl, t, q⟩ := r.tup_inv
    rcases t with ⟨_, h1 | ⟨o, h1⟩⟩ | ⟨o, its, n, h1, h2, _⟩
    · exact .base (.tup h1)
    · exact .fTuple h1
    · exact .kTuple h1 h2
  | lst l =>
    cases e
    obtain ⟨a, xs, rfl, t, q⟩ := r.lst_inv
    rcases t with t | ⟨o, its, n, h1, h2, _⟩
    · exact Rd.tyL t.2.2
    · exact .kList h1 h2
  | dct ks l =>
    cases e
    obtain ⟨a, xs, rfl, t, q⟩ := r.dct_inv
    exact .base (.dK t.2.2.2)
  | ref n =>
    obtain ⟨a, rfl, ha⟩ := r.ref_inv
    unfold tagOf at e
    dsimp only at e
    split at e
    · rename_i l hl
      cases e
      obtain ⟨xs, e1, _⟩ := rh.obj n _ a hl ha
      exact .base (.lst e1)
    · cases e
  | _ => cases e
def vIsi : PFn := fun h l => match l with
  | [v, .ty t] => if t = .non then none else match tagOf h v with
    | some a => some (.bl (isT a t))
    | none => none
  | _ => none
theorem VCall.isi : VCall X (.builtin "isinstance") vIsi := by
  intro pins s σ H xs us Q I r hh
  obtain ⟨Z, μ, h, l, v, rh, rl, ev, o⟩ := hh
  unfold vIsi at ev
  split at ev
  · rename_i w t
    obtain ⟨x, y, rfl, rx, ry⟩ := rl.two
    split at ev
    · cases ev
    · rename_i ht
      split at ev
      · rename_i a ea
        cases ev
        refine call_isi pins s σ H _ us Q I r ⟨x, _, _, _, isT a t, rfl, ?_, tag_ty rh rx ea, kit_ty (isT_ok a t ht), o.val rh .bl⟩
        rw [ry.ty_inv]
        exact .ty _
      · cases ev
  · cases ev

/-! ### subscripts -/
theorem atI_rv {C : Ctx} {μ : Mu} {H : Hp} {l : List AV} {xs : List V} {i : Int} {v : AV} (r : RVs C μ H l xs) (e : atI l i = some v) : ∃ x, atI xs i = some x ∧ RV C μ H v x := by
  unfold atI at e ⊢
  rw [r.length]
  cases q : ixN l.length i with
  | none => rw [q] at e; cases e
  | some j =>
    rw [q] at e
    exact r.get e
def vIx : POp2 := fun h a b => match b with
  | .int i => match a with
    | .tup l => atI l i
    | .str s => if decide (s.length ≤ szM) = true then (atI s i).map fun c => .str [c] else none
    | v => match seqL h v with
      | some l => atI l i
      | none => none
  | _ => none
def VIx (X : Cx) (op : POp2) : Prop := IxR X (rA X op)
theorem VIx.seq : VIx X vIx := by
  intro value slice pins s σ H x y v u Q I rx ry hh hs
  obtain ⟨Z, μ, h, p, q, r, rh, rp, rq, ev, o⟩ := hh
  refine ix_seq value slice pins s σ H x y v u Q I rx ry ?_ hs
  unfold vIx at ev
  split at ev
  · rename_i i
    split at ev
    · rename_i l
      obtain ⟨a, xs, rfl, t, rl⟩ := rp.tup_inv
      obtain ⟨z, e1, rz⟩ := atI_rv rl ev
      exact .inr (.inl ⟨a, xs, i, z, rfl, rq.int_inv, t.sq, e1, o.val rh rz⟩)
    · rename_i t
      split at ev
      · rename_i hc
        cases ec : atI t i with
        | none => rw [ec] at ev; cases ev
        | some c =>
          rw [ec] at ev; cases ev
          have hc := le_line (of_decide_eq_true hc)
          refine .inr (.inr ⟨_, i, c, rp.str_inv, rq.int_inv, by simpa [PySem.Str.length] using hc, by simpa using ec, o.val rh (by simp [RV])⟩)
      · cases ev
    · split at ev
      · rename_i l el
        obtain ⟨a, xs, rfl, t, rl⟩ := seqL_sq rh rp el
        obtain ⟨z, e1, rz⟩ := atI_rv rl ev
        exact .inl ⟨a, xs, i, z, rfl, rq.int_inv, t, e1, o.val rh rz⟩
      · cases ev
  · cases ev
theorem DE.ix {a b : Expr} {f g : AE} (ha : DE X W a f) (hb : DE X W b g) (hs : PlainIx b := by intro _ _; rfl) : DE X W (.Subscript a b pos) (aBin vIx f g) :=
  ⟨PE.wk (pe_ix VIx.seq ha.pe hb.pe hs) fun σ H Q h => tOp_of h⟩
abbrev AO1 := AEnv → AHeap → Res (Option Int)
def tDO (X : Cx) (W : WX) (f : AO1) : TO := fun σ H Q => ∃ Z μ ρ h, RepH (cc X Z) μ h H ∧ RepE (cc X Z) μ H ρ σ ∧ Post (cc X Z) μ H (fun c d H' => W c d σ H') (fun _ H' _ b => Q b H') (f ρ h)
structure DO (X : Cx) (W : WX) (e : Option Expr) (f : AO1) : Prop where
  po : PO X e (tDO X W f)
def aoN : AO1 := fun _ h => .ok none h
def aoS (f : AE) : AO1 := fun ρ h => (f ρ h).bind fun v h1 => match v with
  | .int i => .ok (some i) h1
  | _ => .bad
theorem PO.wk {e : Option Expr} {t t' : TO} (h : PO X e t) (k : ∀ σ H Q, t' σ H Q → t σ H Q) : PO X e t' := ⟨fun pins s σ H Q I hw => h.run pins s σ H Q I (k σ H Q hw)⟩
theorem DO.none : DO X W none aoN := ⟨PO.wk po_none fun σ H Q ⟨Z, μ, ρ, h, rh, re, p⟩ => Post.fin (a := (Option.none : Option Int)) p rh⟩
theorem DO.some {e : Expr} {f : AE} (h : DE X W e f) : DO X W (some e) (aoS f) := by
  refine ⟨PO.wk (po_some h.pe) fun σ H Q h => ?_⟩
  obtain ⟨Z, μ, ρ, h, rh, re, p⟩ := h
  refine tD.seq rh re p fun μ1 H1 h1 v x e1 rh1 re1 rv p1 => ?_
  cases v with
  | int i => exact ⟨i, rv.int_inv, p1.fin rh1⟩
  | _ => exact (show False from p1).elim
theorem tDO.seq {Z : List Addr} {σ : L2.St} {H : Hp} {μ : Mu} {ρ : AEnv} {h : AHeap} {β : Type} {R : Mu → Hp → AHeap → β → Prop} {f : AO1} {k : Option Int → AHeap → Res β} {Y : Option Int → Hp → Prop} (rh : RepH (cc X Z) μ h H) (re : RepE (cc X Z) μ H ρ σ) (p : Post (cc X Z) μ H (fun c d H' => W c d σ H') R ((f ρ h).bind k))
    (hY : ∀ μ1 H1 h1 v, Ext μ H μ1 H1 → RepH (cc X Z) μ1 h1 H1 → RepE (cc X Z) μ1 H1 ρ σ → Post (cc X Z) μ1 H1 (fun c d H' => W c d σ H') R (k v h1) → Y v H1) : tDO X W f σ H Y :=
  ⟨Z, μ, ρ, h, rh, re, p.bind.mono fun μ1 H1 h1 v e r q => hY μ1 H1 h1 v e r (re.mono e) q⟩
def cutL {α : Type} (l : List α) (lo hi : Option Int) : List α := (l.drop (HT.sIx l.length 0 lo)).take (HT.sIx l.length l.length hi - HT.sIx l.length 0 lo)
theorem cutL_rv {C : Ctx} {μ : Mu} {H : Hp} {l : List AV} {xs : List V} (r : RVs C μ H l xs) (lo hi : Option Int) : RVs C μ H (cutL l lo hi) (cutV xs lo hi) := by
  unfold cutL cutV
  rw [r.length]
  exact (r.drop _).take _
def vSl (h : AHeap) (a : AV) (lo hi : Option Int) : Option AV := match a with
  | .str s => if decide (s.length ≤ szM) = true then some (.str (cutL s lo hi)) else none
  | .tup l => some (.tup (cutL l lo hi))
  | v => match seqL h v with
    | some l => some (.lst (cutL l lo hi))
    | none => none
def aSl (f : AE) (lo hi : AO1) : AE := fun ρ h => (f ρ h).bind fun a h1 => (lo ρ h1).bind fun l h2 => (hi ρ h2).bind fun u h3 => lift1 (vSl h3 a l u) h3
theorem cutL_all {α : Type} {l : List α} {lo hi : Option Int} (h0 : HT.sIx l.length 0 lo = 0) (h1 : HT.sIx l.length l.length hi = l.length) : cutL l lo hi = l := by
  unfold cutL; rw [h0, h1]; simp
theorem DE.slice {e : Expr} {lo hi : Option Expr} {p2 : Pos} {f : AE} {fl fh : AO1} (he : DE X W e f) (hl : DO X W lo fl) (hh : DO X W hi fh) : DE X W (.Subscript e (.Slice lo hi none p2) pos) (aSl f fl fh) := by
  refine ⟨PE.wk (pe_slice (sl_str.or ((sl_tupA (X := X)).or sl_list)) he.pe hl.po hh.po) fun σ H Q h => ?_⟩
  obtain ⟨Z, μ, ρ, h, rh, re, p⟩ := h
  refine tD.seq rh re p fun μ1 H1 h1 a x e1 rh1 re1 ra p1 => ?_
  refine tDO.seq rh1 re1 p1 fun μ2 H2 h2 l e2 rh2 re2 p2 => ?_
  refine tDO.seq rh2 re2 p2 fun μ3 H3 h3 u e3 rh3 re3 p3 => ?_
  have rb := (ra.mono e2).mono e3
  clear ra
  obtain ⟨v, ev, o⟩ := Out.of p3
  unfold vSl at ev
  split at ev
  · rename_i t
    split at ev
    · rename_i hc
      cases ev
      have hc := le_line (of_decide_eq_true hc)
      refine .inl ⟨_, rb.str_inv, by simpa [PySem.Str.length] using hc, o.val rh3 ?_⟩
      have e : cutS ⟨t.toArray⟩ l u = ⟨(cutL t l u).toArray⟩ := by
        unfold cutS cutL
        simp [PySem.Str.length]
      rw [e]; exact .str
    · cases ev
  · rename_i m
    cases ev
    obtain ⟨a, xs, rfl, t, q⟩ := rb.tup_inv
    refine .inr (.inl ⟨a, xs, rfl, t.sq, fun ⟨z1, z2⟩ => o.val rh3 ?_, fun _ p hp => o.new rh3 hp (.tup (.new (rh3.fresh hp)) ((cutL_rv q l u).mono (.laid μ3 hp)))⟩)
    rw [q.length] at z1 z2
    rw [cutL_all z1 z2]
    exact .tup t q
  · split at ev
    · rename_i m em
      cases ev
      obtain ⟨a, xs, rfl, t, q⟩ := seqL_sq rh3 rb em
      exact .inr (.inr ⟨a, xs, rfl, t, fun p hp => o.new rh3 hp (.lst (.new (rh3.fresh hp) (rh3.freshZ hp)) ((cutL_rv q l u).mono (.laid μ3 hp)))⟩)
    · cases ev

/-! ### methods of texts -/
abbrev PMs := List Nat → AHeap → List AV → Option AV
def aMethS (op : PMs) (fo : AE) (fa : AA) : AE := fun ρ h => (fo ρ h).bind fun o h1 => match o with
  | .str s => (fa ρ h1).bind fun l h2 => lift1 (op s h2 l) h2
  | _ => .bad
def rAMs (X : Cx) (op : PMs) : V → List V → Hp → VK → Prop := fun x xs H Q => ∃ Z μ h s l v, x = .str ⟨s.toArray⟩ ∧ RepH (cc X Z) μ h H ∧ RVs (cc X Z) μ H l xs ∧ op s h l = some v ∧ Out (cc X Z) μ H h v Q
def VMs (X : Cx) (id : String) (op : PMs) : Prop := MtR X id (rAMs X op)
theorem DE.methS {o : Expr} {name : Str} {apos : Pos} {op : PMs} {fo : AE} (slot : Slot "str" name id) (hty : typeOf (.builtin id) = pure (.type "method_descriptor")) (hm : VMs X id op) (ho : DE X W o fo) (ha : DA X W (e :: es) fa)
    (hbase : attributeBase o name X.env (eval o X.env) = eval o X.env := by rfl)
    (hfew : ((backTo pos (starEach (e :: es) X.env)).all (fun x => !x.1) && (backToKw pos (keywordEach [] X.env)).all (fun x => x.1.isSome)
      && decide ((e :: es).length + ([] : List Keyword).length + (if ([] : List Keyword).isEmpty then 0 else 1) < 30)) = true := by rfl)
    (hline : (apos.endLine == pos.line) = true := by rfl) (hs : starEach (e :: es) X.env = (false, eval e X.env) :: starEach es X.env := by rfl) (hplain : (backTo pos (starEach es X.env)).any (·.1) = false := by rfl) :
    DE X W (.Call (.Attribute o name apos) (e :: es) [] pos) (aMethS op fo fa) := by
  refine ⟨PE.wk (pe_bm PySem.F.plainAttrs_str slot hty hm ho.pe ha.pa hbase hfew hline hs hplain) fun σ H Q h => ?_⟩
  obtain ⟨Z, μ, ρ, h, rh, re, p⟩ := h
  refine tD.seq rh re p fun μ1 H1 h1 v x e1 rh1 re1 rv p1 => ?_
  cases v with
  | str s =>
    have := rv.str_inv
    subst this
    refine ⟨rfl, tDA.seq rh1 re1 p1 fun μ2 H2 h2 l xs e2 rh2 re2 rl p2 => ?_⟩
    obtain ⟨w, ew, ow⟩ := Out.of p2
    exact ⟨Z, μ2, h2, s, l, w, rfl, rh2, rl, ew, ow⟩
  | _ => exact (show False from p1).elim
abbrev sOf (s : List Nat) : Str := ⟨s.toArray⟩
def strs? : List AV → Option (List Str)
  | [] => some []
  | .str s :: l => (strs? l).map (sOf s :: ·)
  | _ => none
theorem strs_rv {C : Ctx} {μ : Mu} {H : Hp} : ∀ {l : List AV} {xs : List V} {bs : List Str}, RVs C μ H l xs → strs? l = some bs → xs = bs.map V.str
  | [], xs, bs, r, e => by cases e; simp only [RVs] at r; rw [r]; rfl
  | v :: l, xs, bs, r, e => by
    obtain ⟨x, t, rfl, r1, r2⟩ := r.inv
    cases v with
    | str b =>
      unfold strs? at e
      cases eb : strs? l with
      | none => rw [eb] at e; cases e
      | some q => rw [eb] at e; cases e; rw [strs_rv r2 eb, r1.str_inv]; rfl
    | _ => cases e
theorem RV.strOf {C : Ctx} {μ : Mu} {H : Hp} (x : Str) : RV C μ H (.str x.cps.toList) (.str x) := by simp [RV]
def vEnds : PMs := fun s _ l => match l with
  | [.str t] => some (.bl (Txt.endswith (sOf s) (sOf t)))
  | _ => none
theorem VMs.endswith : VMs X "str.endswith" vEnds := by
  intro pins s σ H x xs v us Q I rx rs hh
  obtain ⟨Z, μ, h, t, l, r, rfl, rh, rl, ev, o⟩ := hh
  unfold vEnds at ev
  split at ev
  · rename_i u
    cases ev
    obtain ⟨y, rfl, ry⟩ := rl.one
    exact mt_endswith pins s σ H _ _ v us Q I rx rs ⟨_, _, rfl, by rw [ry.str_inv], o.val rh .bl⟩
  · cases ev
def vJoin : PMs := fun s h l => match l with
  | [v] => match (match seqT v with | some l => some l | none => seqL h v) with
    | some m => match strs? m with
      | some ys => if decide ((ys.map (·.length)).sum + ys.length * s.length ≤ 16777216) = true then some (.str (Txt.join (sOf s) ys).cps.toList) else none
      | none => none
    | none => none
  | _ => none
theorem VMs.join : VMs X "str.join" vJoin := by
  intro pins s σ H x xs v us Q I rx rs hh
  obtain ⟨Z, μ, h, t, l, r, rfl, rh, rl, ev, o⟩ := hh
  unfold vJoin at ev
  split at ev
  · rename_i w
    obtain ⟨y, rfl, ry⟩ := rl.one
    split at ev
    · rename_i m em
      split at ev
      · rename_i ys ey
        split at ev
        · rename_i hc
          cases ev
          have hc : _ ≤ 16777216 := of_decide_eq_true hc
          have hsz : (ys.map (·.length)).sum + ys.length * (sOf t).length ≤ 16777216 := by simpa [PySem.Str.length] using hc
          cases et : seqT w with
          | some k =>
            rw [et] at em; cases em
            obtain ⟨a, zs, rfl, tq, _, q⟩ := seqT_sq ry et
            have := strs_rv q ey
            subst this
            exact mt_join pins s σ H _ _ v us Q I rx rs ⟨_, a, ys, rfl, rfl, .inr tq, hsz, o.val rh (.strOf _)⟩
          | none =>
            rw [et] at em
            obtain ⟨a, zs, rfl, tq, q⟩ := seqL_sq rh ry em
            have := strs_rv q ey
            subst this
            exact mt_join pins s σ H _ _ v us Q I rx rs ⟨_, a, ys, rfl, rfl, .inl tq, hsz, o.val rh (.strOf _)⟩
        · cases ev
      · cases ev
    · cases ev
  · cases ev

/-! ### iteration -/
def noExc {α : Type} : Res α → Res α
  | .ok a h => .ok a h
  | _ => .bad
theorem noExc_post {α : Type} {C : Ctx} {μ : Mu} {H : Hp} {E E' : XK} {R : Mu → Hp → AHeap → α → Prop} {r : Res α} (p : Post C μ H E R (noExc r)) : Post C μ H E' R r := by
  cases r with
  | ok a h => exact p
  | exc _ _ => exact (show False from p).elim
  | bad => exact (show False from p).elim
def itemsOf (v : AV) : Option (List AV) := match v with
  | .lst l => some l
  | .tup l => some l
  | .str s => some (s.map fun c => .str [c])
  | _ => none
def aIter (f : AE) : AA := fun ρ h => (f ρ h).bind fun v h1 => match itemsOf v with
  | some l => .ok l h1
  | none => .bad
def iAny (K : PySem.W.Frag) (te : TE) : TI := fun σ H R => te σ H fun x H1 => (∃ a, x = .ref a ∧ (∃ xs, SqL K H1 a xs) ∧ R (Itl K a) H1) ∨ (∃ a, x = .ref a ∧ (∃ xs, SqT K H1 a xs) ∧ R (Itt K a) H1) ∨ ∃ z, x = .str z ∧ R (Its z) H1
theorem pi_any {tg : Expr} {te : TE} (he : PE X e te) : PI X tg e (iAny X.K te) := by
  refine ⟨fun pins s σ H R I h => ?_⟩
  refine thn (he.run pins s σ H _ I h) fun v s1 ⟨x, H1, I1, r1, q1⟩ => ?_
  rcases q1 with ⟨a, rfl, ⟨xs, hq⟩, q⟩ | ⟨a, rfl, ⟨xs, hq⟩, q⟩ | ⟨z, rfl, q⟩
  · cases r1
    obtain ⟨its, rv, pl, hz⟩ := I1.list hq
    exact wpAny_pyIter_list pl.isList (pi_one (tk := s1.toks) I1 _ (turn_list a _) ⟨_, Heap.get?_push_size _ rfl, rfl, rfl⟩ q)
  · cases r1
    obtain ⟨its, rv, pl, hz⟩ := I1.tuple hq
    exact wpAny_pyIter_tuple (show s1.heap.IsTuple a its.toArray from pl) (pi_one (tk := s1.toks) I1 _ (turn_tuple a _) ⟨_, Heap.get?_push_size _ rfl, rfl, rfl⟩ q)
  · obtain ⟨t, rfl⟩ := r1
    cases ha : z.cps.all (· < 128)
    · exact wpAny_pyIter_wide ha (pi_one (tk := s1.toks) I1 _ (turn_str _ z t "str_iterator" (.inr rfl)) ⟨_, Heap.get?_push_size _ rfl, rfl, rfl⟩ q)
    · exact wpAny_pyIter_ascii ha (pi_one (tk := s1.toks) I1 _ (turn_str _ z t "str_ascii_iterator" (.inl rfl)) ⟨_, Heap.get?_push_size _ rfl, rfl, rfl⟩ q)
theorem turn_new {C : Ctx} {μ : Mu} {H : Hp} {Z' : List Addr} (hz : ∀ a ∈ Z', a ∈ C.Z ∨ H a = none) : ∀ a, (∃ o, a ∉ μ ∧ H a = some o) → a ∉ C.Z → a ∉ Z' := fun a ⟨o, _, e⟩ hn hm => by
  rcases hz a hm with h | h
  · exact hn h
  · rw [h] at e; cases e
theorem items_list {C : Ctx} {μ : Mu} {H : Hp} {l : List AV} {xs : List V} {a : Addr} (t : LstAt C μ H a xs) (r : RVs C μ H l xs) : ItemsOf C μ H (Itl C.K a) l := by
  refine ⟨fun i μ' H' e hi => ?_, fun μ' H' e => ?_, fun i μ' h' H' x H'' v Z' hz e rh hv hy => ?_⟩
  · exact ⟨xs, xs[i]'(by rw [r.length]; exact hi), (t.mono e).sq, List.getElem?_eq_getElem _⟩
  · exact ⟨xs, (t.mono e).sq, by rw [r.length]; exact Nat.le_refl _⟩
  · obtain ⟨rfl, hy⟩ := hy
    obtain ⟨z, e1, rz⟩ := ((r.turnZ (C := C) (C' := ⟨C.K, C.mg, Z'⟩) rfl rfl (turn_new hz)).mono e).get hv
    have := hy xs (t.mono e).sq
    rw [e1] at this; cases this
    exact ⟨.refl _ _, rh, rz⟩
theorem items_tup {C : Ctx} {μ : Mu} {H : Hp} {l : List AV} {xs : List V} {a : Addr} (t : TupAt C μ H a xs) (r : RVs C μ H l xs) : ItemsOf C μ H (Itt C.K a) l := by
  refine ⟨fun i μ' H' e hi => ?_, fun μ' H' e => ?_, fun i μ' h' H' x H'' v Z' hz e rh hv hy => ?_⟩
  · exact ⟨xs, xs[i]'(by rw [r.length]; exact hi), (t.mono e).sq, List.getElem?_eq_getElem _⟩
  · exact ⟨xs, (t.mono e).sq, by rw [r.length]; exact Nat.le_refl _⟩
  · obtain ⟨rfl, hy⟩ := hy
    obtain ⟨z, e1, rz⟩ := ((r.turnZ (C := C) (C' := ⟨C.K, C.mg, Z'⟩) rfl rfl (turn_new hz)).mono e).get hv
    have := hy xs (t.mono e).sq
    rw [e1] at this; cases this
    exact ⟨.refl _ _, rh, rz⟩
theorem items_str {C : Ctx} {μ : Mu} {H : Hp} {s : List Nat} : ItemsOf C μ H (Its (sOf s)) (s.map fun c => .str [c]) := by
  refine ⟨fun i μ' H' e hi => ?_, fun μ' H' e => ?_, fun i μ' h' H' x H'' v Z' hz e rh hv hy => ?_⟩
  · show i < s.toArray.size
    simpa using hi
  · show s.toArray.size ≤ _
    simp
  · obtain ⟨rfl, c, hc, rfl⟩ := hy
    have hc : s.toArray[i]? = some c := hc
    have hc' : s[i]? = some c := by simpa using hc
    rw [List.getElem?_map, hc'] at hv
    cases hv
    exact ⟨.refl _ _, rh, by simp [RV]⟩
theorem DI.seq {tg : Expr} (he : DE X W e fe) : DI X W tg e (aIter fe) := by
  refine ⟨PI.wk (pi_any he.pe) fun σ H R h => ?_⟩
  obtain ⟨Z, μ, ρ, h, rh, re, p⟩ := h
  refine tD.seq rh re p fun μ1 H1 h1 v x e1 rh1 re1 rv p1 => ?_
  cases v with
  | lst l =>
    obtain ⟨a, xs, rfl, t, q⟩ := rv.lst_inv
    exact .inl ⟨a, rfl, ⟨xs, t.sq⟩, Post.fin (a := l) p1 rh1 _ (items_list t q)⟩
  | tup l =>
    obtain ⟨a, xs, rfl, t, q⟩ := rv.tup_inv
    exact .inr (.inl ⟨a, rfl, ⟨xs, t.sq⟩, Post.fin (a := l) p1 rh1 _ (items_tup t q)⟩)
  | str s =>
    have := rv.str_inv
    subst this
    exact .inr (.inr ⟨_, rfl, Post.fin (a := s.map fun c => AV.str [c]) p1 rh1 _ items_str⟩)
  | _ => exact (show False from p1).elim
end
end AI
namespace AI
open PySem PySem.Spec PyProof.Rows
open L2

/-! ### range, enumerate -/
def iInts (lo : Int) (n : Nat) : List AV := (List.range n).map fun (k : Nat) => .int (lo + (k : Int))
theorem items_rng {C : Ctx} {μ : Mu} {H : Hp} (lo : Int) (n : Nat) : ItemsOf C μ H (Itr lo n) (iInts lo n) := by
  have hl : (iInts lo n).length = n := by simp [iInts]
  refine ⟨fun i μ' H' e hi => by rw [hl] at hi; exact hi, fun μ' H' e => by rw [hl]; exact Nat.le_refl _, fun i μ' h' H' x H'' v Z' hz e rh hv hy => ?_⟩
  obtain ⟨rfl, rfl⟩ := hy
  unfold iInts at hv
  rw [List.getElem?_map] at hv
  cases hr : (List.range n)[i]? with
  | none => rw [hr] at hv; cases hv
  | some k =>
    rw [hr] at hv; cases hv
    obtain ⟨hk, e2⟩ := List.getElem?_eq_some_iff.mp hr
    have : k = i := by simpa using e2.symm
    subst this
    exact ⟨.refl _ _, rh, .int⟩
def inR (i : Int) : Bool := decide (-(2 ^ 62) ≤ i ∧ i < 2 ^ 62)
def aRng1 (fa : AA) : AA := fun ρ h => (fa ρ h).bind fun l h1 => match l with
  | [.int j] => if inR j = true then .ok (iInts 0 j.toNat) h1 else .bad
  | _ => .bad
def aRng2 (fa : AA) : AA := fun ρ h => (fa ρ h).bind fun l h1 => match l with
  | [.int i, .int j] => if (inR i && inR j) = true then .ok (iInts i (j - i).toNat) h1 else .bad
  | _ => .bad
section
variable {X : Cx} {W : WX} {pos p : Pos} {tg a b : Expr} {fa : AA}
theorem DI.rng1 (hg : Gl X "range") (hm : X.mg "range" = none) (ha : DA X W [a] fa) (hs : starEach [a] X.env = [(false, eval a X.env)] := by rfl) : DI X W tg (.Call (.Name "range" p) [a] [] pos) (aRng1 fa) := by
  refine ⟨PI.wk (pi_range1 hg hm ha.pa hs) fun σ H R h => ?_⟩
  obtain ⟨Z, μ, ρ, h, rh, re, pp⟩ := h
  refine tDA.seq rh re pp fun μ1 H1 h1 l xs e1 rh1 re1 rl p1 => ?_
  split at p1
  · rename_i j
    split at p1
    · rename_i hc
      obtain ⟨x, rfl, rx⟩ := rl.one
      have hc := of_decide_eq_true hc
      exact ⟨j, by rw [rx.int_inv], hc.1, hc.2, Post.fin (a := iInts 0 j.toNat) p1 rh1 _ (items_rng 0 j.toNat)⟩
    · exact p1.elim
  · exact p1.elim
theorem DI.rng2 (hg : Gl X "range") (hm : X.mg "range" = none) (ha : DA X W [a, b] fa) (hs : starEach [a, b] X.env = [(false, eval a X.env), (false, eval b X.env)] := by rfl) (hs2 : starEach [b] X.env = [(false, eval b X.env)] := by rfl) : DI X W tg (.Call (.Name "range" p) [a, b] [] pos) (aRng2 fa) := by
  refine ⟨PI.wk (pi_range2 hg hm ha.pa hs hs2) fun σ H R h => ?_⟩
  obtain ⟨Z, μ, ρ, h, rh, re, pp⟩ := h
  refine tDA.seq rh re pp fun μ1 H1 h1 l xs e1 rh1 re1 rl p1 => ?_
  split at p1
  · rename_i i j
    split at p1
    · rename_i hc
      obtain ⟨x, y, rfl, rx, ry⟩ := rl.two
      have hc := Bool.and_eq_true_iff.mp hc
      have h1 := of_decide_eq_true hc.1
      have h2 := of_decide_eq_true hc.2
      exact ⟨i, j, by rw [rx.int_inv, ry.int_inv], ⟨h1.1, h1.2, h2.1, h2.2⟩, Post.fin (a := iInts i (j - i).toNat) p1 rh1 _ (items_rng i (j - i).toNat)⟩
    · exact p1.elim
  · exact p1.elim
end

/-! ### a list that is being filled grows -/
section
variable {C : Ctx} {μ : Mu} {H : Hp} {D : Addr} {u1 : HO}
/-- a list, a dict stands there -/
def FilAt (H : Hp) (D : Addr) : Prop := (∃ acc, H D = some (.lst acc)) ∨ ∃ kvs, H D = some (.dK kvs)
theorem fill_ne {a : Addr} {xs : List V} (hD : FilAt H D) (hu : Rd H a (.tup xs)) : a ≠ D := fun e => by
  subst e
  rcases hD with ⟨acc, hD⟩ | ⟨acc, hD⟩ <;> rcases hu with h | ⟨o, h⟩ <;> rw [hD] at h <;> cases h
theorem Rd.upd {a : Addr} {u o : HO} (h : Rd H a u) (hn : a ≠ D) : Rd (upd H D o) a u := by
  rcases h with h | ⟨q, h⟩
  · exact .inl (by rw [upd_ne hn]; exact h)
  · exact .inr ⟨q, by rw [upd_ne hn]; exact h⟩
mutual
theorem RV.fill (hz : D ∈ C.Z) (hD : FilAt H D) : ∀ {v : AV} {x : V}, RV C μ H v x → RV C μ (upd H D u1) v x
  | .non, _, h => by simpa [RV] using h
  | .bl _, _, h => by simpa [RV] using h
  | .int _, _, h => by simpa [RV] using h
  | .str _, _, h => by simpa [RV] using h
  | .tup _, _, h => by
    obtain ⟨a, xs, rfl, t, q⟩ := h.tup_inv
    refine .tup ?_ (RVs.fill hz hD q)
    rcases t with ⟨t1, t2⟩ | t
    · exact .inl ⟨t1, Rd.upd t2 (fill_ne hD t2)⟩
    · exact .inr t
  | .lst _, _, h => by
    obtain ⟨a, xs, rfl, t, q⟩ := h.lst_inv
    exact .lst (t.imp (fun t => ⟨t.1, t.2.1, Rd.upd t.2.2 fun e => t.2.1 (by rw [e]; exact hz)⟩) _root_.id) (RVs.fill hz hD q)
  | .dct _ _, _, h => by
    obtain ⟨a, xs, rfl, t, q⟩ := h.dct_inv
    exact .dct ⟨t.1, t.2.1, t.2.2.1, by rw [upd_ne fun e => t.2.1 (by rw [e]; exact hz)]; exact t.2.2.2⟩ (RVs.fill hz hD q)
  | .ref n, _, h => by simpa [RV] using h
  | .ty _, _, h => by simpa [RV] using h
  | .gl _, _, h => by simpa [RV] using h
theorem RVs.fill (hz : D ∈ C.Z) (hD : FilAt H D) : ∀ {l : List AV} {xs : List V}, RVs C μ H l xs → RVs C μ (upd H D u1) l xs
  | [], _, h => by simpa [RVs] using h
  | v :: l, _, h => by
    obtain ⟨x, r, rfl, h2, h3⟩ := h.inv
    exact .cons (RV.fill hz hD h2) (RVs.fill hz hD h3)
end
theorem RepH.fill {h : AHeap} (r : RepH C μ h H) (hz : D ∈ C.Z) (hD : FilAt H D) : RepH C μ h (upd H D u1) := by
  refine ⟨r.len, r.nd, fun n o a h1 h2 => ?_, fun a ha => ?_⟩
  · have ne : a ≠ D := fun e => (r.zs D hz).1 (by rw [← e]; exact List.mem_of_getElem? h2)
    have q := r.obj n o a h1 h2
    cases o with
    | list l => obtain ⟨xs, e1, e2⟩ := q; exact ⟨xs, by rw [upd_ne ne]; exact e1, e2.fill hz hD⟩
  · obtain ⟨n, o, e⟩ := r.zs a ha
    by_cases he : a = D
    · subst he; exact ⟨n, _, upd_same⟩
    · exact ⟨n, o, by rw [upd_ne he]; exact e⟩
theorem RepE.fill {ρ : AEnv} {σ : L2.St} (r : RepE C μ H ρ σ) (hz : D ∈ C.Z) (hD : FilAt H D) : RepE C μ (upd H D u1) ρ σ :=
  ⟨r.1, fun i v e => let ⟨x, e1, e2⟩ := r.2 i v e; ⟨x, e1, e2.fill hz hD⟩⟩
mutual
/-- the filled list becomes part of the abstract heap -/
theorem RV.adoptZ {C' : Ctx} (hK : C'.K = C.K) (hm : C'.mg = C.mg) (hz : D ∈ C.Z) (hs : ∀ a, a ∉ C.Z → a ∉ C'.Z) (hD : FilAt H D) : ∀ {v : AV} {x : V}, RV C μ H v x → RV C' (μ ++ [D]) H v x
  | .non, _, h => by simpa [RV] using h
  | .bl _, _, h => by simpa [RV] using h
  | .int _, _, h => by simpa [RV] using h
  | .str _, _, h => by simpa [RV] using h
  | .tup _, _, h => by
    obtain ⟨a, xs, rfl, t, q⟩ := h.tup_inv
    refine .tup ?_ (RVs.adoptZ hK hm hz hs hD q)
    unfold TupAt at t ⊢
    rw [hK]
    rcases t with ⟨t1, t2⟩ | t
    · exact .inl ⟨by simp [t1, fill_ne hD t2], t2⟩
    · exact .inr t
  | .lst _, _, h => by
    obtain ⟨a, xs, rfl, t, q⟩ := h.lst_inv
    refine .lst ?_ (RVs.adoptZ hK hm hz hs hD q)
    unfold LstAt at t ⊢
    rw [hK]
    exact t.imp (fun t => ⟨by simp [t.1, show a ≠ D from fun e => t.2.1 (by rw [e]; exact hz)], hs a t.2.1, t.2.2⟩) _root_.id
  | .dct _ _, _, h => by
    obtain ⟨a, xs, rfl, t, q⟩ := h.dct_inv
    have : a ≠ D := fun e => t.2.1 (by rw [e]; exact hz)
    exact .dct ⟨by simp [t.1, this], hs a t.2.1, t.2.2⟩ (RVs.adoptZ hK hm hz hs hD q)
  | .ref n, _, h => by
    obtain ⟨a, rfl, e⟩ := h.ref_inv
    exact .ref (by rw [List.getElem?_append_left (List.getElem?_eq_some_iff.mp e).1]; exact e)
  | .ty _, _, h => by simpa [RV] using h
  | .gl _, _, h => by simpa [RV, hm] using h
theorem RVs.adoptZ {C' : Ctx} (hK : C'.K = C.K) (hm : C'.mg = C.mg) (hz : D ∈ C.Z) (hs : ∀ a, a ∉ C.Z → a ∉ C'.Z) (hD : FilAt H D) : ∀ {l : List AV} {xs : List V}, RVs C μ H l xs → RVs C' (μ ++ [D]) H l xs
  | [], _, h => by simpa [RVs] using h
  | v :: l, _, h => by
    obtain ⟨x, r, rfl, h2, h3⟩ := h.inv
    exact .cons (RV.adoptZ hK hm hz hs hD h2) (RVs.adoptZ hK hm hz hs hD h3)
end
end

/-! ### targets within a comprehension -/
def GoodW (C : Ctx) (μ : Mu) (H : Hp) (is : List Nat) (σ : L2.St) (o : Option (AEnv × AHeap)) (Q : L2.St → Hp → Prop) : Prop :=
  ∃ ρ' h', o = some (ρ', h') ∧ ∀ μ' H' σ', Ext μ H μ' H' → RepH C μ' h' H' → RepE C μ' H' ρ' σ' → σ'.length = σ.length → (∀ j, j ∉ is → σ'[j]? = σ[j]?) → Q σ' H'
def tDGw (X : Cx) (is : List Nat) (g : AG) : TG := fun x σ H Q => ∃ Z μ ρ h v, RepH (cc X Z) μ h H ∧ RepE (cc X Z) μ H ρ σ ∧ RV (cc X Z) μ H v x ∧ GoodW (cc X Z) μ H is σ (g v ρ h) Q
def tDGsw (X : Cx) (is : List Nat) (g : AGs) : TGs := fun xs σ H Q => ∃ Z μ ρ h l, RepH (cc X Z) μ h H ∧ RepE (cc X Z) μ H ρ σ ∧ RVs (cc X Z) μ H l xs ∧ GoodW (cc X Z) μ H is σ (g l ρ h) Q
structure DGw (X : Cx) (is : List Nat) (tg : Expr) (g : AG) : Prop where
  pg : PG X tg (tDGw X is g)
structure DGsw (X : Cx) (is : List Nat) (ts : List Expr) (g : AGs) : Prop where
  pgs : PGs X ts (tDGsw X is g)
section
variable {X : Cx} {pos : Pos} {is : List Nat}
theorem DGw.name (i : Nat) {x : Str} (hN : X.N.Nodup) (hi : X.N[i]? = some x := by rfl) (hm : i ∈ is := by decide) (hx : Loc X.env.scope x := by first | exact Or.inl rfl | exact Or.inr rfl) (hf : X.fn x = true ∨ X.env.scope.names.lookup x = some .local := by first | exact .inl rfl | exact .inr rfl | assumption) : DGw X is (.Name x pos) (agName i) := by
  refine ⟨PG.wk (pg_name (i := i) hN hi hx hf) fun x σ H Q h => ?_⟩
  obtain ⟨Z, μ, ρ, h, v, rh, re, rv, ρ', h', e, k⟩ := h
  cases e
  exact k μ H _ (.refl _ _) rh (re.set rv i) (by simp) fun j hj => List.getElem?_set_ne fun e => hj (by rw [← e]; exact hm)
theorem DGsw.nil : DGsw X is [] agNil := by
  refine ⟨PGs.wk pgs_nil fun xs σ H Q h => ?_⟩
  obtain ⟨Z, μ, ρ, h, l, rh, re, rl, ρ', h', e, k⟩ := h
  cases l with
  | nil => cases e; simp only [RVs] at rl; exact ⟨rl, k μ H _ (.refl _ _) rh re rfl fun _ _ => rfl⟩
  | cons _ _ => cases e
theorem DGsw.cons {t : Expr} {ts : List Expr} {g : AG} {gs : AGs} (h1 : DGw X is t g) (h2 : DGsw X is ts gs) (hs : (assignEach (t :: ts) X.env).map (·.2) = assign t X.env :: (assignEach ts X.env).map (·.2) := by rfl) : DGsw X is (t :: ts) (agCons g gs) := by
  refine ⟨PGs.wk (pgs_cons h1.pg h2.pgs hs) fun xs σ H Q h => ?_⟩
  obtain ⟨Z, μ, ρ, h, l, rh, re, rl, ρ', h', e, k⟩ := h
  cases l with
  | nil => cases e
  | cons v l =>
    obtain ⟨x, r, rfl, rv, rr⟩ := rl.inv
    unfold agCons at e
    dsimp only at e
    cases eg : g v ρ h with
    | none => rw [eg] at e; cases e
    | some q =>
      obtain ⟨ρ1, h1⟩ := q
      rw [eg] at e
      refine ⟨x, r, rfl, Z, μ, ρ, h, v, rh, re, rv, ρ1, h1, eg, fun μ1 H1 σ1 e1 rh1 re1 l1 n1 => ?_⟩
      exact ⟨Z, μ1, ρ1, h1, l, rh1, re1, rr.mono e1, ρ', h', e, fun μ2 H2 σ2 e2 a b l2 n2 => k μ2 H2 σ2 (e1.trans e2) a b (l2.trans l1) fun j hj => (n2 j hj).trans (n1 j hj)⟩
theorem DGw.tup {ts : List Expr} {k n : Nat} {gs : AGs} (hc : X.calm = true) (h : DGsw X is ts gs) (hn : (assignEach ts X.env).length = n := by rfl) (hst : (assignEach ts X.env).findIdx? (·.1) = none := by rfl) : DGw X is (.Tuple ts k pos) (agTup n gs) := by
  refine ⟨PG.wk (pg_tup hc h.pgs hn hst) fun x σ H Q h => ?_⟩
  obtain ⟨Z, μ, ρ, h, v, rh, re, rv, ρ', h', e, k⟩ := h
  unfold agTup at e
  split at e
  · rename_i l
    split at e
    · rename_i hl
      obtain ⟨a, xs, rfl, ta, rl⟩ := rv.tup_inv
      exact ⟨a, xs, rfl, ta.sq, by rw [rl.length]; exact hl, Z, μ, ρ, h, l, rh, re, rl, ρ', h', e, k⟩
    · cases e
  · cases e
end
theorem wipe_get {σ : L2.St} : ∀ {vs : List Nat} {i : Nat}, (wipe σ vs)[i]? = if i ∈ vs then (σ[i]?).map fun _ => none else σ[i]?
  | [], i => by simp [wipe]
  | v :: vs, i => by
    show ((wipe σ vs).set v none)[i]? = _
    rw [List.getElem?_set]
    by_cases h : v = i
    · subst h
      rw [if_pos rfl, if_pos (List.mem_cons_self ..), wipe_length]
      by_cases hl : v < σ.length
      · rw [if_pos hl, List.getElem?_eq_getElem hl]; rfl
      · rw [if_neg hl, List.getElem?_eq_none (by omega)]; rfl
    · rw [if_neg h, wipe_get]
      have : (i ∈ v :: vs) ↔ i ∈ vs := by simp [Ne.symm h]
      by_cases hm : i ∈ vs
      · rw [if_pos hm, if_pos (this.mpr hm)]
      · rw [if_neg hm, if_neg fun z => hm (this.mp z)]
theorem wipe_eq {σ σ' : L2.St} {vs : List Nat} (hl : σ'.length = σ.length) (h : ∀ j, j ∉ vs → σ'[j]? = σ[j]?) : wipe σ' vs = wipe σ vs := by
  refine List.ext_getElem? fun i => ?_
  rw [wipe_get, wipe_get]
  by_cases hm : i ∈ vs
  · rw [if_pos hm, if_pos hm]
    by_cases hi : i < σ.length
    · rw [List.getElem?_eq_getElem hi, List.getElem?_eq_getElem (by rw [hl]; exact hi)]; rfl
    · rw [List.getElem?_eq_none (by omega), List.getElem?_eq_none (by omega)]
  · rw [if_neg hm, if_neg hm, h i hm]
theorem wipe_wipe {σ : L2.St} {vs : List Nat} : wipe (wipe σ vs) vs = wipe σ vs := by
  refine List.ext_getElem? fun i => ?_
  rw [wipe_get, wipe_get]
  by_cases hm : i ∈ vs
  · rw [if_pos hm, if_pos hm]; cases σ[i]? <;> rfl
  · rw [if_neg hm, if_neg hm]
def wipeA (ρ : AEnv) : List Nat → AEnv
  | [] => ρ
  | v :: vs => (wipeA ρ vs).set v none
theorem RepE.wipe {C : Ctx} {μ : Mu} {H : Hp} {ρ : AEnv} {σ : L2.St} (r : RepE C μ H ρ σ) : ∀ vs : List Nat, RepE C μ H (wipeA ρ vs) (L2.wipe σ vs)
  | [] => r
  | v :: vs => by
    have q := RepE.wipe r vs
    refine ⟨by simp [wipeA, L2.wipe, q.1], fun i w e => ?_⟩
    have e : ((wipeA ρ vs).set v none)[i]? = some (some w) := e
    show ∃ x, ((L2.wipe σ vs).set v none)[i]? = some (some x) ∧ _
    by_cases h : v = i
    · subst h
      rw [List.getElem?_set] at e
      rw [if_pos rfl] at e
      split at e <;> cases e
    · rw [List.getElem?_set_ne h] at e ⊢
      exact q.2 i w e

/-! ### [elt for target in iter if test] -/
def aYes : AT := fun _ h => .ok true h
structure DTs (X : Cx) (W : WX) (ifs : List Expr) (f : AT) : Prop where
  pts : PTs X ifs (tDT X W f)
theorem PTs.wk {X : Cx} {ifs : List Expr} {t t' : L2.TT} (h : PTs X ifs t) (k : ∀ σ H Q, t' σ H Q → t σ H Q) : PTs X ifs t' := ⟨fun pins s σ H Q I hw => h.run pins s σ H Q I (k σ H Q hw)⟩
theorem DTs.nil {X : Cx} {W : WX} : DTs X W [] aYes := ⟨PTs.wk pts_nil fun σ H Q ⟨Z, μ, ρ, h, rh, re, p⟩ => Post.fin (a := true) p rh⟩
theorem DTs.one {X : Cx} {W : WX} {c : Expr} {f : AT} (h : DT X W c f) : DTs X W [c] f := ⟨pts_one h.pt⟩
def lcL (g : AG) (t : AT) (fe : AE) : List AV → AEnv → AHeap → Res (List AV)
  | [], _, h => .ok [] h
  | v :: r, ρ, h => match g v ρ h with
    | none => .bad
    | some (ρ1, h1) => match t ρ1 h1 with
      | .ok true h2 => match fe ρ1 h2 with
        | .ok y h3 => match lcL g t fe r ρ h3 with
          | .ok ys h4 => .ok (y :: ys) h4
          | _ => .bad
        | _ => .bad
      | .ok false h2 => lcL g t fe r ρ h2
      | _ => .bad
def aLc (fi : AA) (g : AG) (t : AT) (fe : AE) (vs : List Nat) : AA := fun ρ h => (fi ρ h).bind fun l h1 => if szOk l = true then lcL g t fe l (wipeA ρ vs) h1 else .bad
def W0 : WX := fun _ _ _ _ => False
/-- what the rest of the comprehension gives -/
def FinL (C' : Ctx) (μ1 : Mu) (H1 : Hp) (D : Addr) (Q : VK) (acc : List AV) : Res (List AV) → Prop
  | .ok ys h'' => ∀ μ'' H'' xs, Ext μ1 H1 μ'' H'' → RepH C' μ'' h'' H'' → RVs C' μ'' H'' (acc ++ ys) xs → H'' D = some (.lst xs) → Q (.ref D) H''
  | _ => False
theorem lcL_noexc {g : AG} {t : AT} {fe : AE} : ∀ {l : List AV} {ρ : AEnv} {h h' : AHeap} {e : AX}, lcL g t fe l ρ h = .exc e h' → False
  | [], _, _, _, _, q => by cases q
  | v :: r, ρ, h, h', e, q => by
    unfold lcL at q
    split at q
    · cases q
    · split at q
      · split at q
        · split at q
          · cases q
          · cases q
        · cases q
      · exact lcL_noexc q
      · cases q
section
variable {X : Cx} {W : WX} {pos : Pos} {elt tg iter : Expr} {ifs : List Expr} {scope : Scope} {own : List (Str × Nat)} {fi : AA} {g : AG} {tt : AT} {fe : AE} {is : List Nat}
theorem Ext.fillD {μ μ' : Mu} {H H' : Hp} {D : Addr} {o : HO} (e : Ext μ H μ' H') (hD : H D = none) : Ext μ H μ' (upd H' D o) :=
  ⟨e.pre, e.new, fun b u hb hu => by rw [upd_ne fun z => by rw [z, hD] at hu; cases hu]; exact e.frame b u hb hu⟩
theorem lc_of (hk : (is = own.map (·.2))) {σ : L2.St} {H : Hp} {Q : VK} (h : tDL X W (aLc fi g tt fe is) σ H Q) : tLc (tDI X W fi) (tDGw X is g) (tDT X W0 tt) (tD X W0 fe) (own.map (·.2)) σ H Q := by
  rw [← hk]
  obtain ⟨Z, μ, ρ, h, rh, re, p⟩ := h
  refine ⟨Z, μ, ρ, h, rh, re, p.bind.mono fun μ1 H1 h1 l e1 rh1 p1 J it D hD => ?_⟩
  obtain ⟨hz, p1⟩ : l.length ≤ sizeLine ∧ Post (cc X Z) μ1 H1 (fun c d H' => W c d σ H') (NewL (cc X Z) H Q) (lcL g tt fe l (wipeA ρ is) h1) := by
    by_cases hs : szOk l = true
    · rw [if_pos hs] at p1; exact ⟨of_decide_eq_true hs, p1⟩
    · rw [if_neg hs] at p1; exact p1.elim
  have nDm := rh1.fresh hD
  have nDz : D ∉ Z := rh1.freshZ hD
  have turn : ∀ {μ : Mu} {H : Hp}, ∀ a, (∃ o, a ∉ μ ∧ H a = some o) → a ∉ (cc X (D :: Z)).Z → a ∉ (cc X Z).Z := fun a _ hn hm => hn (List.mem_cons_of_mem _ hm)
  have fin0 : FinL (cc X (D :: Z)) μ1 H1 D Q [] (lcL g tt fe l (wipeA ρ is) h1) := by
    cases er : lcL g tt fe l (wipeA ρ is) h1 with
    | bad => rw [er] at p1; exact p1
    | exc x h' => exact lcL_noexc er
    | ok ys h' =>
      rw [er] at p1
      intro μ'' H'' xs e'' rh'' rv hxs
      have nm := (rh''.zs D (List.mem_cons_self ..)).1
      have rhZ : RepH (cc X Z) μ'' h' H'' := rh''.turnZ (C := cc X (D :: Z)) (C' := cc X Z) rfl rfl turn (fun a ha => rh''.zs a (List.mem_cons_of_mem _ ha))
      refine p1 μ'' H'' e'' rhZ D xs ⟨e1.free hD nDm, hxs, nm, nDz, rv.turnZ (C := cc X (D :: Z)) (C' := cc X Z) rfl rfl turn, ?_⟩
      have ad : ∀ {l : List AV} {ys : List V}, RVs (cc X (D :: Z)) μ'' H'' l ys → RVs (cc X Z) (μ'' ++ [D]) H'' l ys := fun q =>
        q.adoptZ (C := cc X (D :: Z)) (C' := cc X Z) rfl rfl (List.mem_cons_self ..) (fun a hn hm => hn (List.mem_cons_of_mem _ hm)) (.inl ⟨_, hxs⟩)
      refine ⟨by simp [rh''.len], List.nodup_append.mpr ⟨rh''.nd, by simp, fun a ha b hb => by
        have : b = D := by simpa using hb
        subst this; intro z; exact nm (z ▸ ha)⟩, fun n o a q1 q2 => ?_, fun a ha => ?_⟩
      · by_cases hn : n < h'.length
        · rw [List.getElem?_append_left hn] at q1
          rw [List.getElem?_append_left (by rw [rh''.len]; exact hn)] at q2
          have q := rh''.obj n o a q1 q2
          cases o with
          | list l => obtain ⟨zs, z1, z2⟩ := q; exact ⟨zs, z1, ad z2⟩
        · have en : n = h'.length := by
            have := (List.getElem?_eq_some_iff.mp q1).1
            simp at this; omega
          subst en
          simp at q1; subst q1
          rw [← rh''.len] at q2
          simp at q2; subst q2
          exact ⟨xs, hxs, ad rv⟩
      · obtain ⟨n, u, z⟩ := rh''.zs a (List.mem_cons_of_mem _ ha)
        exact ⟨by simp [n, show a ≠ D from fun e => nDz (e ▸ ha)], u, z⟩
  have hz0 : ∀ a ∈ D :: Z, a ∈ (cc X Z).Z ∨ H1 a = none := fun a ha => by
    rcases List.mem_cons.mp ha with e | e
    · exact .inr (by rw [e]; exact hD)
    · exact .inl e
  have turn0 : ∀ a, (∃ o, a ∉ μ1 ∧ H1 a = some o) → a ∉ (cc X Z).Z → a ∉ (cc X (D :: Z)).Z := turn_new (C := cc X Z) hz0
  have rh0 : RepH (cc X (D :: Z)) μ1 h1 (upd H1 D (.lst [])) := by
    have q := rh1.laid (o := .lst []) hD
    have la : Ext μ1 H1 μ1 (upd H1 D (.lst [])) := .laid μ1 hD
    refine ⟨q.len, q.nd, fun n o a q1 q2 => ?_, fun a ha => ?_⟩
    · exact ((rh1.obj n o a q1 q2).turnZ (C := cc X Z) (C' := cc X (D :: Z)) rfl rfl turn0).mono la (upd_ne fun z => nDm (z ▸ List.mem_of_getElem? q2))
    · rcases List.mem_cons.mp ha with e | e
      · subst e; exact ⟨nDm, _, upd_same⟩
      · obtain ⟨n, u, z⟩ := rh1.zs a e
        exact ⟨n, u, by rw [upd_ne fun w => by rw [w, hD] at z; cases z]; exact z⟩
  have re0 : RepE (cc X (D :: Z)) μ1 (upd H1 D (.lst [])) (wipeA ρ is) (wipe σ is) :=
    (((re.mono e1).turnZ (C := cc X Z) (C' := cc X (D :: Z)) rfl rfl turn0).mono (.laid μ1 hD)).wipe is
  refine ⟨fun i m H => m = l.length - i ∧ i ≤ l.length ∧ ∃ μ' h' acc accV, Ext μ1 H1 μ' H ∧ RepH (cc X (D :: Z)) μ' h' H ∧ RepE (cc X (D :: Z)) μ' H (wipeA ρ is) (wipe σ is) ∧ H D = some (.lst accV) ∧
    RVs (cc X (D :: Z)) μ' H acc accV ∧ acc.length ≤ i ∧ FinL (cc X (D :: Z)) μ1 H1 D Q acc (lcL g tt fe (l.drop i) (wipeA ρ is) h'),
    ⟨l.length, by simp, Nat.zero_le _, μ1, h1, [], [], .laid μ1 hD, rh0, re0, upd_same, .nil, Nat.le_refl _, fin0⟩, ?_⟩
  rintro i m H' ⟨rfl, hi, μ', h', acc, accV, e', rh', re', eD, ra, hacc, fn⟩
  by_cases hlt : i < l.length
  · refine .inr ⟨it.go i μ' H' e' hlt, fun H2 => ∃ μ2 h2 acc accV, Ext μ1 H1 μ2 H2 ∧ RepH (cc X (D :: Z)) μ2 h2 H2 ∧ RepE (cc X (D :: Z)) μ2 H2 (wipeA ρ is) (wipe σ is) ∧ H2 D = some (.lst accV) ∧
      RVs (cc X (D :: Z)) μ2 H2 acc accV ∧ acc.length ≤ i + 1 ∧ FinL (cc X (D :: Z)) μ1 H1 D Q acc (lcL g tt fe (l.drop (i + 1)) (wipeA ρ is) h2),
      fun H2 q => ⟨l.length - (i + 1), by omega, rfl, hlt, q⟩, fun x H'' hy => ?_⟩
    have hv : l[i]? = some l[i] := List.getElem?_eq_getElem hlt
    obtain ⟨e2, rh2, rv⟩ := it.yld i μ' h' H' x H'' _ (D :: Z) hz0 e' rh' hv hy
    rw [List.drop_eq_getElem_cons hlt] at fn
    unfold lcL at fn
    refine ⟨D :: Z, μ', wipeA ρ is, h', l[i], rh2, re'.mono e2, rv, ?_⟩
    cases eg : g l[i] (wipeA ρ is) h' with
    | none => rw [eg] at fn; exact fn.elim
    | some q =>
      obtain ⟨ρ1, h1'⟩ := q
      rw [eg] at fn
      dsimp only at fn
      refine ⟨ρ1, h1', rfl, fun μ3 H3 σ3 e3 rh3 re3 l3 n3 => ⟨(wipe_eq l3 n3).trans wipe_wipe, ?_⟩⟩
      refine ⟨D :: Z, μ3, ρ1, h1', rh3, re3, ?_⟩
      have e03 : Ext μ1 H1 μ3 H3 := (e'.trans e2).trans e3
      have e13 : Ext μ' H' μ3 H3 := e2.trans e3
      have nD3 : D ∉ μ' := (rh'.zs D (List.mem_cons_self ..)).1
      cases et : tt ρ1 h1' with
      | bad => rw [et] at fn; exact fn.elim
      | exc _ _ => rw [et] at fn; exact fn.elim
      | ok b h4 =>
        rw [et] at fn
        intro μ4 H4 e4 rh4
        cases b with
        | false =>
          rw [if_neg Bool.false_ne_true]
          exact ⟨μ4, h4, acc, accV, e03.trans e4, rh4, re'.mono (e13.trans e4), (e13.trans e4).frame _ _ nD3 eD, ra.mono (e13.trans e4), Nat.le_succ_of_le hacc, fn⟩
        | true =>
          rw [if_pos rfl]
          dsimp only at fn
          refine ⟨D :: Z, μ4, ρ1, h4, rh4, re3.mono e4, ?_⟩
          cases ef : fe ρ1 h4 with
          | bad => rw [ef] at fn; exact fn.elim
          | exc _ _ => rw [ef] at fn; exact fn.elim
          | ok y h5 =>
            rw [ef] at fn
            dsimp only at fn
            intro μ5 H5 e5 rh5 z rz
            have e15 : Ext μ' H' μ5 H5 := (e13.trans e4).trans e5
            have eD5 : H5 D = some (.lst accV) := e15.frame _ _ nD3 eD
            have hzD : D ∈ (cc X (D :: Z)).Z := List.mem_cons_self ..
            refine ⟨accV, eD5, by rw [ra.length]; omega, μ5, h5, acc ++ [y], accV ++ [z], Ext.fillD ((e03.trans e4).trans e5) hD, rh5.fill hzD (.inl ⟨_, eD5⟩), (re'.mono e15).fill hzD (.inl ⟨_, eD5⟩), upd_same, ((ra.mono e15).append (.cons rz .nil)).fill hzD (.inl ⟨_, eD5⟩), by simp; exact hacc, ?_⟩
            cases el : lcL g tt fe (l.drop (i + 1)) (wipeA ρ is) h5 with
            | ok ys h6 =>
              rw [el] at fn
              intro μ'' H'' xs q1 q2 q3 q4
              exact fn μ'' H'' xs q1 q2 (by simpa using q3) q4
            | exc _ _ => rw [el] at fn; exact fn.elim
            | bad => rw [el] at fn; exact fn.elim
  · have e : i = l.length := by omega
    subst e
    rw [List.drop_length] at fn
    exact .inl ⟨it.stop μ' H' e', fn μ' H' accV e' rh' (by simpa using ra) eD⟩
theorem DL.lc (own : List (Str × Nat)) (is : List Nat) (hc : X.calm = true) (hN : X.N.Nodup) (hi : DI X W tg iter fi) (ok : BlkOk X.N X.env.scope scope own)
    (hg : ∀ (s : Shared) (H : Hp) (C : Addr) (cl : List (Str × Addr)) (fp : List Addr), DGw (X.blk s H scope (compEnvC scope cl C X.env) fp) is tg g) (ht : ∀ (s : Shared) (H : Hp) (C : Addr) (cl : List (Str × Addr)) (fp : List Addr), DTs (X.blk s H scope (compEnvC scope cl C X.env) fp) W0 ifs tt)
    (he : ∀ (s : Shared) (H : Hp) (C : Addr) (cl : List (Str × Addr)) (fp : List Addr), DE (X.blk s H scope (compEnvC scope cl C X.env) fp) W0 elt fe) (hk : is = own.map (·.2) := by rfl) (hs : ∀ x, foldedSetIterable iter X.env x = Pure.pure x := by intro _; rfl) :
    DL X W (.ListComp elt [⟨tg, iter, ifs, 0⟩] scope pos) (aLc fi g tt fe is) :=
  ⟨PE.wk (pe_lc hc hN hi.pi ok (fun s H C cl fp => (hg s H C cl fp).pg) (fun s H C cl fp => (ht s H C cl fp).pts) (fun s H C cl fp => (he s H C cl fp).pe) hs) fun σ H Q h => lc_of hk h⟩
end
end AI
namespace AI
open PySem PySem.Spec PyProof.Rows
open L2

/-! ### l[i] = v -/
def agSub (fo fi : AE) : AG := fun v ρ h => match fo ρ h with
  | .ok (.ref n) h1 => match fi ρ h1 with
    | .ok (.int k) h2 => match h2[n]? with
      | some (.list l) => match ixN l.length k with
        | some j => some (ρ, h2.set n (.list (l.set j v)))
        | none => none
      | none => none
    | _ => none
  | _ => none
section
variable {X : Cx} {W : WX} {pos : Pos}
theorem DG.sub {o i : Expr} {fo fi : AE} (ho : DE X W0 o fo) (hi : DE X W0 i fi)
    (ha : ∀ v, assign (.Subscript o i pos) X.env v = (do
      let ov ← holding [v] (eval o X.env)
      let iv ← holding [v, ov] (eval i X.env)
      standAt pos
      holding [v, ov, iv] (setItem ov iv v)
      release [v, ov, iv] []) := by intro _; rfl) : DG X (.Subscript o i pos) (agSub fo fi) := by
  refine ⟨PG.wk (pg_sub ho.pe hi.pe set_list ha) fun x σ H Q h => ?_⟩
  obtain ⟨Z, μ, ρ, h, v, rh, re, rv, ρ', h', e, k⟩ := h
  refine ⟨Z, μ, ρ, h, rh, re, ?_⟩
  unfold agSub at e
  cases eo : fo ρ h with
  | ok ov h1 =>
    rw [eo] at e
    intro μ1 H1 e1 rh1 y ry
    refine ⟨Z, μ1, ρ, h1, rh1, re.mono e1, ?_⟩
    cases ov with
    | ref n =>
      dsimp only at e
      cases ei : fi ρ h1 with
      | ok iv h2 =>
        rw [ei] at e
        intro μ2 H2 e2 rh2 z rz
        cases iv with
        | int q =>
          dsimp only at e
          obtain ⟨a, rfl, ea⟩ := ry.ref_inv
          split at e
          · rename_i l el
            split at e
            · rename_i j ej
              cases e
              have ea2 := e2.pre n a ea
              obtain ⟨xs, z1, z2⟩ := rh2.obj n _ a el ea2
              have rv2 := (rv.mono e1).mono e2
              have w : Ext μ2 H2 μ2 (upd H2 a (.lst (xs.set j x))) := ext_write ea2
              refine ⟨a, xs, q, j, rfl, rz.int_inv, z1, by rw [z2.length]; exact ej, k μ2 _ σ ((e1.trans e2).trans w) (rh2.write ea2 ⟨_, upd_same, (z2.set rv2 j).mono w⟩) (((re.mono e1).mono e2).mono w)⟩
            · cases e
          · cases e
        | _ => cases e
      | exc _ _ => rw [ei] at e; cases e
      | bad => rw [ei] at e; cases e
    | _ => cases e
  | exc _ _ => rw [eo] at e; cases e
  | bad => rw [eo] at e; cases e

/-! ### a, b = x, y, the names swapped -/
def aPar2 (i j : Nat) (fa : AA) : AS := fun ρ h => .ofRes ρ (fa ρ h) fun l h1 => match l with
  | [a, b] => .nx ((ρ.set i (some a)).set j (some b)) h1
  | _ => .bad
theorem tDA.seqS {fa : AA} {Z : List Addr} {μ : Mu} {H : Hp} {h : AHeap} {ρ : AEnv} {σ : L2.St} {k : List AV → AHeap → SRes} {Y : List V → Hp → Prop} {D : Ends} (rh : RepH (cc X Z) μ h H) (re : RepE (cc X Z) μ H ρ σ) (p : PostS (cc X Z) μ H W D (.ofRes ρ (fa ρ h) k))
    (hY : ∀ μ1 H1 h1 l xs, Ext μ H μ1 H1 → RepH (cc X Z) μ1 h1 H1 → RepE (cc X Z) μ1 H1 ρ σ → RVs (cc X Z) μ1 H1 l xs → PostS (cc X Z) μ1 H1 W D (k l h1) → Y xs H1) : tDA X W fa σ H Y :=
  ⟨Z, μ, ρ, h, rh, re, (PostS.of re p).mono fun μ1 H1 h1 l e r q xs rx => hY μ1 H1 h1 l xs e r (re.mono e) rx q⟩
theorem DS.par2 (i j : Nat) {x y : Str} {a b : Expr} {fa : AA} {px py pt : Pos} {kt k2 : Nat} {pt2 : Pos} (hc : X.calm = true) (hN : X.N.Nodup) (ha : DA X W [a, b] fa)
    (hw : swappedStores [.Tuple [.Name x px, .Name y py] kt pt] (.Tuple [a, b] k2 pt2) X.env = pure (some [x, y])) (hi : X.N[i]? = some x := by rfl) (hj : X.N[j]? = some y := by rfl) (hij : i ≠ j := by decide)
    (hx : X.env.scope.names.lookup x = some .local := by rfl) (hy : X.env.scope.names.lookup y = some .local := by rfl)
    (hs : swapsWithSole [.Tuple [.Name x px, .Name y py] kt pt] (.Tuple [a, b] k2 pt2) pos.line X.env = pure false := by rfl) : DS X W (.Assign [.Tuple [.Name x px, .Name y py] kt pt] (.Tuple [a, b] k2 pt2) pos) (aPar2 i j fa) := by
  refine ⟨PS.wk (ps_par hc hN hi hj hij hx hy ha.pa hw hs) fun D σ H h => ?_⟩
  obtain ⟨Z, μ, ρ, h, rh, re, p⟩ := h
  refine tDA.seqS rh re p fun μ1 H1 h1 l xs e1 rh1 re1 rl p1 => ?_
  split at p1
  · rename_i u v
    obtain ⟨z, w, rfl, rz, rw'⟩ := rl.two
    exact ⟨z, w, rfl, p1 μ1 H1 _ (.refl _ _) rh1 ((re1.set rz i).set rw' j)⟩
  · exact p1.elim

/-! ### dict displays -/
theorem DE.dct0 : DE X W (.Dict [] [] pos) (aC (.dct [] [])) := by
  refine ⟨PE.wk pe_dnewK fun σ H Q h => ?_⟩
  obtain ⟨Z, μ, ρ, h, rh, re, p⟩ := h
  exact fun q hq => Post.fin1 (a := AV.dct [] []) p rh hq _ (.dct ⟨rh.fresh hq, rh.freshZ hq, rfl, upd_same⟩ .nil)
def keyOf : AV → Option Key
  | .int i => some (.inl i)
  | .str s => some (.inr (sOf s))
  | _ => none
def aDct1 (fk fv : AE) : AE := fun ρ h => match fk ρ h with
  | .ok k h1 => match fv ρ h1 with
    | .ok v h2 => match keyOf k, flat? v with
      | some q, some _ => .ok (.dct [q] [v]) h2
      | _, _ => .bad
    | _ => .bad
  | _ => .bad
theorem key_rv {C : Ctx} {μ : Mu} {H : Hp} {v : AV} {x : V} {k : Key} (r : RV C μ H v x) (e : keyOf v = some k) : x = kV k := by
  cases v with
  | int i => cases e; exact r.int_inv
  | str s => cases e; exact r.str_inv
  | _ => cases e
theorem flat_any {C : Ctx} {μ : Mu} {H : Hp} {C' : Ctx} {μ' : Mu} {H' : Hp} {v : AV} {x w : V} (r : RV C μ H v x) (e : flat? v = some w) : RV C' μ' H' v x := by
  cases v with
  | non => rw [r.non_inv]; exact .non
  | bl b => rw [r.bl_inv]; exact .bl
  | int b => rw [r.int_inv]; exact .int
  | str b => rw [r.str_inv]; exact .str
  | _ => cases e
theorem DE.dct1 {k v : Expr} {fk fv : AE} (hk : DE X W k fk) (hv : DE X W v fv) : DE X W (.Dict [some k] [v] pos) (aDct1 fk fv) := by
  refine ⟨PE.wk (pe_disp (pps_cons hk.pe hv.pe pps_nil) rfl rfl (by simp) (show 1 ≤ 15 by decide)) fun σ H Q h => ?_⟩
  obtain ⟨Z, μ, ρ, h, rh, re, p⟩ := h
  intro q hq
  have la : Ext μ H μ (upd H q (.dK [])) := .laid μ hq
  have nq := rh.fresh hq
  have nz : q ∉ Z := rh.freshZ hq
  have hz0 : ∀ a ∈ q :: Z, a ∈ (cc X Z).Z ∨ H a = none := fun a ha => by
    rcases List.mem_cons.mp ha with e | e
    · exact .inr (by rw [e]; exact hq)
    · exact .inl e
  have turn0 := turn_new (C := cc X Z) (μ := μ) hz0
  have turn : ∀ {μ : Mu} {H : Hp}, ∀ a, (∃ o, a ∉ μ ∧ H a = some o) → a ∉ (cc X (q :: Z)).Z → a ∉ (cc X Z).Z := fun a _ hn hm => hn (List.mem_cons_of_mem _ hm)
  have rh0 : RepH (cc X (q :: Z)) μ h (upd H q (.dK [])) := by
    refine ⟨rh.len, rh.nd, fun n o a q1 q2 => ?_, fun a ha => ?_⟩
    · exact ((rh.obj n o a q1 q2).turnZ (C := cc X Z) (C' := cc X (q :: Z)) rfl rfl turn0).mono la (upd_ne fun z => nq (z ▸ List.mem_of_getElem? q2))
    · rcases List.mem_cons.mp ha with e | e
      · subst e; exact ⟨nq, _, upd_same⟩
      · obtain ⟨n, u, z⟩ := rh.zs a e
        exact ⟨n, u, by rw [upd_ne fun w => by rw [w, hq] at z; cases z]; exact z⟩
  have re0 : RepE (cc X (q :: Z)) μ (upd H q (.dK [])) ρ σ := (re.turnZ (C := cc X Z) (C' := cc X (q :: Z)) rfl rfl turn0).mono la
  unfold aDct1 at p
  cases ek : fk ρ h with
  | bad => rw [ek] at p; exact p.elim
  | exc e h' => rw [ek] at p; exact p.elim
  | ok a h1 =>
    rw [ek] at p
    dsimp only at p
    refine ⟨q :: Z, μ, ρ, h, rh0, re0, ?_⟩
    rw [ek]
    intro μ1 H1 e1 rh1 x rx
    cases ev : fv ρ h1 with
    | bad => rw [ev] at p; exact p.elim
    | exc e h' => rw [ev] at p; exact p.elim
    | ok b h2 =>
      rw [ev] at p
      dsimp only at p
      refine ⟨q :: Z, μ1, ρ, h1, rh1, re0.mono e1, ?_⟩
      rw [ev]
      intro μ2 H2 e2 rh2 y ry
      split at p
      · rename_i k' w hk' hw
        have hq2 : H2 q = some (.dK []) := (e1.trans e2).frame _ _ nq upd_same
        have nq2 : q ∉ μ2 := (rh2.zs q (List.mem_cons_self ..)).1
        have := key_rv rx hk'
        subst this
        refine ⟨hq2, [(k', y)], rfl, show 1 ≤ 15 by decide, ?_⟩
        have rhF := rh2.fill (u1 := .dK (mergeK [] [(k', y)])) (List.mem_cons_self ..) (.inr ⟨_, hq2⟩)
        refine p μ2 _ (Ext.fillD (la.trans (e1.trans e2)) hq) (rhF.turnZ (C := cc X (q :: Z)) (C' := cc X Z) rfl rfl turn fun a ha => rhF.zs a (List.mem_cons_of_mem _ ha)) _ (.dct ⟨nq2, nz, rfl, upd_same⟩ (.cons (flat_any ry hw) .nil))
      · exact p.elim
end

/-! ### repr -/
def keyData : Key → PyData
  | .inl i => .int i
  | .inr x => .str x
mutual
def AV.dataR : AV → Option PyData
  | .non => some .none
  | .bl b => some (.bool b)
  | .int i => some (.int i)
  | .str s => some (.str ⟨s.toArray⟩)
  | .tup l => (AV.dataRs l).map .tuple
  | .lst l => (AV.dataRs l).map .list
  | .dct ks l => match AV.dataRs l with
    | some ds => if ds.length = ks.length then some (.dict ((ks.map keyData).zip ds)) else none
    | none => none
  | _ => none
def AV.dataRs : List AV → Option (List PyData)
  | [] => some []
  | v :: l => match AV.dataR v, AV.dataRs l with
    | some d, some r => some (d :: r)
    | _, _ => none
end
mutual
/-- no list in it -/
def AV.noL : AV → Bool
  | .lst _ => false
  | .ref _ => false
  | .tup l => AV.noLs l
  | .dct _ l => AV.noLs l
  | _ => true
def AV.noLs : List AV → Bool
  | [] => true
  | v :: l => AV.noL v && AV.noLs l
end
section
variable {X : Cx} {pins : List (Addr × Obj)} {σ : L2.St} {H : Hp} {s : Shared} {Z : List Addr} {μ : Mu}
theorem key_reads {h : Heap} (k : Key) (key : Value) (e : (mixKind X.prog X.w).is k key = true) : Reads h key (keyData k) [] := by
  rcases keyIs_shape (show keyIs k key = true from e) with ⟨i, t, rfl, rfl⟩ | ⟨x, t, rfl, rfl⟩
  · exact .int i t
  · exact .str x t
theorem vals_kv : ∀ {ks : List Key} {xs : List V} {vs : List (Key × Value)}, KV (ks.zip xs) vs → ks.length = xs.length → ∃ us, Vals xs us ∧ vs = ks.zip us
  | [], [], vs, r, _ => by unfold KV at r; cases r; exact ⟨[], .nil, rfl⟩
  | k :: ks, x :: xs, vs, r, hl => by
    unfold KV at r
    rw [List.zip_cons_cons] at r
    cases r with
    | cons a b =>
      obtain ⟨us, r1, r2⟩ := vals_kv (ks := ks) (xs := xs) b (by simpa using hl)
      rename_i q qs
      obtain ⟨q1, q2⟩ := q
      obtain ⟨a1, a2⟩ := a
      have a1 : k = q1 := a1
      subst a1 r2
      exact ⟨q2 :: us, .cons a2 r1, rfl⟩
  | [], _ :: _, _, _, hl => by simp at hl
  | _ :: _, [], _, _, hl => by simp at hl
theorem pairs_read {h : Heap} : ∀ {ks : List Key} {us : List Value} {ds : List PyData} {as : List Addr}, ReadsAll h us ds as → ks.length = us.length → PyProof.V.PairsRead h keyData (ks.zip us) ((ks.map keyData).zip ds) as
  | [], [], _, _, r, _ => by cases r; exact .nil
  | k :: ks, u :: us, _, _, r, hl => by
    cases r with
    | cons a b => exact .cons a (pairs_read b (by simpa using hl))
  | [], _ :: _, _, _, _, hl => by simp at hl
  | _ :: _, [], _, _, _, hl => by simp at hl
theorem RelV.ref_inv {a : Addr} {u : Value} (r : RelV (.ref a) u) : u = .ref a := r
mutual
theorem reads_of (I : Inv X pins σ H s) : ∀ {v : AV} {x : V} {u : Value} {d : PyData}, RV (cc X Z) μ H v x → RelV x u → v.dataR = some d → ∃ as, Reads s.heap u d as ∧ (v.noL = true → sysModules ∉ as)
  | .non, x, u, d, r, q, e => by cases e; rw [r.non_inv] at q; cases (show u = Value.none from q); exact ⟨_, .none, by simp⟩
  | .bl b, x, u, d, r, q, e => by cases e; rw [r.bl_inv] at q; cases (show u = Value.bool b from q); exact ⟨_, .bool b, by simp⟩
  | .int i, x, u, d, r, q, e => by
    cases e; rw [r.int_inv] at q
    obtain ⟨t, rfl⟩ := (show ∃ t, u = Value.int i t from q)
    exact ⟨_, .int i t, by simp⟩
  | .str i, x, u, d, r, q, e => by
    cases e; rw [r.str_inv] at q
    obtain ⟨t, rfl⟩ := (show ∃ t, u = Value.str ⟨i.toArray⟩ t from q)
    exact ⟨_, .str _ t, by simp⟩
  | .tup l, x, u, d, r, q, e => by
    obtain ⟨a, xs, rfl, t, rl⟩ := r.tup_inv
    cases (show u = Value.ref a from q)
    unfold AV.dataR at e
    cases ed : AV.dataRs l with
    | none => rw [ed] at e; cases e
    | some ds =>
      rw [ed] at e; cases e
      obtain ⟨its, rv, ⟨o, ho, hc, n, hd⟩, _⟩ := I.tuple t.sq
      obtain ⟨as, h1, h2⟩ := reads_all I rl rv ed
      exact ⟨_, Reads.tuple ho hc hd h1, fun z => h2 (by simpa [AV.noL] using z)⟩
  | .lst l, x, u, d, r, q, e => by
    obtain ⟨a, xs, rfl, t, rl⟩ := r.lst_inv
    cases (show u = Value.ref a from q)
    unfold AV.dataR at e
    cases ed : AV.dataRs l with
    | none => rw [ed] at e; cases e
    | some ds =>
      rw [ed] at e; cases e
      obtain ⟨its, rv, ⟨o, n, ho, hc, _, hd⟩, _⟩ := I.list t.sq
      obtain ⟨as, h1, h2⟩ := reads_all I rl rv ed
      exact ⟨_, Reads.list ho hc hd h1, fun z => by simp [AV.noL] at z⟩
  | .dct ks l, x, u, d, r, q, e => by
    obtain ⟨a, xs, rfl, ⟨t1, t2, t3, t4⟩, rl⟩ := r.dct_inv
    cases (show u = Value.ref a from q)
    unfold AV.dataR at e
    cases ed : AV.dataRs l with
    | none => rw [ed] at e; cases e
    | some ds =>
      rw [ed] at e
      dsimp only at e
      split at e
      · rename_i hl
        cases e
        obtain ⟨_, hsm, vs, kv, dd⟩ := dk_of I.hok t4
        obtain ⟨us, rv, rfl⟩ := vals_kv kv t3
        obtain ⟨as, h1, h2⟩ := reads_all I rl rv ed
        refine ⟨_, PyProof.V.reads_dictOf (enc := keyData) (fun k key => key_reads (X := X) k key) dd (pairs_read h1 (by rw [t3, rv.length])), fun z => ?_⟩
        have := h2 (by simpa [AV.noL] using z)
        intro hm
        rcases List.mem_cons.mp hm with e | e
        · rw [← e] at hsm; simp at hsm
        · exact this e
      · cases e
  | .ref _, _, _, _, _, _, e => by simp [AV.dataR] at e
  | .ty _, _, _, _, _, _, e => by simp [AV.dataR] at e
  | .gl _, _, _, _, _, _, e => by simp [AV.dataR] at e
theorem reads_all (I : Inv X pins σ H s) : ∀ {l : List AV} {xs : List V} {us : List Value} {ds : List PyData}, RVs (cc X Z) μ H l xs → Vals xs us → AV.dataRs l = some ds → ∃ as, ReadsAll s.heap us ds as ∧ (AV.noLs l = true → sysModules ∉ as)
  | [], xs, us, ds, r, q, e => by
    simp only [RVs] at r; subst r
    cases q
    simp only [AV.dataRs, Option.some.injEq] at e; subst e
    exact ⟨_, .nil, by simp⟩
  | v :: l, xs, us, ds, r, q, e => by
    obtain ⟨x, t, rfl, r1, r2⟩ := r.inv
    unfold AV.dataRs at e
    split at e
    · rename_i d ds' e1 e2
      cases e
      cases q with
      | cons q1 q2 =>
        obtain ⟨as, h1, h2⟩ := reads_of I r1 q1 e1
        obtain ⟨bs, h3, h4⟩ := reads_all I r2 q2 e2
        refine ⟨_, .cons h1 h3, fun z => ?_⟩
        have z : AV.noL v = true ∧ AV.noLs l = true := by simpa [AV.noLs] using z
        simp [h2 z.1, h4 z.2]
    · cases e
end
def okR (v : AV) (d : PyData) : Bool := d.showable && (v.noL || !d.hasDict) && decide (d.shown.length ≤ szM) && decide (d.depth ≤ 64)
def vRepr : PFn := fun _ l => match l with
  | [v] => match v.dataR with
    | some d => if okR v d = true then some (.str d.shown.cps.toList) else none
    | none => none
  | _ => none
theorem VCall.repr (hg : X.A.guards = some []) (hu : X.A.units + 100 < cLine) : VCall X (.builtin "repr") vRepr := by
  intro pins s σ H xs us Q I r hh
  obtain ⟨Z, μ, h, l, v, rh, rl, ev, o⟩ := hh
  unfold vRepr at ev
  split at ev
  · rename_i w
    obtain ⟨x, rfl, rx⟩ := rl.one
    obtain ⟨u, rfl, ru⟩ := Vals.one r
    split at ev
    · rename_i d ed
      split at ev
      · rename_i hc
        cases ev
        unfold okR at hc
        simp only [Bool.and_eq_true, Bool.or_eq_true, decide_eq_true_eq] at hc
        obtain ⟨⟨⟨c1, c2⟩, c3⟩, c4⟩ := hc
        have c3 := le_line c3
        have fin : ∀ h' u' tk, (∀ b o, s.heap.get? b = some o → h'.get? b = some o) → EP X pins σ Q (.str d.shown u') { s with heap := h', toks := tk } := fun h' u' tk hk =>
          ⟨.str d.shown, H, I.kept (t' := tk) hk, ⟨u', rfl⟩, o.val rh (.strOf _)⟩
        cases w with
        | non => cases ed; rw [rx.non_inv] at ru; cases (show u = Value.none from ru); exact PySem.P.repr_of_none (fin s.heap _ _ fun _ _ e => e)
        | bl b => cases ed; rw [rx.bl_inv] at ru; cases (show u = Value.bool b from ru); exact PySem.P.repr_of_bool (fin s.heap _ _ fun _ _ e => e)
        | int i =>
          cases ed; rw [rx.int_inv] at ru
          obtain ⟨t, rfl⟩ := (show ∃ t, u = Value.int i t from ru)
          exact PySem.P.repr_of_int (by simpa [PyData.showable] using c1) (fin s.heap _ _ fun _ _ e => e)
        | str i =>
          cases ed; rw [rx.str_inv] at ru
          obtain ⟨t, rfl⟩ := (show ∃ t, u = Value.str ⟨i.toArray⟩ t from ru)
          exact PySem.P.repr_of_str (fin s.heap _ _ fun _ _ e => e) c3
        | tup l =>
          obtain ⟨a, ys, rfl, _, _⟩ := rx.tup_inv
          cases (show u = Value.ref a from ru)
          obtain ⟨as, h1, h2⟩ := reads_of I rx rfl ed
          exact repr_of_reads' h1 c1 (fun hd => h2 (c2.resolve_right (by rw [hd]; decide))) hg (by omega) (fun _ _ e => e) (fun h' u' tk hk => fin h' u' tk hk) c3
        | lst l =>
          obtain ⟨a, ys, rfl, _, _⟩ := rx.lst_inv
          cases (show u = Value.ref a from ru)
          obtain ⟨as, h1, h2⟩ := reads_of I rx rfl ed
          exact repr_of_reads' h1 c1 (fun hd => h2 (c2.resolve_right (by rw [hd]; decide))) hg (by omega) (fun _ _ e => e) (fun h' u' tk hk => fin h' u' tk hk) c3
        | dct ks l =>
          obtain ⟨a, ys, rfl, _, _⟩ := rx.dct_inv
          cases (show u = Value.ref a from ru)
          obtain ⟨as, h1, h2⟩ := reads_of I rx rfl ed
          exact repr_of_reads' h1 c1 (fun hd => h2 (c2.resolve_right (by rw [hd]; decide))) hg (by omega) (fun _ _ e => e) (fun h' u' tk hk => fin h' u' tk hk) c3
        | _ => simp [AV.dataR] at ed
      · cases ev
    · cases ev
  · cases ev
end
end AI
namespace AI
open PySem PySem.Spec PyProof.Rows
open L2

/-- the script as a list of the abstract side -/
def scriptV (ns : List Int) : AV := .lst (ns.map AV.int)
theorem ints_rvs {C : Ctx} {μ : Mu} {H : Hp} : ∀ ns : List Int, RVs C μ H (ns.map AV.int) (ns.map V.int)
  | [] => .nil
  | n :: ns => .cons .int (ints_rvs ns)
/-- the script tracked (or an object of the text), nothing else -/
structure Start (P : Program) (w : World) (K : PySem.W.Frag) (mg : Str → Option Value) (h : Heap) (a : Addr) (ob : Obj) (ns : List Int) (H : Hp) : Prop where
  only : ∀ b u, H b = some u → b = a ∧ u = .frz ob (.lst (ns.map V.int))
  lst : LstAt ⟨K, mg, []⟩ [] H a (ns.map V.int)
  hok : HOk P w H h
  nk : H a ≠ none → K.lookup a = none
section
variable {P : Program} {w : World} {K : PySem.W.Frag} {mg mb : Str → Option Value} {k : Nat} {fa a : Addr} {fd : FuncData} {x : Str} {m : MF} {s : Shared} {vs : List Value} {ns : List Int}
theorem start_of (KX : K.In s.heap) (ha : s.heap.get? a = some { cls := .type "list", data := .seq vs.toArray }) (hi : IntsAre vs ns) (hl : ns.length ≤ sizeLine) :
    ∃ H, Start P w K mg s.heap a { cls := .type "list", data := .seq vs.toArray } ns H := by
  have rv := vals_ints hi
  cases q : K.lookup a with
  | some o =>
    have z := KX a o q
    rw [ha] at z
    cases z
    refine ⟨fun _ => none, ⟨(fun _ u e => nomatch (show (none : Option HO) = some u from e)), .inr ⟨_, vs.toArray, _, q, rfl, rfl, rfl, ?_, by simpa using rv⟩, (fun _ u e => nomatch (show (none : Option HO) = some u from e)), fun z => absurd rfl z⟩⟩
    rw [List.size_toArray, hi.length]; exact hl
  | none =>
    let u : HO := .frz { cls := .type "list", data := .seq vs.toArray } (.lst (ns.map V.int))
    have at_ : (upd (fun _ => none) a u) a = some u := upd_same
    have inv : ∀ b v, (upd (fun _ => none) a u) b = some v → b = a ∧ v = u := fun b v e => by
      by_cases hb : b = a
      · subst hb; rw [at_] at e; cases e; exact ⟨rfl, rfl⟩
      · rw [upd_ne hb] at e; cases e
    refine ⟨upd (fun _ => none) a u, ⟨inv, .inl ⟨by simp, by simp, .inr ⟨_, at_⟩⟩, fun b v e => ?_, fun _ => q⟩⟩
    obtain ⟨rfl, rfl⟩ := inv b v e
    exact ⟨ha, by rw [List.length_map]; exact hl, vs, _, rv, ha⟩
/-- the law's def, called with the script where nothing runs yet, answers True -/
theorem lawG (KX : K.In s.heap) (hns : s.heap.Ns mainGlobals mg) (hb : s.heap.Ns builtinsNs mb) (hbb : ∀ x : Str, x ≠ "__name__" → mb x = bootBuiltins x) (hlim : s.heap.NoLimit) (hg : s.gens = #[])
    (ha : s.heap.get? a = some { cls := .type "list", data := .seq vs.toArray }) (hi : IntsAre vs ns) (hl : ns.length ≤ sizeLine) (hr : Room k callerA)
    (F : ∀ base : Heap, K.In base → base.Ns mainGlobals mg → FG P w K mg base k fa fd [x] m) (hbind : ∀ (s : Shared) (u : Value), BindsTo s fd ⟨[u], []⟩ [(x, u)])
    (hm : ∃ h', m [scriptV ns] [] = .ok (.bl true) h') :
    codeAny (model P w) callerA (.call (.ref fa) ⟨[.ref a], []⟩) (fun r s' => r = .ok (.ret (.bool true)) ∧ OldK s.heap s'.heap ∧ s'.os = s.os ∧ AllBare s'.gens) s := by
  obtain ⟨H, S⟩ := start_of (P := P) (w := w) (mg := mg) KX ha hi hl
  obtain ⟨h', em⟩ := hm
  have out : ∀ {b : Addr} {o : Obj} {es : Array DictEntry} {ep : Nat}, s.heap.get? b = some o → o.data = .dict es ep → H b = none := fun {b o es ep} e d => by
    cases q : H b with
    | none => rfl
    | some u =>
      obtain ⟨rfl, _⟩ := S.only b u q
      rw [ha] at e
      cases e
      cases (show Data.seq vs.toArray _ = Data.dict es ep from d)
  have hid : ∀ {b : Addr} {m : Str → Option Value}, s.heap.Ns b m → (hidT s.heap H).Ns b m := fun ⟨o, es, ep, e, d, r⟩ => ⟨o, es, ep, hidT_get e (out e d), d, r⟩
  have kin : K.In (hidT s.heap H) := fun b o e => hidT_get (KX b o e) (by
    cases q : H b with
    | none => rfl
    | some u =>
      obtain ⟨rfl, _⟩ := S.only b u q
      rw [S.nk (by rw [q]; simp)] at e
      cases e)
  have md : Mod K mg (hidT s.heap H) := ⟨kin, hid hns, ⟨mb, hid hb, hbb⟩, by
    obtain ⟨mc, l1, l2⟩ := hlim
    exact ⟨mc, hid l1, l2⟩⟩
  have e0 : Env0 P w K mg (hidT s.heap H) callerA [] s H :=
    { frames := rfl, mod := md, bs := fun b o e => of_hidT e, bsz := Nat.le_of_eq (hidT_size _ _), funs := trivial, frf := (fun b z => by cases z), hok := S.hok, bare := .of_eq hg }
  have sp : spD K mg 1 m [.ref a] H (fun v _ => v = .bl true) (fun _ _ _ => False) := by
    refine ⟨rfl, [], [], [], [scriptV ns], ⟨rfl, List.nodup_nil, (fun n o a e => by cases e), (fun a z => by cases z)⟩, RVs.cons (RV.lst S.lst (ints_rvs ns)) .nil, ?_⟩
    rw [em]
    exact fun _ _ _ _ _ r => r.bl_inv
  refine codeAny_mono ((F _ kin (hid hns)).run callerA [] s H ⟨[.ref a], []⟩ [.ref a] [.ref a] _ _ hr rfl e0 (hbind s (.ref a)) (.cons rfl .nil) sp) fun r s' back => ?_
  cases r with
  | error e =>
    obtain ⟨_, _, _, _, _, hE⟩ := back
    exact (show False from by simp_all).elim
  | ok fl =>
    cases fl with
    | ret u =>
      obtain ⟨v, H', os, bare, un, hok', r', q⟩ := back
      have q : v = .bl true := q
      subst q
      cases (show u = Value.bool true from r')
      refine ⟨rfl, OldK.of_keep fun b o e => ?_, os, bare⟩
      cases q : H b with
      | none => exact un.keep b o e q (fun z => by cases z) (fun z => by cases z)
      | some u =>
        obtain ⟨rfl, rfl⟩ := S.only b u q
        have p := hok' b _ (un.frzs b _ _ q)
        rw [ha] at e
        cases e
        exact p.1
    | next => exact False.elim back
    | brk => exact False.elim back
    | cont => exact False.elim back
end
/-- a law over a head by facts -/
theorem walkG {l : PySem.W.OpenLaw} {n k : Nat} {q : Program} {loose : List Str} {XP : (Str → Option Value) → Heap → Prop} {YP : World → Heap → Prop} {d : DefRec} {x : Str} (hn : l.most = some n) (hn2 : n ≤ sizeLine) (hdf : d.params.defaults = []) (hr : Room k callerA) {m : MF}
    (F : ∀ (w : World) (mg : Str → Option Value) (fa : Addr) (h : Heap), YP w h → h.Ns mainGlobals mg → mg d.name = some (.ref fa) → ∃ (K : PySem.W.Frag) (fd : FuncData), K.In h ∧ (∀ (s : Shared) (u : Value), BindsTo s fd ⟨[u], []⟩ [(x, u)]) ∧
      ∀ base : Heap, K.In base → base.Ns mainGlobals mg → FG l.prog w K mg base k fa fd [x] m)
    (hm : ∀ ns : List Int, ns.length ≤ n → ∃ h', m [scriptV ns] [] = .ok (.bl true) h') :
    PySem.W.WalkO q loose XP YP l.row.toRowW d [] (fun f vs => PySem.call f vs) := by
  refine Att.attach_call hn hdf fun w s₀ s₁ mg mb fa o pm cd doc a vs ns G Y ho hd hcd hmg hobj hints hlen hg => ?_
  obtain ⟨K, fd, KX, hb, hF⟩ := F w mg fa _ Y G.T.g hmg
  exact lawG KX G.T.g G.T.b G.T.builtins G.T.nolimit hg hobj hints (Nat.le_trans hlen hn2) hr hF hb (hm ns hlen)
end AI
namespace AI
open PySem PySem.Spec PyProof.Rows
open L2

/-! ### what a derivation leans on -/
structure Cn (k : Nat) (X : Cx) : Prop where
  cm : X.calm = true
  nd : X.N.Nodup
  rm : Room k X.A
  gd : X.A.guards = some []
section
variable {X : Cx} {k : Nat}
theorem Cn.u1 (c : Cn k X) : X.A.units + 64 < cLine := by have := c.rm.un; omega
theorem Cn.u2 (c : Cn k X) : X.A.units + 65 < cLine := by have := c.rm.un; omega
theorem Cn.u3 (c : Cn k X) : X.A.units + 100 < cLine := by have := c.rm.un; omega
theorem Cn.b (c : Cn k X) {s : Shared} {H : Hp} {scope : Scope} {e : Env} {fp : List Addr} : Cn k (X.blk s H scope e fp) := ⟨c.cm, c.nd, c.rm, c.gd⟩
theorem takesN : Takes X W0 := fun u s' ⟨_, _, _, _, _, _, _, _, _, _, _, _, _, _, _, _, w⟩ => w.elim
end
/-- the module's name x holds v -/
def GV (K : PySem.W.Frag) (mg : Str → Option Value) (x : Str) (v : AV) : Prop := ∃ u, mg x = some u ∧ ∀ Z μ H, ∃ y, RelV y u ∧ RV ⟨K, mg, Z⟩ μ H v y
mutual
def gvB (K : PySem.W.Frag) : AV → Value → Bool
  | .non, .none => true
  | .bl b, .bool c => b == c
  | .int i, .int j _ => decide (i = j)
  | .str s, .str z _ => decide (z.cps.toList = s)
  | .tup l, .ref a => (match K.lookup a with
    | some ⟨.type c, _, .seq its _, _⟩ => decide (c = "tuple") && (decide (its.size ≤ sizeLine) && gvsB K l its.toList)
    | _ => false)
  | .lst l, .ref a => (match K.lookup a with
    | some ⟨.type c, none, .seq its _, _⟩ => decide (c = "list") && (decide (its.size ≤ sizeLine) && gvsB K l its.toList)
    | _ => false)
  | _, _ => false
def gvsB (K : PySem.W.Frag) : List AV → List Value → Bool
  | [], [] => true
  | v :: l, u :: us => gvB K v u && gvsB K l us
  | _, _ => false
end
mutual
theorem gvB_ok {K : PySem.W.Frag} {mg : Str → Option Value} : ∀ {v : AV} {u : Value}, gvB K v u = true → ∃ y, RelV y u ∧ ∀ Z μ H, RV ⟨K, mg, Z⟩ μ H v y
  | .non, u, h => by
    cases u <;> first | exact ⟨.non, rfl, fun _ _ _ => .non⟩ | simp [gvB] at h
  | .bl b, u, h => by
    cases u with
    | bool c => have : b = c := by simpa [gvB] using h
                subst this; exact ⟨.bl b, rfl, fun _ _ _ => .bl⟩
    | _ => simp [gvB] at h
  | .int b, u, h => by
    cases u with
    | int c t => have : b = c := by simpa [gvB] using h
                 subst this; exact ⟨.int b, ⟨t, rfl⟩, fun _ _ _ => .int⟩
    | _ => simp [gvB] at h
  | .str s, u, h => by
    cases u with
    | str z t => have : z.cps.toList = s := by simpa [gvB] using h
                 subst this; exact ⟨.str z, ⟨t, rfl⟩, fun _ _ _ => .strOf z⟩
    | _ => simp [gvB] at h
  | .tup l, u, h => by
    cases u with
    | ref a =>
      unfold gvB at h
      split at h
      · rename_i c dd its n sl q
        obtain ⟨h1, h2⟩ := Bool.and_eq_true_iff.mp h
        obtain ⟨h3, h4⟩ := Bool.and_eq_true_iff.mp h2
        obtain ⟨xs, r, rl⟩ := gvsB_ok (mg := mg) h4
        have h1 := of_decide_eq_true h1
        subst h1
        exact ⟨.ref a, rfl, fun Z μ H => .tup (.inr ⟨_, its, n, q, rfl, rfl, of_decide_eq_true h3, r⟩) (rl Z μ H)⟩
      · cases h
    | _ => simp [gvB] at h
  | .lst l, u, h => by
    cases u with
    | ref a =>
      unfold gvB at h
      split at h
      · rename_i c its n sl q
        obtain ⟨h1, h2⟩ := Bool.and_eq_true_iff.mp h
        obtain ⟨h3, h4⟩ := Bool.and_eq_true_iff.mp h2
        obtain ⟨xs, r, rl⟩ := gvsB_ok (mg := mg) h4
        have h1 := of_decide_eq_true h1
        subst h1
        exact ⟨.ref a, rfl, fun Z μ H => .lst (.inr ⟨_, its, n, q, rfl, rfl, rfl, of_decide_eq_true h3, r⟩) (rl Z μ H)⟩
      · cases h
    | _ => simp [gvB] at h
  | .dct _ _, u, h => by simp [gvB] at h
  | .ref _, u, h => by simp [gvB] at h
  | .ty _, u, h => by simp [gvB] at h
  | .gl _, u, h => by simp [gvB] at h
theorem gvsB_ok {K : PySem.W.Frag} {mg : Str → Option Value} : ∀ {l : List AV} {us : List Value}, gvsB K l us = true → ∃ ys, Vals ys us ∧ ∀ Z μ H, RVs ⟨K, mg, Z⟩ μ H l ys
  | [], us, h => by
    cases us with
    | nil => exact ⟨[], .nil, fun _ _ _ => .nil⟩
    | cons _ _ => simp [gvsB] at h
  | v :: l, us, h => by
    cases us with
    | nil => simp [gvsB] at h
    | cons u us =>
      obtain ⟨h1, h2⟩ := Bool.and_eq_true_iff.mp (show (gvB K v u && gvsB K l us) = true from h)
      obtain ⟨y, r, q⟩ := gvB_ok (mg := mg) h1
      obtain ⟨ys, rs, qs⟩ := gvsB_ok (mg := mg) h2
      exact ⟨y :: ys, .cons r rs, fun Z μ H => .cons (q Z μ H) (qs Z μ H)⟩
end
/-- what the head tells of the text's names beside the defs -/
def gAll (free : List Str) (vals : List (Str × AV)) (K : PySem.W.Frag) : Bool :=
  (free.all fun x => He.eqO (PySem.W.nsIn K mainGlobals x) (some none)) && vals.all fun q => match PySem.W.nsIn K mainGlobals q.1 with
    | some (some u) => gvB K q.2 u
    | _ => false
section
variable {K : PySem.W.Frag} {h : Heap} {mg : Str → Option Value} {free : List Str} {vals : List (Str × AV)}
theorem gAll_free (X : K.In h) (G : h.Ns mainGlobals mg) (c : gAll free vals K = true) (i : Nat) {x : Str} (e : free[i]? = some x := by rfl) : mg x = none :=
  PySem.W.mg_none_of X G (He.eqO_ok (List.all_eq_true.mp (Bool.and_eq_true_iff.mp c).1 x (List.mem_of_getElem? e)))
theorem gAll_val (X : K.In h) (G : h.Ns mainGlobals mg) (c : gAll free vals K = true) (i : Nat) {x : Str} {v : AV} (e : vals[i]? = some (x, v) := by rfl) : GV K mg x v := by
  have q := List.all_eq_true.mp (Bool.and_eq_true_iff.mp c).2 (x, v) (List.mem_of_getElem? e)
  dsimp only at q
  split at q
  · rename_i u hu
    obtain ⟨y, r, rv⟩ := gvB_ok (mg := mg) q
    exact ⟨u, PySem.W.mg_of X G hu, fun Z μ H => ⟨y, r, rv Z μ H⟩⟩
  · cases q
end
/-! ### a def of the text -/
abbrev FnP (K : PySem.W.Frag) (x : Str) (st : Stmt) (f : Addr) (fd : FuncData) : Prop := FunD K x x (defArgs st) (defBody st) (defScope st) [] [] f fd
section
variable {P : Program} {w : World} {K : PySem.W.Frag} {mg : Str → Option Value} {base : Heap} {k : Nat} {x : Str} {st : Stmt} {f : Addr} {fd : FuncData} {N ps : List Str} {fb : AS}
theorem Fn.mono {j : Nat} {m : MF} (F : Fn P w K mg base j x m) (h : j ≤ k) : Fn P w K mg base k x m := by
  obtain ⟨f, fd, ps, h1, h2, h3, h4, h5⟩ := F.ex
  exact ⟨f, fd, ps, h1, h2, h3, h4, h5.mono h⟩
theorem FnK.mono {j n : Nat} {ks : List Str} {arr : List AV → List AV → List AV} {m : MF} (F : FnK P w K mg base j x n ks arr m) (h : j ≤ k) : FnK P w K mg base k x n ks arr m := by
  obtain ⟨f, fd, ps, g, gV, h1, h2, h3, h4, h5, h6⟩ := F.ex
  exact ⟨f, fd, ps, g, gV, h1, h2, h3, h4, h5, h6.mono h⟩
theorem Fn.of {m : MF} (F : FnP K x st f fd) (g : mg x = some (.ref f)) (hl : ∀ l h, l.length ≠ ps.length → m l h = .bad)
    (hb : ∀ (kV doc pm : Value) (an : Option Addr) (cdv ct : Value) (us : List Value), us.length = ps.length → bindArgs (PySem.W.fnOf x x (defArgs st) (defBody st) (defScope st) .none kV doc pm an cdv ct) ⟨us, []⟩ = pure (ps.zip us))
    (G : FG P w K mg base k f fd ps m) : Fn P w K mg base k x m := ⟨f, fd, ps, g, F.kp, F.bindsN hb, hl, G⟩
theorem FnK.of {m : MF} {n : Nat} {ks : List Str} (F : FnP K x st f fd) (g : mg x = some (.ref f)) (hl : ∀ l h, l.length ≠ ps.length → m l h = .bad)
    (hb : ∀ (kV doc pm : Value) (an : Option Addr) (cdv ct : Value) (us ws : List Value), us.length = n → ws.length = ks.length → bindArgs (PySem.W.fnOf x x (defArgs st) (defBody st) (defScope st) .none kV doc pm an cdv ct) ⟨us, ks.zip ws⟩ = pure (ps.zip (us ++ ws)))
    (G : FG P w K mg base k f fd ps m) : FnK P w K mg base k x n ks (fun a b => a ++ b) m := by
  obtain ⟨oc, od, dV, kV, doc, pm, an, cdv, ct, osl, rfl, lk, _, hD, _⟩ := F.ex
  refine ⟨f, _, ps, fun us ws => us ++ ws, fun us ws => us ++ ws, g, ⟨_, lk, rfl⟩, hl, ⟨fun s us ws _ h1 h2 => ?_, fun r q => r.append q⟩, fun _ _ r q => r.append q, G⟩
  rcases hD with ⟨_, rfl⟩ | ⟨e, _⟩
  · exact .of_eq (hb kV doc pm an cdv ct us ws h1 h2)
  · exact absurd rfl e
end
end AI
namespace AI
open PySem PySem.Spec PyProof.Rows
open L2

/-! ### what a mirror gives -/
def Ens {α : Type} (r : Res α) (P : α → AHeap → Prop) : Prop := match r with
  | .ok a h => P a h
  | _ => False
def EnS (r : SRes) (N : AEnv → AHeap → Prop) (R : AV → AHeap → Prop) (B C : AEnv → AHeap → Prop) : Prop := match r with
  | .nx ρ h => N ρ h
  | .rt v h => R v h
  | .bk ρ h => B ρ h
  | .ct ρ h => C ρ h
  | _ => False
def EnG (o : Option (AEnv × AHeap)) (N : AEnv → AHeap → Prop) : Prop := match o with
  | some q => N q.1 q.2
  | none => False
section
variable {α β : Type} {ρ : AEnv} {h : AHeap} {P : AV → AHeap → Prop} {N B C : AEnv → AHeap → Prop} {R : AV → AHeap → Prop}
theorem Ens.mono {r : Res α} {P Q : α → AHeap → Prop} (e : Ens r P) (k : ∀ a h, P a h → Q a h) : Ens r Q := by
  cases r with
  | ok a h => exact k a h e
  | exc _ _ => exact e
  | bad => exact e
theorem Ens.ex {r : Res α} {P : α → AHeap → Prop} (e : Ens r P) : ∃ a h, r = .ok a h ∧ P a h := by
  cases r with
  | ok a h => exact ⟨a, h, rfl, e⟩
  | exc _ _ => exact e.elim
  | bad => exact e.elim
theorem EnS.mono {r : SRes} {N' B' C' : AEnv → AHeap → Prop} {R' : AV → AHeap → Prop} (e : EnS r N R B C) (h1 : ∀ a h, N a h → N' a h) (h2 : ∀ a h, R a h → R' a h) (h3 : ∀ a h, B a h → B' a h) (h4 : ∀ a h, C a h → C' a h) : EnS r N' R' B' C' := by
  cases r with
  | nx _ _ => exact h1 _ _ e
  | rt _ _ => exact h2 _ _ e
  | bk _ _ => exact h3 _ _ e
  | ct _ _ => exact h4 _ _ e
  | exc _ _ _ => exact e
  | bad => exact e
theorem en_bind {r : Res α} {k : α → AHeap → Res β} {P : β → AHeap → Prop} : Ens (r.bind k) P = Ens r fun a h => Ens (k a h) P := by cases r <;> rfl
theorem en_ok {a : α} {P : α → AHeap → Prop} : Ens (.ok a h) P = P a h := rfl
theorem en_bad {P : α → AHeap → Prop} : Ens (.bad : Res α) P = False := rfl
theorem en_lift {o : Option AV} : Ens (lift1 o h) P = ∃ v, o = some v ∧ P v h := by
  cases o <;> simp [lift1, Ens]
theorem en_var {i : Nat} : Ens (aVar i ρ h) P = ∃ v, ρ[i]? = some (some v) ∧ P v h := by
  unfold aVar
  split
  · rename_i v e
    simp [e, Ens]
  · rename_i e
    apply propext
    constructor
    · exact fun z => z.elim
    · rintro ⟨v, e2, _⟩; exact (e v e2).elim
theorem en_c {v : AV} : Ens (aC v ρ h) P = P v h := rfl
theorem en_bin {op : POp2} {f g : AE} : Ens (aBin op f g ρ h) P = Ens (f ρ h) fun a h1 => Ens (g ρ h1) fun b h2 => ∃ v, op h2 a b = some v ∧ P v h2 := by
  unfold aBin; simp only [en_bind, en_lift]
theorem en_un {op : POp1} {f : AE} : Ens (aUn op f ρ h) P = Ens (f ρ h) fun a h1 => ∃ v, op h1 a = some v ∧ P v h1 := by
  unfold aUn; simp only [en_bind, en_lift]
theorem en_toB {v : AV} {P : Bool → AHeap → Prop} : Ens (toB v h) P = ∃ b, v = .bl b ∧ P b h := by
  cases v <;> simp [toB, Ens]
theorem en_test {f : AE} {P : Bool → AHeap → Prop} : Ens (aTest f ρ h) P = Ens (f ρ h) fun v h1 => ∃ b, v = .bl b ∧ P b h1 := by
  unfold aTest; simp only [en_bind, en_toB]
theorem en_chain {op op' : POp2} {f g k : AE} : Ens (aChain op op' f g k ρ h) P = Ens (f ρ h) fun a h1 => Ens (g ρ h1) fun b h2 => ∃ q, op h2 a b = some (.bl q) ∧ (if q = true then Ens (k ρ h2) fun c h5 => ∃ v, op' h5 b c = some v ∧ P v h5 else P (.bl false) h2) := by
  unfold aChain
  simp only [en_bind, en_lift, en_toB]
  congr 1; funext a h1; congr 1; funext b h2
  apply propext
  constructor
  · rintro ⟨v, e, q, rfl, z⟩
    refine ⟨q, e, ?_⟩
    cases q with
    | true => rw [if_pos rfl] at z ⊢; simpa only [en_bind, en_lift] using z
    | false => rw [if_neg Bool.false_ne_true] at z ⊢; exact z
  · rintro ⟨q, e, z⟩
    refine ⟨_, e, q, rfl, ?_⟩
    cases q with
    | true => rw [if_pos rfl] at z ⊢; simpa only [en_bind, en_lift] using z
    | false => rw [if_neg Bool.false_ne_true] at z ⊢; exact z
theorem en_andT {f g : AT} {P : Bool → AHeap → Prop} : Ens (aAndT f g ρ h) P = Ens (f ρ h) fun b h1 => if b = true then Ens (g ρ h1) P else P false h1 := by
  unfold aAndT; simp only [en_bind]; congr 1; funext b h1; cases b <;> rfl
theorem en_orT {f g : AT} {P : Bool → AHeap → Prop} : Ens (aOrT f g ρ h) P = Ens (f ρ h) fun b h1 => if b = true then P true h1 else Ens (g ρ h1) P := by
  unfold aOrT; simp only [en_bind]; congr 1; funext b h1; cases b <;> rfl
theorem en_notT {f : AT} {P : Bool → AHeap → Prop} : Ens (aNotT f ρ h) P = Ens (f ρ h) fun b h1 => P (!b) h1 := by
  unfold aNotT; simp only [en_bind, en_ok]
theorem en_and {f g : AE} : Ens (aAnd f g ρ h) P = Ens (f ρ h) fun v h1 => ∃ b, v = .bl b ∧ (if b = true then Ens (g ρ h1) P else P (.bl false) h1) := by
  unfold aAnd; simp only [en_bind, en_toB]; congr 1; funext v h1; apply propext
  constructor
  · rintro ⟨b, rfl, z⟩; refine ⟨b, rfl, ?_⟩; cases b <;> exact z
  · rintro ⟨b, rfl, z⟩; refine ⟨b, rfl, ?_⟩; cases b <;> exact z
theorem en_or {f g : AE} : Ens (aOr f g ρ h) P = Ens (f ρ h) fun v h1 => ∃ b, v = .bl b ∧ (if b = true then P (.bl true) h1 else Ens (g ρ h1) P) := by
  unfold aOr; simp only [en_bind, en_toB]; congr 1; funext v h1; apply propext
  constructor
  · rintro ⟨b, rfl, z⟩; refine ⟨b, rfl, ?_⟩; cases b <;> exact z
  · rintro ⟨b, rfl, z⟩; refine ⟨b, rfl, ?_⟩; cases b <;> exact z
theorem en_not {f : AE} : Ens (aNot f ρ h) P = Ens (f ρ h) fun v h1 => ∃ b, v = .bl b ∧ P (.bl (!b)) h1 := by
  unfold aNot; simp only [en_bind, en_toB, en_ok]
theorem en_if {t : AT} {f g : AE} : Ens (aIf t f g ρ h) P = Ens (t ρ h) fun b h1 => if b = true then Ens (f ρ h1) P else Ens (g ρ h1) P := by
  unfold aIf; simp only [en_bind]; congr 1; funext b h1; cases b <;> rfl
theorem en_nil {P : List AV → AHeap → Prop} : Ens (aNil ρ h) P = P [] h := rfl
theorem en_cons {f : AE} {g : AA} {P : List AV → AHeap → Prop} : Ens (aCons f g ρ h) P = Ens (f ρ h) fun v h1 => Ens (g ρ h1) fun l h2 => P (v :: l) h2 := by
  unfold aCons; simp only [en_bind, en_ok]
theorem en_ite {c : Prop} [Decidable c] {a b : Res α} {P : α → AHeap → Prop} : Ens (if c then a else b) P = if c then Ens a P else Ens b P := by
  split <;> rfl
theorem en_tup {g : AA} : Ens (aTup g ρ h) P = Ens (g ρ h) fun l h1 => szOk l = true ∧ P (.tup l) h1 := by
  unfold aTup; simp only [en_bind]; congr 1; funext l h1
  by_cases hs : szOk l = true <;> simp [hs, Ens]
theorem en_list {g : AA} {P : List AV → AHeap → Prop} : Ens (aList g ρ h) P = Ens (g ρ h) fun l h1 => szOk l = true ∧ P l h1 := by
  unfold aList; simp only [en_bind]; congr 1; funext l h1
  by_cases hs : szOk l = true <;> simp [hs, Ens]
theorem en_pureL {g : AA} : Ens (pureL g ρ h) P = Ens (g ρ h) fun l h1 => P (.lst l) h1 := by
  unfold pureL; simp only [en_bind, en_ok]
theorem en_newL {g : AA} : Ens (newL g ρ h) P = Ens (g ρ h) fun l h1 => P (.ref h1.length) (h1 ++ [.list l]) := by
  unfold newL; simp only [en_bind, en_ok]
theorem en_fn {op : PFn} {f : AA} : Ens (aFn op f ρ h) P = Ens (f ρ h) fun l h1 => ∃ v, op h1 l = some v ∧ P v h1 := by
  unfold aFn; simp only [en_bind, en_lift]
theorem en_call {m : MF} {f : AA} : Ens (aCall m f ρ h) P = Ens (f ρ h) fun l h1 => Ens (m l h1) P := by
  unfold aCall; simp only [en_bind]
theorem en_callK {m : MF} {n k : Nat} {arr : List AV → List AV → List AV} {f g : AA} : Ens (aCallK m n k arr f g ρ h) P = Ens (f ρ h) fun l h1 => Ens (g ρ h1) fun r h2 => (l.length = n ∧ r.length = k) ∧ Ens (m (arr l r) h2) P := by
  unfold aCallK; simp only [en_bind]; congr 1; funext l h1; congr 1; funext r h2
  by_cases hs : l.length = n ∧ r.length = k <;> simp [hs, Ens]
theorem en_methS {op : PMs} {f : AE} {g : AA} : Ens (aMethS op f g ρ h) P = Ens (f ρ h) fun o h1 => ∃ s, o = .str s ∧ Ens (g ρ h1) fun l h2 => ∃ v, op s h2 l = some v ∧ P v h2 := by
  unfold aMethS; simp only [en_bind]; congr 1; funext o h1
  cases o with
  | str s =>
    dsimp only
    apply propext
    rw [en_bind]
    simp only [en_lift]
    constructor
    · intro z; exact ⟨s, rfl, z⟩
    · rintro ⟨t, e, z⟩; cases e; exact z
  | _ => simp [Ens]
theorem en_oN {P : Option Int → AHeap → Prop} : Ens (aoN ρ h) P = P none h := rfl
theorem en_oS {f : AE} {P : Option Int → AHeap → Prop} : Ens (aoS f ρ h) P = Ens (f ρ h) fun v h1 => ∃ i, v = .int i ∧ P (some i) h1 := by
  unfold aoS; simp only [en_bind]; congr 1; funext v h1
  cases v <;> simp [Ens]
theorem en_sl {f : AE} {l u : AO1} : Ens (aSl f l u ρ h) P = Ens (f ρ h) fun a h1 => Ens (l ρ h1) fun i h2 => Ens (u ρ h2) fun j h3 => ∃ v, vSl h3 a i j = some v ∧ P v h3 := by
  unfold aSl; simp only [en_bind, en_lift]
theorem en_rng1 {f : AA} {P : List AV → AHeap → Prop} : Ens (aRng1 f ρ h) P = Ens (f ρ h) fun l h1 => ∃ j, l = [.int j] ∧ inR j = true ∧ P (iInts 0 j.toNat) h1 := by
  unfold aRng1; simp only [en_bind]; congr 1; funext l h1
  apply propext
  constructor
  · intro z
    split at z
    · rename_i j
      by_cases hs : inR j = true
      · rw [if_pos hs] at z; exact ⟨j, rfl, hs, z⟩
      · rw [if_neg hs] at z; exact z.elim
    · exact z.elim
  · rintro ⟨j, rfl, hs, z⟩
    simp only [hs, if_true]; exact z
theorem en_iter {f : AE} {P : List AV → AHeap → Prop} : Ens (aIter f ρ h) P = Ens (f ρ h) fun v h1 => ∃ l, itemsOf v = some l ∧ P l h1 := by
  unfold aIter; simp only [en_bind]; congr 1; funext v h1
  cases itemsOf v <;> simp [Ens]
theorem en_lc {fi : AA} {g : AG} {t : AT} {fe : AE} {vs : List Nat} {P : List AV → AHeap → Prop} : Ens (aLc fi g t fe vs ρ h) P = Ens (fi ρ h) fun l h1 => szOk l = true ∧ Ens (lcL g t fe l (wipeA ρ vs) h1) P := by
  unfold aLc; simp only [en_bind]; congr 1; funext l h1
  by_cases hs : szOk l = true <;> simp [hs, Ens]
/-! statements -/
theorem es_of {r : Res α} {k : α → AHeap → SRes} : EnS (.ofRes ρ r k) N R B C = Ens r fun a h => EnS (k a h) N R B C := by cases r <;> rfl
theorem es_seq {f g : AS} : EnS (aSeq f g ρ h) N R B C = EnS (f ρ h) (fun ρ1 h1 => EnS (g ρ1 h1) N R B C) R B C := by
  unfold aSeq; cases f ρ h <;> rfl
theorem es_skip : EnS (aSkip ρ h) N R B C = N ρ h := rfl
theorem es_ret {f : AE} : EnS (aRet f ρ h) N R B C = Ens (f ρ h) R := by unfold aRet; rw [es_of]; rfl
theorem es_retN : EnS (aRetN ρ h) N R B C = R .non h := rfl
theorem es_if {t : AT} {f g : AS} : EnS (aIfS t f g ρ h) N R B C = Ens (t ρ h) fun b h1 => if b = true then EnS (f ρ h1) N R B C else EnS (g ρ h1) N R B C := by
  unfold aIfS; rw [es_of]; congr 1; funext b h1; cases b <;> rfl
theorem es_asg {f : AE} {g : AG} : EnS (aAsg f g ρ h) N R B C = Ens (f ρ h) fun v h1 => EnG (g v ρ h1) N := by
  unfold aAsg; rw [es_of]; congr 1; funext v h1
  cases g v ρ h1 <;> rfl
theorem eg_name {i : Nat} {v : AV} : EnG (agName i v ρ h) N = N (ρ.set i (some v)) h := rfl
theorem eg_nil {l : List AV} : EnG (agNil l ρ h) N = (l = [] ∧ N ρ h) := by cases l <;> simp [agNil, EnG]
theorem eg_cons {g : AG} {gs : AGs} {l : List AV} : EnG (agCons g gs l ρ h) N = ∃ v r, l = v :: r ∧ EnG (g v ρ h) fun ρ1 h1 => EnG (gs r ρ1 h1) N := by
  cases l with
  | nil => simp [agCons, EnG]
  | cons v r =>
    apply propext
    constructor
    · intro z
      refine ⟨v, r, rfl, ?_⟩
      unfold agCons at z
      dsimp only at z
      cases e : g v ρ h with
      | none => rw [e] at z; exact z
      | some q => rw [e] at z; exact z
    · rintro ⟨v', r', e, z⟩
      cases e
      unfold agCons
      dsimp only
      cases e : g v ρ h with
      | none => rw [e] at z; exact z
      | some q => rw [e] at z; exact z
theorem eg_tup {n : Nat} {gs : AGs} {v : AV} : EnG (agTup n gs v ρ h) N = ∃ l, v = .tup l ∧ l.length = n ∧ EnG (gs l ρ h) N := by
  cases v with
  | tup l =>
    unfold agTup
    dsimp only
    by_cases hl : l.length = n
    · simp [hl]
    · simp [hl, EnG]
  | _ => simp [agTup, EnG]
theorem eg_sub {f k : AE} {v : AV} : EnG (agSub f k v ρ h) N = Ens (f ρ h) fun o h1 => Ens (k ρ h1) fun i h2 => ∃ n q l j, o = .ref n ∧ i = .int q ∧ h2[n]? = some (.list l) ∧ ixN l.length q = some j ∧ N ρ (h2.set n (.list (l.set j v))) := by
  unfold agSub
  cases f ρ h with
  | bad => rfl
  | exc _ _ => rfl
  | ok o h1 =>
    cases o with
    | ref n =>
      dsimp only
      cases ek : k ρ h1 with
      | bad => simp only [Ens, EnG, ek]
      | exc _ _ => simp only [Ens, EnG, ek]
      | ok i h2 =>
        cases i with
        | int q =>
          simp only [Ens, ek]
          apply propext
          constructor
          · intro z
            split at z
            · rename_i l el
              split at z
              · rename_i j ej; exact ⟨n, q, l, j, rfl, rfl, el, ej, z⟩
              · exact z.elim
            · exact z.elim
          · rintro ⟨n', q', l, j, e1, e2, el, ej, z⟩
            cases e1; cases e2
            rw [el]; dsimp only; rw [ej]; exact z
        | _ => simp [Ens, EnG, ek]
    | _ =>
      simp only [Ens, EnG]
      apply propext
      constructor
      · exact fun z => z.elim
      · intro z
        cases ek : k ρ h1 with
        | bad => rw [ek] at z; exact z
        | exc _ _ => rw [ek] at z; exact z
        | ok i h2 => rw [ek] at z; obtain ⟨_, _, _, _, e, _⟩ := z; cases e
theorem es_par2 {i j : Nat} {f : AA} : EnS (aPar2 i j f ρ h) N R B C = Ens (f ρ h) fun l h1 => ∃ a b, l = [a, b] ∧ N ((ρ.set i (some a)).set j (some b)) h1 := by
  unfold aPar2; rw [es_of]; congr 1; funext l h1
  apply propext
  constructor
  · intro z
    split at z
    · rename_i a b; exact ⟨a, b, rfl, z⟩
    · exact z.elim
  · rintro ⟨a, b, rfl, z⟩; exact z
theorem es_for {f : AA} {g : AG} {b : AS} : EnS (aFor f g b ρ h) N R B C = Ens (f ρ h) fun l h1 => EnS (loopS g b l ρ h1) N R B C := by
  unfold aFor; rw [es_of]
/-- one statement, then the rest -/
theorem es_cut {f g : AS} (M : AEnv → AHeap → Prop) (a : EnS (f ρ h) M R B C) (b : ∀ ρ1 h1, M ρ1 h1 → EnS (g ρ1 h1) N R B C) : EnS (aSeq f g ρ h) N R B C := by
  rw [es_seq]; exact a.mono b (fun _ _ z => z) (fun _ _ z => z) (fun _ _ z => z)
/-- a loop by an invariant over what is left -/
theorem es_loop {g : AG} {b : AS} (I : List AV → AEnv → AHeap → Prop) (hs : ∀ v r ρ h, I (v :: r) ρ h → EnG (g v ρ h) fun ρ1 h1 => EnS (b ρ1 h1) (fun ρ2 h2 => I r ρ2 h2) R N (fun ρ2 h2 => I r ρ2 h2)) (he : ∀ ρ h, I [] ρ h → N ρ h) :
    ∀ {l : List AV} {ρ : AEnv} {h : AHeap}, I l ρ h → EnS (loopS g b l ρ h) N R B C
  | [], ρ, h, i => he ρ h i
  | v :: r, ρ, h, i => by
    have z := hs v r ρ h i
    unfold loopS
    cases e : g v ρ h with
    | none => rw [e] at z; exact z.elim
    | some q =>
    rw [e] at z
    have z : EnS (b q.1 q.2) (fun ρ2 h2 => I r ρ2 h2) R N (fun ρ2 h2 => I r ρ2 h2) := z
    dsimp only
    cases eb : b q.1 q.2 with
    | nx ρ2 h2 => rw [eb] at z; exact es_loop I hs he z
    | ct ρ2 h2 => rw [eb] at z; exact es_loop I hs he z
    | bk ρ2 h2 => rw [eb] at z; exact z
    | rt v h2 => rw [eb] at z; exact z
    | exc x ρ2 h2 => rw [eb] at z; exact z
    | bad => rw [eb] at z; exact z
/-- a def -/
theorem en_def {gc : Bool} {np nl : Nat} {b : AS} {as : List AV} (hl : as.length = np) (z : EnS (b (as.map some ++ List.replicate (nl - np) none) h) (fun _ h' => h'.length ≤ h.length ∧ P .non h') (fun v h' => h'.length ≤ h.length ∧ P v h') (fun _ _ => False) (fun _ _ => False)) :
    Ens (aDef gc np nl b as h) P := by
  unfold aDef
  rw [if_pos hl]
  have keep : ∀ {v : AV} {h' : AHeap}, h'.length ≤ h.length → P v h' → Ens (gcIf gc h.length (.ok v h')) P := fun {v h'} hh p => by
    cases gc with
    | true => show Ens (gcRes h.length (.ok v h')) P; unfold gcRes; dsimp only; rw [if_pos hh]; exact p
    | false => exact p
  cases eb : b (as.map some ++ List.replicate (nl - np) none) h with
  | nx ρ2 h2 => rw [eb] at z; exact keep z.1 z.2
  | rt v h2 => rw [eb] at z; exact keep z.1 z.2
  | ct ρ2 h2 => rw [eb] at z; exact z.elim
  | bk ρ2 h2 => rw [eb] at z; exact z.elim
  | exc x ρ2 h2 => rw [eb] at z; exact z.elim
  | bad => rw [eb] at z; exact z.elim
/-- a def that leaves objects behind, its answer known -/
theorem en_defG {np nl : Nat} {b : AS} {as : List AV} (hl : as.length = np) (z : EnS (b (as.map some ++ List.replicate (nl - np) none) h) (fun _ _ => False) (fun v h' => Ens (gcRes h.length (.ok v h')) P) (fun _ _ => False) (fun _ _ => False)) :
    Ens (aDef true np nl b as h) P := by
  unfold aDef
  rw [if_pos hl]
  cases eb : b (as.map some ++ List.replicate (nl - np) none) h with
  | nx ρ2 h2 => rw [eb] at z; exact z.elim
  | rt v h2 => rw [eb] at z; exact z
  | ct ρ2 h2 => rw [eb] at z; exact z.elim
  | bk ρ2 h2 => rw [eb] at z; exact z.elim
  | exc x ρ2 h2 => rw [eb] at z; exact z.elim
  | bad => rw [eb] at z; exact z.elim
/-- a def that does not build, leaves nothing -/
theorem en_def0 {np nl : Nat} {b : AS} {as : List AV} (hl : as.length = np) (z : EnS (b (as.map some ++ List.replicate (nl - np) none) h) (fun _ h' => P .non h') (fun v h' => P v h') (fun _ _ => False) (fun _ _ => False)) :
    Ens (aDef false np nl b as h) P := by
  unfold aDef
  rw [if_pos hl]
  cases eb : b (as.map some ++ List.replicate (nl - np) none) h with
  | nx ρ2 h2 => rw [eb] at z; exact z
  | rt v h2 => rw [eb] at z; exact z
  | ct ρ2 h2 => rw [eb] at z; exact z.elim
  | bk ρ2 h2 => rw [eb] at z; exact z.elim
  | exc x ρ2 h2 => rw [eb] at z; exact z.elim
  | bad => rw [eb] at z; exact z.elim
/-- a comprehension without a test: each element by an invariant of the heap -/
theorem en_lcL {g : AG} {fe : AE} {ρ : AEnv} (I : AHeap → Prop) (Y : AV → Prop) : ∀ {l : List AV} {h : AHeap} {P : List AV → AHeap → Prop}, (∀ v ∈ l, ∀ h, I h → ∃ ρ1, g v ρ h = some (ρ1, h) ∧ Ens (fe ρ1 h) fun y h' => Y y ∧ I h') → I h →
    (∀ ys h', ys.length = l.length → (∀ y ∈ ys, Y y) → I h' → P ys h') → Ens (lcL g aYes fe l ρ h) P
  | [], h, P, _, hi, hp => hp [] h rfl (by simp) hi
  | v :: r, h, P, hs, hi, hp => by
    obtain ⟨ρ1, e, z⟩ := hs v (List.mem_cons_self ..) h hi
    obtain ⟨y, h3, e3, hy, hi3⟩ := z.ex
    unfold lcL
    rw [e]
    dsimp only
    unfold aYes
    dsimp only
    rw [e3]
    dsimp only
    have q := en_lcL (g := g) (fe := fe) (ρ := ρ) I Y (l := r) (h := h3) (P := fun ys h' => P (y :: ys) h') (fun v hv => hs v (List.mem_cons_of_mem _ hv)) hi3 (fun ys h' hl hY hI => hp (y :: ys) h' (by simp [hl]) (fun z hz => by
      rcases List.mem_cons.mp hz with e | e
      · rw [e]; exact hy
      · exact hY z e) hI)
    obtain ⟨ys, h4, e4, p4⟩ := q.ex
    have e4 : lcL g aYes fe r ρ h3 = .ok ys h4 := e4
    unfold aYes at e4
    rw [e4]
    exact p4
/-- a comprehension whose elements change nothing -/
theorem lcL_map {g : AG} {fe : AE} {ρ : AEnv} {h : AHeap} (F : AV → AV) : ∀ {l : List AV}, (∀ v ∈ l, ∃ ρ1, g v ρ h = some (ρ1, h) ∧ fe ρ1 h = .ok (F v) h) → lcL g aYes fe l ρ h = .ok (l.map F) h
  | [], _ => rfl
  | v :: r, hs => by
    obtain ⟨ρ1, e, z⟩ := hs v (List.mem_cons_self ..)
    have q := lcL_map F (l := r) fun v hv => hs v (List.mem_cons_of_mem _ hv)
    unfold lcL
    rw [e]
    dsimp only
    have : aYes ρ1 h = .ok true h := rfl
    rw [this]
    dsimp only
    rw [z]
    dsimp only
    rw [q]
    rfl
theorem Ens.eq {r : Res α} {a : α} {h : AHeap} (e : Ens r fun b h' => b = a ∧ h' = h) : r = .ok a h := by
  obtain ⟨b, h', e2, rfl, rfl⟩ := e.ex
  exact e2
end
/-! ### operators at values -/
section
variable {h : AHeap}
theorem vAdd_ii {i j : Int} : vAdd h (.int i) (.int j) = some (.int (i + j)) := rfl
theorem vAdd_ss {s t : List Nat} : vAdd h (.str s) (.str t) = if decide (s.length + t.length ≤ szM) = true then some (.str (s ++ t)) else none := by
  show (match vAddStr h (.str s) (.str t) with | some v => some v | none => _) = _
  unfold vAddStr
  dsimp only
  by_cases hc : decide (s.length + t.length ≤ szM) = true
  · rw [if_pos hc]
  · rw [if_neg hc]; rfl
theorem vAdd_ll {l m : List AV} : vAdd h (.lst l) (.lst m) = if decide (l.length + m.length ≤ szM) = true then some (.lst (l ++ m)) else none := rfl
theorem vSub_ii {i j : Int} : vSub h (.int i) (.int j) = some (.int (i - j)) := rfl
theorem vMul_ii {i j : Int} : vMul h (.int i) (.int j) = if cMul i j = true then some (.int (i * j)) else none := rfl
theorem vDiv_ii {i j : Int} : vDiv h (.int i) (.int j) = if cDiv i j = true then some (.int (i / j)) else none := rfl
theorem vMod_ii {i j : Int} : vMod h (.int i) (.int j) = if cMod i j = true then some (.int (i % j)) else none := rfl
theorem vLt_ii {i j : Int} : vLt h (.int i) (.int j) = some (.bl (decide (i < j))) := rfl
theorem vLe_ii {i j : Int} : vLe h (.int i) (.int j) = some (.bl (decide (i ≤ j))) := rfl
theorem vGt_ii {i j : Int} : vGt h (.int i) (.int j) = some (.bl (decide (j < i))) := rfl
theorem vGe_ii {i j : Int} : vGe h (.int i) (.int j) = some (.bl (decide (j ≤ i))) := rfl
theorem vEq_ii {i j : Int} : vEq h (.int i) (.int j) = some (.bl (decide (i = j))) := by
  show some (AV.bl (decide (V.int i = V.int j))) = _
  simp
theorem vEq_ss {s t : List Nat} : vEq h (.str s) (.str t) = some (.bl (decide (s = t))) := by
  show some (AV.bl (decide (V.str ⟨s.toArray⟩ = V.str ⟨t.toArray⟩))) = _
  simp
theorem vNe_ii {i j : Int} : vNe h (.int i) (.int j) = some (.bl (!decide (i = j))) := by
  show some (AV.bl (!decide (V.int i = V.int j))) = _
  simp
theorem vNe_ss {s t : List Nat} : vNe h (.str s) (.str t) = some (.bl (!decide (s = t))) := by
  show some (AV.bl (!decide (V.str ⟨s.toArray⟩ = V.str ⟨t.toArray⟩))) = _
  simp
theorem vIx_t {l : List AV} {i : Int} : vIx h (.tup l) (.int i) = atI l i := rfl
theorem vIx_l {l : List AV} {i : Int} : vIx h (.lst l) (.int i) = atI l i := rfl
theorem vIx_s {s : List Nat} {i : Int} : vIx h (.str s) (.int i) = if decide (s.length ≤ szM) = true then (atI s i).map fun c => .str [c] else none := rfl
theorem vIx_r {n : Nat} {i : Int} : vIx h (.ref n) (.int i) = match h[n]? with
    | some (.list l) => atI l i
    | none => none := by
  show (match seqL h (.ref n) with | some l => atI l i | none => none) = _
  unfold seqL
  dsimp only
  cases h[n]? with
  | none => rfl
  | some o => cases o; rfl
theorem vLen_s {s : List Nat} : vLen h [.str s] = if decide (s.length ≤ szM) = true then some (.int s.length) else none := rfl
theorem vLen_t {l : List AV} : vLen h [.tup l] = some (.int l.length) := rfl
theorem vLen_l {l : List AV} : vLen h [.lst l] = some (.int l.length) := rfl
theorem vLen_r {n : Nat} : vLen h [.ref n] = match h[n]? with
    | some (.list l) => some (.int l.length)
    | none => none := by
  show (match seqL h (.ref n) with | some l => some (AV.int l.length) | none => none) = _
  unfold seqL
  dsimp only
  cases h[n]? with
  | none => rfl
  | some o => cases o; rfl
theorem vIsi_v {v : AV} {t : Tag} {a : Tag} (ht : t ≠ .non) (e : tagOf h v = some a) : vIsi h [v, .ty t] = some (.bl (isT a t)) := by
  unfold vIsi
  simp only [ht, if_false, e]
theorem atI_0 {α : Type} {x : α} {l : List α} : atI (x :: l) 0 = some x := by
  show atI (x :: l) ((0 : Nat) : Int) = some x
  exact atI_nat rfl
theorem atI_nat' {α : Type} {l : List α} {i : Int} (h0 : 0 ≤ i) (h1 : i < l.length) : ∃ v, atI l i = some v ∧ v ∈ l := by
  obtain ⟨j, rfl⟩ := Int.eq_ofNat_of_zero_le h0
  have hj : j < l.length := by omega
  exact ⟨l[j], atI_nat (List.getElem?_eq_getElem hj), List.getElem_mem hj⟩
end
end AI
namespace AIL
open PySem PySem.Spec PyProof.Rows L2 AI
def top (i : Nat) : Stmt := PySem.Challenge.pw_capruns_k01_names_variables_claims.main.body.getD i (.Pass ⟨0, 0, 0, 0⟩)
def v_LETTERS : AV := (.str [97, 98, 99, 100, 101, 102, 103, 104, 105, 106, 107, 108, 109, 110, 111, 112, 113, 114, 115, 116, 117, 118, 119, 120, 121, 122])
def v_OPERATORS : AV := (.tup [(.str [60]), (.str [60, 61]), (.str [61])])
/-! ### mirrors -/
/-- is_name -/
def m_is_name : MF := aDef true 1 2 (aRet (aAnd (aFn vIsi (aCons (aVar 0) (aCons (aC (.ty .str)) (aNil)))) (aAnd (aChain vLe vLe (aC (.int 1)) (aFn vLen (aCons (aVar 0) (aNil))) (aC (.int 6))) (aFn vAll (aCons (pureL (aLc (aIter (aVar 0)) (agName 1) (aYes) (aBin vIn (aVar 1) (aC v_LETTERS)) [1])) (aNil))))))
/-- is_variable -/
def m_is_variable : MF := aDef true 1 1 (aSeq (aIfS (aNotT (aTest (aFn vIsi (aCons (aVar 0) (aCons (aC (.ty .str)) (aNil)))))) (aRet (aC (.bl false))) (aSkip)) (aRet (aIf (aTest (aMethS vEnds (aVar 0) (aCons (aC (.str [39])) (aNil)))) (aCall m_is_name (aCons (aSl (aVar 0) (aoN) (aoS (aUn vNeg (aC (.int 1))))) (aNil))) (aCall m_is_name (aCons (aVar 0) (aNil))))))
/-- is_claim -/
def m_is_claim : MF := aDef true 1 4 (aSeq (aIfS (aOrT (aNotT (aTest (aFn vIsi (aCons (aVar 0) (aCons (aC (.ty .tup)) (aNil)))))) (aTest (aBin vNe (aFn vLen (aCons (aVar 0) (aNil))) (aC (.int 3))))) (aRet (aC (.bl false))) (aSkip)) (aSeq (aAsg (aVar 0) (agTup 3 (agCons (agName 1) (agCons (agName 2) (agCons (agName 3) (agNil)))))) (aRet (aAnd (aCall m_is_variable (aCons (aVar 1) (aNil))) (aAnd (aCall m_is_variable (aCons (aVar 3) (aNil))) (aAnd (aFn vIsi (aCons (aVar 2) (aCons (aC (.ty .str)) (aNil)))) (aBin vIn (aVar 2) (aC v_OPERATORS))))))))
/-- _law_cell -/
def m__law_cell : MF := aDef true 2 4 (aSeq (aIfS (aTest (aBin vLt (aVar 1) (aFn vLen (aCons (aVar 0) (aNil))))) (aRet (aBin vIx (aVar 0) (aVar 1))) (aSkip)) (aSeq (aAsg (aBin vMod (aBin vMul (aC (.int 70003)) (aBin vAdd (aBin vAdd (aBin vMul (aVar 1) (aVar 1)) (aBin vMul (aC (.int 9)) (aVar 1))) (aC (.int 5)))) (aC (.int 2147483399))) (agName 2)) (aSeq (aFor (aIter (aSl (aVar 0) (aoN) (aoS (aC (.int 3))))) (agName 3) (aAsg (aBin vMod (aBin vAdd (aBin vMul (aVar 2) (aC (.int 41011))) (aVar 3)) (aC (.int 2147483399))) (agName 2))) (aRet (aVar 2)))))
/-- _law_purse -/
def m__law_purse : MF := aDef false 1 2 (aSeq (aAsg (aC (.int 0)) (agName 1)) (aSeq (aIfS (aOrT (aTest (aBin vLt (aVar 0) (aC (.int 0)))) (aTest (aBin vGe (aVar 0) (aBin vPow (aC (.int 10)) (aC (.int 18)))))) (aAsg (aFn vAbs (aCons (aVar 0) (aNil))) (agName 1)) (aSkip)) (aRet (newL (aList (aCons (aBin vMod (aVar 0) (aC (.int 2147483399))) (aCons (aVar 1) (aCons (aC (.int 0)) (aNil)))))))))
/-- _law_draw -/
def m__law_draw : MF := aDef true 2 4 (aSeq (aAsg (aBin vAdd (aBin vIx (aVar 0) (aC (.int 2))) (aC (.int 1))) (agSub (aVar 0) (aC (.int 2)))) (aSeq (aAsg (aBin vIx (aVar 0) (aC (.int 0))) (agName 2)) (aSeq (aAsg (aBin vMod (aBin vAdd (aBin vAdd (aBin vMul (aVar 2) (aBin vAdd (aBin vMod (aVar 2) (aC (.int 45007))) (aC (.int 31019)))) (aBin vMul (aC (.int 90007)) (aBin vIx (aVar 0) (aC (.int 2))))) (aC (.int 3))) (aC (.int 2147483399))) (agSub (aVar 0) (aC (.int 0)))) (aSeq (aIfS (aTest (aBin vGt (aBin vIx (aVar 0) (aC (.int 1))) (aC (.int 0)))) (aSeq (aAsg (aFn vDivmod (aCons (aBin vIx (aVar 0) (aC (.int 1))) (aCons (aVar 1) (aNil)))) (agTup 2 (agCons (agSub (aVar 0) (aC (.int 1))) (agCons (agName 3) (agNil))))) (aRet (aVar 3))) (aSkip)) (aRet (aBin vMod (aBin vDiv (aBin vIx (aVar 0) (aC (.int 0))) (aC (.int 64))) (aVar 1)))))))
/-- _law_word -/
def m__law_word : MF := aDef true 1 6 (aSeq (aAsg (aTup (aCons (aC (.str [97, 98, 99, 100, 101, 102, 103, 104, 105, 106, 107, 108, 109, 110, 111, 112, 113, 114, 115, 116, 117, 118, 119, 120, 121, 122])) (aCons (aC (.str [65, 90, 48, 57, 95, 39, 45, 32, 44, 46, 60, 61, 10])) (aNil)))) (agTup 2 (agCons (agName 1) (agCons (agName 2) (agNil))))) (aSeq (aAsg (aMethS vJoin (aC (.str [])) (aCons (pureL (aLc (aRng1 (aCons (aCall m__law_draw (aCons (aVar 0) (aCons (aC (.int 9)) (aNil)))) (aNil))) (agName 5) (aYes) (aBin vIx (aVar 1) (aCall m__law_draw (aCons (aVar 0) (aCons (aC (.int 26)) (aNil))))) [5])) (aNil))) (agName 3)) (aSeq (aAsg (aCall m__law_draw (aCons (aVar 0) (aCons (aBin vAdd (aFn vLen (aCons (aVar 3) (aNil))) (aC (.int 1))) (aNil)))) (agName 4)) (aSeq (aIfS (aTest (aBin vEq (aCall m__law_draw (aCons (aVar 0) (aCons (aC (.int 4)) (aNil)))) (aC (.int 0)))) (aAsg (aBin vAdd (aBin vAdd (aSl (aVar 3) (aoN) (aoS (aVar 4))) (aBin vIx (aVar 2) (aCall m__law_draw (aCons (aVar 0) (aCons (aFn vLen (aCons (aVar 2) (aNil))) (aNil)))))) (aSl (aVar 3) (aoS (aBin vAdd (aVar 4) (aCall m__law_draw (aCons (aVar 0) (aCons (aC (.int 2)) (aNil)))))) (aoN))) (agName 3)) (aSkip)) (aRet (aBin vAdd (aVar 3) (aBin vIx (pureL (aList (aCons (aC (.str [])) (aCons (aC (.str [])) (aCons (aC (.str [39])) (aCons (aC (.str [39, 39])) (aNil))))))) (aCall m__law_draw (aCons (aVar 0) (aCons (aC (.int 4)) (aNil)))))))))))
/-- _law_is_name -/
def m__law_is_name : MF := aDef true 1 2 (aSeq (aIfS (aOrT (aNotT (aTest (aFn vIsi (aCons (aVar 0) (aCons (aC (.ty .str)) (aNil)))))) (aNotT (aTest (aChain vLt vLt (aC (.int 0)) (aFn vLen (aCons (aVar 0) (aNil))) (aC (.int 7)))))) (aRet (aC (.bl false))) (aSkip)) (aRet (aFn vAll (aCons (pureL (aLc (aIter (aVar 0)) (agName 1) (aYes) (aBin vIn (aVar 1) (aC (.str [97, 98, 99, 100, 101, 102, 103, 104, 105, 106, 107, 108, 109, 110, 111, 112, 113, 114, 115, 116, 117, 118, 119, 120, 121, 122]))) [1])) (aNil)))))
/-- _law_is_variable -/
def m__law_is_variable : MF := aDef true 1 1 (aRet (aAnd (aFn vIsi (aCons (aVar 0) (aCons (aC (.ty .str)) (aNil)))) (aCall m__law_is_name (aCons (aIf (aTest (aBin vEq (aSl (aVar 0) (aoS (aUn vNeg (aC (.int 1)))) (aoN)) (aC (.str [39])))) (aSl (aVar 0) (aoN) (aoS (aUn vNeg (aC (.int 1))))) (aVar 0)) (aNil)))))
/-- _law_is_claim -/
def m__law_is_claim : MF := aDef true 1 1 (aSeq (aIfS (aOrT (aNotT (aTest (aFn vIsi (aCons (aVar 0) (aCons (aC (.ty .tup)) (aNil)))))) (aOrT (aTest (aBin vNe (aFn vLen (aCons (aVar 0) (aNil))) (aC (.int 3)))) (aOrT (aNotT (aTest (aFn vIsi (aCons (aBin vIx (aVar 0) (aC (.int 1))) (aCons (aC (.ty .str)) (aNil)))))) (aTest (aBin vNotIn (aBin vIx (aVar 0) (aC (.int 1))) (pureL (aList (aCons (aC (.str [60])) (aCons (aC (.str [60, 61])) (aCons (aC (.str [61])) (aNil))))))))))) (aRet (aC (.bl false))) (aSkip)) (aRet (aAnd (aCall m__law_is_variable (aCons (aBin vIx (aVar 0) (aC (.int 0))) (aNil))) (aCall m__law_is_variable (aCons (aBin vIx (aVar 0) (aC (.int 2))) (aNil))))))
/-- _law_value -/
def m__law_value : MF := aDef true 1 2 (aSeq (aAsg (pureL (aList (aCons (aC .non) (aCons (aC (.bl true)) (aCons (aC (.bl false)) (aCons (aC (.int 0)) (aCons (aC (.int 1)) (aCons (aUn vNeg (aC (.int 1))) (aCons (aBin vPow (aC (.int 10)) (aC (.int 40))) (aCons (aC (.str [])) (aCons (aTup (aNil)) (aCons (pureL (aList (aNil))) (aCons (aC (.dct [] [])) (aCons (aTup (aCons (aC (.str [120])) (aNil))) (aCons (pureL (aList (aCons (aC (.str [120])) (aNil)))) (aCons (aDct1 (aC (.str [120])) (aC (.str [121]))) (aCons (aTup (aCons (aC (.str [120])) (aCons (aC (.str [60])) (aCons (aC (.str [121])) (aNil))))) (aCons (pureL (aList (aCons (pureL (aList (aNil))) (aNil)))) (aNil))))))))))))))))))) (agName 1)) (aRet (aBin vIx (aBin vAdd (aVar 1) (pureL (aList (aCons (aCall m__law_word (aCons (aVar 0) (aNil))) (aNil))))) (aCall m__law_draw (aCons (aVar 0) (aCons (aBin vAdd (aFn vLen (aCons (aVar 1) (aNil))) (aC (.int 1))) (aNil)))))))
/-- _law_triple -/
def m__law_triple : MF := aDef true 1 6 (aSeq (aAsg (pureL (aList (aCons (aC (.str [60])) (aCons (aC (.str [60, 61])) (aCons (aC (.str [61])) (aCons (aC (.str [60])) (aCons (aC (.str [60, 61])) (aCons (aC (.str [61])) (aCons (aC (.str [62])) (aCons (aC (.str [61, 61])) (aCons (aC (.str [])) (aCons (aC (.str [61, 60])) (aCons (aC (.str [32, 60])) (aCons (aC (.str [60, 60])) (aCons (aC (.str [60, 61, 61])) (aNil)))))))))))))))) (agName 1)) (aSeq (aAsg (pureL (aList (aCons (aC (.str [120])) (aCons (aC (.str [121, 39])) (aCons (aC (.str [97, 98, 99, 100, 101, 102])) (aCons (aC (.str [97, 98, 99, 100, 101, 102, 39])) (aCons (aCall m__law_word (aCons (aVar 0) (aNil))) (aCons (aCall m__law_word (aCons (aVar 0) (aNil))) (aNil))))))))) (agName 2)) (aSeq (aAsg (newL (aList (aCons (aBin vIx (aVar 2) (aCall m__law_draw (aCons (aVar 0) (aCons (aC (.int 6)) (aNil))))) (aCons (aBin vIx (aVar 1) (aCall m__law_draw (aCons (aVar 0) (aCons (aFn vLen (aCons (aVar 1) (aNil))) (aNil))))) (aCons (aBin vIx (aVar 2) (aCall m__law_draw (aCons (aVar 0) (aCons (aC (.int 6)) (aNil))))) (aNil)))))) (agName 3)) (aSeq (aPar2 4 5 (aCons (aCall m__law_draw (aCons (aVar 0) (aCons (aC (.int 8)) (aNil)))) (aCons (aCall m__law_draw (aCons (aVar 0) (aCons (aC (.int 3)) (aNil)))) (aNil)))) (aSeq (aIfS (aTest (aBin vEq (aVar 4) (aC (.int 0)))) (aAsg (aCall m__law_value (aCons (aVar 0) (aNil))) (agSub (aVar 3) (aVar 5))) (aSkip)) (aSeq (aIfS (aTest (aBin vEq (aVar 4) (aC (.int 1)))) (aAsg (aBin vAdd (aSl (aVar 3) (aoN) (aoS (aVar 5))) (aSl (aVar 3) (aoS (aBin vAdd (aVar 5) (aC (.int 1)))) (aoN))) (agName 3)) (aSkip)) (aSeq (aIfS (aTest (aBin vEq (aVar 4) (aC (.int 2)))) (aAsg (aBin vAdd (aBin vAdd (aSl (aVar 3) (aoN) (aoS (aVar 5))) (pureL (aList (aCons (aCall m__law_value (aCons (aVar 0) (aNil))) (aNil))))) (aSl (aVar 3) (aoS (aVar 5)) (aoN))) (agName 3)) (aSkip)) (aRet (aIf (aTest (aBin vEq (aVar 4) (aC (.int 3)))) (aVar 3) (aFn vTuple (aCons (aVar 3) (aNil))))))))))))
/-- _law_right -/
def m__law_right : MF := aDef true 1 5 (aSeq (aPar2 1 2 (aCons (aFn vRepr (aCons (aVar 0) (aNil))) (aCons (pureL (aList (aCons (aCall m__law_is_name (aCons (aVar 0) (aNil))) (aCons (aCall m__law_is_variable (aCons (aVar 0) (aNil))) (aCons (aCall m__law_is_claim (aCons (aVar 0) (aNil))) (aNil)))))) (aNil)))) (aSeq (aFor (aRng1 (aCons (aC (.int 2)) (aNil))) (agName 3) (aSeq (aAsg (pureL (aList (aCons (aCall m_is_name (aCons (aVar 0) (aNil))) (aCons (aCall m_is_variable (aCons (aVar 0) (aNil))) (aCons (aCall m_is_claim (aCons (aVar 0) (aNil))) (aNil)))))) (agName 4)) (aSeq (aAsg (aBin vAdd (aVar 4) (pureL (aList (aCons (aCallK m_is_name 0 1 (fun a b => a ++ b) aNil (aCons (aVar 0) (aNil))) (aCons (aCallK m_is_variable 0 1 (fun a b => a ++ b) aNil (aCons (aVar 0) (aNil))) (aCons (aCallK m_is_claim 0 1 (fun a b => a ++ b) aNil (aCons (aVar 0) (aNil))) (aNil))))))) (agName 4)) (aIfS (aOrT (aTest (aBin vNe (aFn vRepr (aCons (aVar 4) (aNil))) (aFn vRepr (aCons (aBin vAdd (aVar 2) (aVar 2)) (aNil))))) (aTest (aBin vNe (aFn vRepr (aCons (aVar 0) (aNil))) (aVar 1)))) (aRet (aC (.bl false))) (aSkip))))) (aRet (aC (.bl true)))))
/-- _law_by_hand -/
def m__law_by_hand : MF := aDef true 0 2 (aSeq (aAsg (pureL (aList (aCons (aC (.str [97])) (aCons (aC (.str [122])) (aCons (aC (.str [97, 98, 99, 100, 101, 102])) (aCons (aC (.str [97, 98, 99, 100, 101, 102, 103])) (aCons (aC (.str [97, 98, 99, 100, 101, 102, 39])) (aCons (aC (.str [97, 98, 99, 100, 101, 102, 103, 39])) (aCons (aC (.str [120, 39, 39])) (aCons (aC (.str [39, 120])) (aCons (aC (.str [120, 39, 121])) (aCons (aC (.str [39])) (aCons (aC (.str [])) (aCons (aC (.str [88])) (aCons (aC (.str [120, 49])) (aCons (aC (.str [32, 120])) (aCons (aC (.str [120, 32])) (aNil)))))))))))))))))) (agName 0)) (aSeq (aAsg (aBin vAdd (aVar 0) (pureL (aList (aCons (aC (.str [120, 10])) (aCons (aC (.str [97, 66])) (aCons (aC (.str [120, 95, 121])) (aCons (aC (.str [120, 45, 121])) (aCons (aC (.str [120, 44, 121])) (aCons (aC (.str [120, 39, 32])) (aCons (aC .non) (aCons (aC (.bl true)) (aCons (aC (.int 7)) (aCons (aTup (aNil)) (aCons (pureL (aList (aNil))) (aCons (aC (.dct [] [])) (aCons (pureL (aList (aCons (aC (.str [97])) (aNil)))) (aCons (aTup (aCons (aC (.str [97])) (aNil))) (aCons (aTup (aCons (aC (.str [120])) (aCons (aC (.str [60])) (aNil)))) (aNil))))))))))))))))))) (agName 0)) (aSeq (aAsg (aBin vAdd (aVar 0) (pureL (aList (aCons (aTup (aCons (aC (.str [120])) (aCons (aC (.str [60])) (aCons (aC (.str [121])) (aNil))))) (aCons (aTup (aCons (aC (.str [120])) (aCons (aC (.str [60])) (aCons (aC (.str [120])) (aNil))))) (aCons (aTup (aCons (aC (.str [120, 39])) (aCons (aC (.str [60, 61])) (aCons (aC (.str [97, 98, 99, 100, 101, 102, 39])) (aNil))))) (aCons (aTup (aCons (aC (.str [120])) (aCons (aC (.str [61])) (aCons (aC (.str [121, 39])) (aNil))))) (aCons (pureL (aList (aCons (aC (.str [120])) (aCons (aC (.str [60])) (aCons (aC (.str [121])) (aNil)))))) (aNil))))))))) (agName 0)) (aSeq (aAsg (aBin vAdd (aVar 0) (pureL (aList (aCons (aTup (aCons (aC (.str [120])) (aCons (aC (.str [60])) (aCons (aC (.str [121])) (aCons (aC (.str [60])) (aNil)))))) (aCons (aTup (aCons (aC (.str [120])) (aCons (aC (.str [62])) (aCons (aC (.str [121])) (aNil))))) (aCons (aTup (aCons (aC (.str [120])) (aCons (aC (.str [61, 61])) (aCons (aC (.str [121])) (aNil))))) (aCons (aTup (aCons (aC (.str [120])) (aCons (aC (.str [])) (aCons (aC (.str [121])) (aNil))))) (aCons (aTup (aCons (aC (.str [120])) (aCons (aC (.str [60])) (aCons (aC (.str [])) (aNil))))) (aNil))))))))) (agName 0)) (aSeq (aAsg (aBin vAdd (aVar 0) (pureL (aList (aCons (aTup (aCons (aC (.str [120])) (aCons (aC (.str [60])) (aCons (aC (.int 1)) (aNil))))) (aCons (aTup (aCons (pureL (aList (aNil))) (aNil))) (aCons (aC (.str [120, 32, 60, 32, 121])) (aNil))))))) (agName 0)) (aSeq (aAsg (aBin vAdd (aVar 0) (pureL (aList (aCons (aTup (aCons (aC (.str [120])) (aCons (pureL (aList (aCons (aC (.str [60])) (aNil)))) (aCons (aC (.str [121])) (aNil))))) (aCons (aTup (aCons (pureL (aList (aCons (aC (.str [120])) (aNil)))) (aCons (aC (.str [60])) (aCons (aC (.str [121])) (aNil))))) (aCons (aTup (aCons (aTup (aCons (aC (.str [120])) (aNil))) (aCons (aC (.str [60])) (aCons (aTup (aCons (aC (.str [121])) (aNil))) (aNil))))) (aCons (aTup (aCons (aC (.str [120])) (aCons (aC .non) (aCons (aC (.str [121])) (aNil))))) (aCons (aTup (aCons (aC .non) (aCons (aC (.str [60])) (aCons (aC (.str [121])) (aNil))))) (aNil))))))))) (agName 0)) (aSeq (aAsg (aBin vAdd (aVar 0) (pureL (aList (aCons (aTup (aCons (aC (.str [120])) (aCons (aC (.str [60])) (aCons (aC (.str [97, 98, 99, 100, 101, 102, 103])) (aNil))))) (aCons (aTup (aCons (aC (.str [120])) (aCons (aC (.str [60])) (aCons (aC (.str [121, 39, 39])) (aNil))))) (aCons (aTup (aCons (aTup (aCons (aC (.str [120])) (aCons (aC (.str [60])) (aCons (aC (.str [121])) (aNil))))) (aNil))) (aCons (aTup (aCons (aC (.str [120])) (aCons (aTup (aCons (aC (.str [60])) (aNil))) (aCons (aC (.str [121])) (aNil))))) (aCons (aDct1 (aC (.str [120])) (aC (.str [60]))) (aNil))))))))) (agName 0)) (aRet (aFn vAll (aCons (pureL (aLc (aIter (aVar 0)) (agName 1) (aYes) (aCall m__law_right (aCons (aVar 1) (aNil))) [1])) (aNil)))))))))))
/-- law -/
def m_law : MF := aDef true 1 5 (aSeq (aIfS (aNotT (aTest (aCall m__law_by_hand aNil))) (aRet (aC (.bl false))) (aSkip)) (aSeq (aFor (aRng1 (aCons (aFn vMax (aCons (aC (.int 2)) (aCons (aFn vMin (aCons (aFn vLen (aCons (aVar 0) (aNil))) (aCons (aC (.int 6)) (aNil)))) (aNil)))) (aNil))) (agName 1) (aSeq (aAsg (aCall m__law_purse (aCons (aCall m__law_cell (aCons (aVar 0) (aCons (aVar 1) (aNil)))) (aNil))) (agName 2)) (aFor (aRng1 (aCons (aC (.int 20)) (aNil))) (agName 3) (aSeq (aAsg (aBin vIx (pureL (aList (aCons (aCall m__law_word (aCons (aVar 2) (aNil))) (aCons (aCall m__law_triple (aCons (aVar 2) (aNil))) (aCons (aCall m__law_value (aCons (aVar 2) (aNil))) (aNil)))))) (aCall m__law_draw (aCons (aVar 2) (aCons (aC (.int 3)) (aNil))))) (agName 4)) (aIfS (aNotT (aTest (aCall m__law_right (aCons (aVar 4) (aNil))))) (aRet (aC (.bl false))) (aSkip)))))) (aRet (aC (.bl true)))))
/-! ### derivations -/
theorem b_abs : bootBuiltins "abs" = some (.builtin "abs") := by decide +kernel
theorem b_all : bootBuiltins "all" = some (.builtin "all") := by decide +kernel
theorem b_divmod : bootBuiltins "divmod" = some (.builtin "divmod") := by decide +kernel
theorem b_isinstance : bootBuiltins "isinstance" = some (.builtin "isinstance") := by decide +kernel
theorem b_len : bootBuiltins "len" = some (.builtin "len") := by decide +kernel
theorem b_max : bootBuiltins "max" = some (.builtin "max") := by decide +kernel
theorem b_min : bootBuiltins "min" = some (.builtin "min") := by decide +kernel
theorem b_range : bootBuiltins "range" = some (.type "range") := by decide +kernel
theorem b_repr : bootBuiltins "repr" = some (.builtin "repr") := by decide +kernel
theorem b_str : bootBuiltins "str" = some (.type "str") := by decide +kernel
theorem b_tuple : bootBuiltins "tuple" = some (.type "tuple") := by decide +kernel
section
variable {P : Program} {w : World} {K : PySem.W.Frag} {mg : Str → Option Value} {base : Heap}
theorem sc_is_name : FnScope ["thing", "sign"] ["thing"] (defScope (top 3)) := ⟨rfl, rfl, rfl, by decide +kernel, rfl, by decide +kernel, by decide +kernel⟩
theorem fg_is_name {f : Addr} {fd : FuncData} (F : FnP K "is_name" (top 3) f fd) (g_all : mg "all" = none) (g_isinstance : mg "isinstance" = none) (g_len : mg "len" = none) (g_str : mg "str" = none) (V_LETTERS : GV K mg "LETTERS" v_LETTERS) : FG P w K mg base 1 f fd ["thing"] m_is_name := by
  refine FG.of true F sc_is_name fun cdv A outer s H E hr hg => ?_
  have c : Cn 0 (cxOf (L2.CX P w) P w K mg base ["thing", "sign"] "is_name" (defScope (top 3)) f cdv A outer s H E) := ⟨rfl, sc_is_name.nd, hr, hg⟩
  have tk : Takes (cxOf (L2.CX P w) P w K mg base ["thing", "sign"] "is_name" (defScope (top 3)) f cdv A outer s H E) (fun cls d _ H' => E cls d H') := takes_of rfl rfl rfl rfl
  exact DSs.one (DS.ret (DE.and (DE.fnB VCall.isi rfl g_isinstance b_isinstance (DA.cons (DE.var 0) (DA.cons (DE.ty .str rfl g_str b_str) (DA.nil)))) (DE.and (DE.chain VOp.le VOp.le (DE.int) (DE.fnB VCall.len rfl g_len b_len (DA.cons (DE.var 0) (DA.nil))) (DE.int)) (DE.one (DE.fnB (VCall.all c.cm) rfl g_all b_all (DA.cons (DL.pure (DL.lc [("sign", 1)] [1] c.cm c.nd (DI.seq (DE.var 0)) (blkOk_by (by kernel_rfl)) (fun _ _ _ _ _ => DGw.name 1 c.b.nd) (fun _ _ _ _ _ => DTs.nil) (fun _ _ _ _ _ => DE.cmp (VOp.in_ c.b.u2) (DE.var 1) (DE.glob rfl V_LETTERS)))) (DA.nil)))))))
theorem sc_is_variable : FnScope ["thing"] ["thing"] (defScope (top 4)) := ⟨rfl, rfl, rfl, by decide +kernel, rfl, by decide +kernel, by decide +kernel⟩
theorem fg_is_variable {f : Addr} {fd : FuncData} (F : FnP K "is_variable" (top 4) f fd) (g_isinstance : mg "isinstance" = none) (g_str : mg "str" = none) (F_is_name : Fn P w K mg base 1 "is_name" m_is_name) : FG P w K mg base 2 f fd ["thing"] m_is_variable := by
  replace F_is_name := F_is_name.mono (k := 1) (by decide)
  refine FG.of true F sc_is_variable fun cdv A outer s H E hr hg => ?_
  have c : Cn 1 (cxOf (L2.CX P w) P w K mg base ["thing"] "is_variable" (defScope (top 4)) f cdv A outer s H E) := ⟨rfl, sc_is_variable.nd, hr, hg⟩
  have tk : Takes (cxOf (L2.CX P w) P w K mg base ["thing"] "is_variable" (defScope (top 4)) f cdv A outer s H E) (fun cls d _ H' => E cls d H') := takes_of rfl rfl rfl rfl
  exact DSs.cons (DS.ite (DT.not (DT.val (DE.fnB VCall.isi rfl g_isinstance b_isinstance (DA.cons (DE.var 0) (DA.cons (DE.ty .str rfl g_str b_str) (DA.nil)))))) (DSs.one (DS.ret (DE.bool))) (DSs.nil)) (DSs.one (DS.ret (DE.ifExp (DT.val (DE.methS PySem.F.slot_str_endswith PySem.F.type_str_endswith VMs.endswith (DE.var 0) (DA.cons (DE.str [39]) (DA.nil)))) (DE.call F_is_name c.rm c.gd tk (DA.cons (DE.slice (DE.var 0) (DO.none) (DO.some (DE.un VUn.neg (DE.int)))) (DA.nil))) (DE.call F_is_name c.rm c.gd tk (DA.cons (DE.var 0) (DA.nil))))))
theorem sc_is_claim : FnScope ["thing", "left", "operator", "right"] ["thing"] (defScope (top 5)) := ⟨rfl, rfl, rfl, by decide +kernel, rfl, by decide +kernel, by decide +kernel⟩
theorem fg_is_claim {f : Addr} {fd : FuncData} (F : FnP K "is_claim" (top 5) f fd) (g_isinstance : mg "isinstance" = none) (g_len : mg "len" = none) (g_str : mg "str" = none) (g_tuple : mg "tuple" = none) (V_OPERATORS : GV K mg "OPERATORS" v_OPERATORS) (F_is_variable : Fn P w K mg base 2 "is_variable" m_is_variable) : FG P w K mg base 3 f fd ["thing"] m_is_claim := by
  replace F_is_variable := F_is_variable.mono (k := 2) (by decide)
  refine FG.of true F sc_is_claim fun cdv A outer s H E hr hg => ?_
  have c : Cn 2 (cxOf (L2.CX P w) P w K mg base ["thing", "left", "operator", "right"] "is_claim" (defScope (top 5)) f cdv A outer s H E) := ⟨rfl, sc_is_claim.nd, hr, hg⟩
  have tk : Takes (cxOf (L2.CX P w) P w K mg base ["thing", "left", "operator", "right"] "is_claim" (defScope (top 5)) f cdv A outer s H E) (fun cls d _ H' => E cls d H') := takes_of rfl rfl rfl rfl
  exact DSs.cons (DS.ite (DW.dt (DW.or (DT.not (DT.val (DE.fnB VCall.isi rfl g_isinstance b_isinstance (DA.cons (DE.var 0) (DA.cons (DE.ty .tup rfl g_tuple b_tuple) (DA.nil)))))) (DW.or1 (DT.cmp (VOp.ne c.u1) (DE.fnB VCall.len rfl g_len b_len (DA.cons (DE.var 0) (DA.nil))) (DE.int))))) (DSs.one (DS.ret (DE.bool))) (DSs.nil)) (DSs.cons (DS.asg (DE.var 0) (DG.tup c.cm (DGs.cons (DG.name 1 c.nd) (DGs.cons (DG.name 2 c.nd) (DGs.cons (DG.name 3 c.nd) (DGs.nil)))))) (DSs.one (DS.ret (DE.and (DE.call F_is_variable c.rm c.gd tk (DA.cons (DE.var 1) (DA.nil))) (DE.and (DE.call F_is_variable c.rm c.gd tk (DA.cons (DE.var 3) (DA.nil))) (DE.and (DE.fnB VCall.isi rfl g_isinstance b_isinstance (DA.cons (DE.var 2) (DA.cons (DE.ty .str rfl g_str b_str) (DA.nil)))) (DE.one (DE.cmp (VOp.in_ c.u2) (DE.var 2) (DE.glob rfl V_OPERATORS)))))))))
theorem sc__law_cell : FnScope ["_law_script", "_law_k", "_law_mixed", "_law_cell_here"] ["_law_script", "_law_k"] (defScope (top 7)) := ⟨rfl, rfl, rfl, by decide +kernel, rfl, by decide +kernel, by decide +kernel⟩
theorem fg__law_cell {f : Addr} {fd : FuncData} (F : FnP K "_law_cell" (top 7) f fd) (g_len : mg "len" = none) : FG P w K mg base 1 f fd ["_law_script", "_law_k"] m__law_cell := by
  refine FG.of true F sc__law_cell fun cdv A outer s H E hr hg => ?_
  have c : Cn 0 (cxOf (L2.CX P w) P w K mg base ["_law_script", "_law_k", "_law_mixed", "_law_cell_here"] "_law_cell" (defScope (top 7)) f cdv A outer s H E) := ⟨rfl, sc__law_cell.nd, hr, hg⟩
  have tk : Takes (cxOf (L2.CX P w) P w K mg base ["_law_script", "_law_k", "_law_mixed", "_law_cell_here"] "_law_cell" (defScope (top 7)) f cdv A outer s H E) (fun cls d _ H' => E cls d H') := takes_of rfl rfl rfl rfl
  exact DSs.cons (DS.ite (DT.cmp VOp.lt (DE.var 1) (DE.fnB VCall.len rfl g_len b_len (DA.cons (DE.var 0) (DA.nil)))) (DSs.one (DS.ret (DE.ix (DE.var 0) (DE.var 1)))) (DSs.nil)) (DSs.cons (DS.set 2 c.nd (DE.bin VOp.mod (DE.bin VOp.mul (DE.int) (DE.bin VOp.add (DE.bin VOp.add (DE.bin VOp.mul (DE.var 1) (DE.var 1)) (DE.bin VOp.mul (DE.int) (DE.var 1))) (DE.int))) (DE.int))) (DSs.cons (DS.for_ (passes_of rfl) c.cm (DI.seq (DE.slice (DE.var 0) (DO.none) (DO.some (DE.int)))) (DG.name 3 c.nd) (DSs.one (DS.set 2 c.nd (DE.bin VOp.mod (DE.bin VOp.add (DE.bin VOp.mul (DE.var 2) (DE.int)) (DE.var 3)) (DE.int))))) (DSs.one (DS.ret (DE.var 2)))))
theorem sc__law_purse : FnScope ["_law_cell_here", "_law_digits"] ["_law_cell_here"] (defScope (top 8)) := ⟨rfl, rfl, rfl, by decide +kernel, rfl, by decide +kernel, by decide +kernel⟩
theorem fg__law_purse {f : Addr} {fd : FuncData} (F : FnP K "_law_purse" (top 8) f fd) (g_abs : mg "abs" = none) : FG P w K mg base 1 f fd ["_law_cell_here"] m__law_purse := by
  refine FG.of false F sc__law_purse fun cdv A outer s H E hr hg => ?_
  have c : Cn 0 (cxOf (L2.CX P w) P w K mg base ["_law_cell_here", "_law_digits"] "_law_purse" (defScope (top 8)) f cdv A outer s H E) := ⟨rfl, sc__law_purse.nd, hr, hg⟩
  have tk : Takes (cxOf (L2.CX P w) P w K mg base ["_law_cell_here", "_law_digits"] "_law_purse" (defScope (top 8)) f cdv A outer s H E) (fun cls d _ H' => E cls d H') := takes_of rfl rfl rfl rfl
  exact DSs.cons (DS.set 1 c.nd (DE.int)) (DSs.cons (DS.ite (DW.dt (DW.or (DT.cmp VOp.lt (DE.var 0) (DE.int)) (DW.or1 (DT.cmp VOp.ge (DE.var 0) (DE.bin VOp.pow (DE.int) (DE.int)))))) (DSs.one (DS.set 1 c.nd (DE.fnB VCall.abs rfl g_abs b_abs (DA.cons (DE.var 0) (DA.nil))))) (DSs.nil)) (DSs.one (DS.ret (DL.new (DL.list (DA.cons (DE.bin VOp.mod (DE.var 0) (DE.int)) (DA.cons (DE.var 1) (DA.cons (DE.int) (DA.nil)))))))))
theorem sc__law_draw : FnScope ["_law_purse_here", "_law_size", "_law_mixed", "_law_digit"] ["_law_purse_here", "_law_size"] (defScope (top 9)) := ⟨rfl, rfl, rfl, by decide +kernel, rfl, by decide +kernel, by decide +kernel⟩
theorem fg__law_draw {f : Addr} {fd : FuncData} (F : FnP K "_law_draw" (top 9) f fd) (g_divmod : mg "divmod" = none) : FG P w K mg base 1 f fd ["_law_purse_here", "_law_size"] m__law_draw := by
  refine FG.of true F sc__law_draw fun cdv A outer s H E hr hg => ?_
  have c : Cn 0 (cxOf (L2.CX P w) P w K mg base ["_law_purse_here", "_law_size", "_law_mixed", "_law_digit"] "_law_draw" (defScope (top 9)) f cdv A outer s H E) := ⟨rfl, sc__law_draw.nd, hr, hg⟩
  have tk : Takes (cxOf (L2.CX P w) P w K mg base ["_law_purse_here", "_law_size", "_law_mixed", "_law_digit"] "_law_draw" (defScope (top 9)) f cdv A outer s H E) (fun cls d _ H' => E cls d H') := takes_of rfl rfl rfl rfl
  exact DSs.cons (DS.asg (DE.bin VOp.add (DE.ix (DE.var 0) (DE.int)) (DE.int)) (DG.sub (DE.var 0) (DE.int))) (DSs.cons (DS.set 2 c.nd (DE.ix (DE.var 0) (DE.int))) (DSs.cons (DS.asg (DE.bin VOp.mod (DE.bin VOp.add (DE.bin VOp.add (DE.bin VOp.mul (DE.var 2) (DE.bin VOp.add (DE.bin VOp.mod (DE.var 2) (DE.int)) (DE.int))) (DE.bin VOp.mul (DE.int) (DE.ix (DE.var 0) (DE.int)))) (DE.int)) (DE.int)) (DG.sub (DE.var 0) (DE.int))) (DSs.cons (DS.ite (DT.cmp VOp.gt (DE.ix (DE.var 0) (DE.int)) (DE.int)) (DSs.cons (DS.asg (DE.fnB VCall.divmod rfl g_divmod b_divmod (DA.cons (DE.ix (DE.var 0) (DE.int)) (DA.cons (DE.var 1) (DA.nil)))) (DG.tup c.cm (DGs.cons (DG.sub (DE.var 0) (DE.int)) (DGs.cons (DG.name 3 c.nd) (DGs.nil))))) (DSs.one (DS.ret (DE.var 3)))) (DSs.nil)) (DSs.one (DS.ret (DE.bin VOp.mod (DE.bin VOp.div (DE.ix (DE.var 0) (DE.int)) (DE.int)) (DE.var 1)))))))
theorem sc__law_word : FnScope ["_law_purse_here", "_law_letters", "_law_odd", "_law_word_here", "_law_at", "_law_k"] ["_law_purse_here"] (defScope (top 10)) := ⟨rfl, rfl, rfl, by decide +kernel, rfl, by decide +kernel, by decide +kernel⟩
theorem fg__law_word {f : Addr} {fd : FuncData} (F : FnP K "_law_word" (top 10) f fd) (g_len : mg "len" = none) (g_range : mg "range" = none) (F__law_draw : Fn P w K mg base 1 "_law_draw" m__law_draw) : FG P w K mg base 2 f fd ["_law_purse_here"] m__law_word := by
  replace F__law_draw := F__law_draw.mono (k := 1) (by decide)
  refine FG.of true F sc__law_word fun cdv A outer s H E hr hg => ?_
  have c : Cn 1 (cxOf (L2.CX P w) P w K mg base ["_law_purse_here", "_law_letters", "_law_odd", "_law_word_here", "_law_at", "_law_k"] "_law_word" (defScope (top 10)) f cdv A outer s H E) := ⟨rfl, sc__law_word.nd, hr, hg⟩
  have tk : Takes (cxOf (L2.CX P w) P w K mg base ["_law_purse_here", "_law_letters", "_law_odd", "_law_word_here", "_law_at", "_law_k"] "_law_word" (defScope (top 10)) f cdv A outer s H E) (fun cls d _ H' => E cls d H') := takes_of rfl rfl rfl rfl
  exact DSs.cons (DS.asg (DE.tup (DA.cons (DE.str [97, 98, 99, 100, 101, 102, 103, 104, 105, 106, 107, 108, 109, 110, 111, 112, 113, 114, 115, 116, 117, 118, 119, 120, 121, 122]) (DA.cons (DE.str [65, 90, 48, 57, 95, 39, 45, 32, 44, 46, 60, 61, 10]) (DA.nil)))) (DG.tup c.cm (DGs.cons (DG.name 1 c.nd) (DGs.cons (DG.name 2 c.nd) (DGs.nil))))) (DSs.cons (DS.set 3 c.nd (DE.methS PySem.F.slot_str_join PySem.F.type_str_join VMs.join (DE.str []) (DA.cons (DL.pure (DL.lc [("_law_k", 5)] [5] c.cm c.nd (DI.rng1 rfl g_range (DA.cons (DE.call F__law_draw c.rm c.gd tk (DA.cons (DE.var 0) (DA.cons (DE.int) (DA.nil)))) (DA.nil))) (blkOk_by (by kernel_rfl)) (fun _ _ _ _ _ => DGw.name 5 c.b.nd) (fun _ _ _ _ _ => DTs.nil) (fun _ _ _ _ _ => DE.ix (DE.var 1) (DE.call F__law_draw c.b.rm c.b.gd takesN (DA.cons (DE.var 0) (DA.cons (DE.int) (DA.nil))))))) (DA.nil)))) (DSs.cons (DS.set 4 c.nd (DE.call F__law_draw c.rm c.gd tk (DA.cons (DE.var 0) (DA.cons (DE.bin VOp.add (DE.fnB VCall.len rfl g_len b_len (DA.cons (DE.var 3) (DA.nil))) (DE.int)) (DA.nil))))) (DSs.cons (DS.ite (DT.cmp (VOp.eq c.u1) (DE.call F__law_draw c.rm c.gd tk (DA.cons (DE.var 0) (DA.cons (DE.int) (DA.nil)))) (DE.int)) (DSs.one (DS.set 3 c.nd (DE.bin VOp.add (DE.bin VOp.add (DE.slice (DE.var 3) (DO.none) (DO.some (DE.var 4))) (DE.ix (DE.var 2) (DE.call F__law_draw c.rm c.gd tk (DA.cons (DE.var 0) (DA.cons (DE.fnB VCall.len rfl g_len b_len (DA.cons (DE.var 2) (DA.nil))) (DA.nil)))))) (DE.slice (DE.var 3) (DO.some (DE.bin VOp.add (DE.var 4) (DE.call F__law_draw c.rm c.gd tk (DA.cons (DE.var 0) (DA.cons (DE.int) (DA.nil)))))) (DO.none))))) (DSs.nil)) (DSs.one (DS.ret (DE.bin VOp.add (DE.var 3) (DE.ix (DL.pure (DL.list (DA.cons (DE.str []) (DA.cons (DE.str []) (DA.cons (DE.str [39]) (DA.cons (DE.str [39, 39]) (DA.nil))))))) (DE.call F__law_draw c.rm c.gd tk (DA.cons (DE.var 0) (DA.cons (DE.int) (DA.nil)))))))))))
theorem sc__law_is_name : FnScope ["_law_word_here", "_law_sign"] ["_law_word_here"] (defScope (top 11)) := ⟨rfl, rfl, rfl, by decide +kernel, rfl, by decide +kernel, by decide +kernel⟩
theorem fg__law_is_name {f : Addr} {fd : FuncData} (F : FnP K "_law_is_name" (top 11) f fd) (g_all : mg "all" = none) (g_isinstance : mg "isinstance" = none) (g_len : mg "len" = none) (g_str : mg "str" = none) : FG P w K mg base 1 f fd ["_law_word_here"] m__law_is_name := by
  refine FG.of true F sc__law_is_name fun cdv A outer s H E hr hg => ?_
  have c : Cn 0 (cxOf (L2.CX P w) P w K mg base ["_law_word_here", "_law_sign"] "_law_is_name" (defScope (top 11)) f cdv A outer s H E) := ⟨rfl, sc__law_is_name.nd, hr, hg⟩
  have tk : Takes (cxOf (L2.CX P w) P w K mg base ["_law_word_here", "_law_sign"] "_law_is_name" (defScope (top 11)) f cdv A outer s H E) (fun cls d _ H' => E cls d H') := takes_of rfl rfl rfl rfl
  exact DSs.cons (DS.ite (DW.dt (DW.or (DT.not (DT.val (DE.fnB VCall.isi rfl g_isinstance b_isinstance (DA.cons (DE.var 0) (DA.cons (DE.ty .str rfl g_str b_str) (DA.nil)))))) (DW.or1 (DT.not (DT.chain VOp.lt VOp.lt (DE.int) (DE.fnB VCall.len rfl g_len b_len (DA.cons (DE.var 0) (DA.nil))) (DE.int)))))) (DSs.one (DS.ret (DE.bool))) (DSs.nil)) (DSs.one (DS.ret (DE.fnB (VCall.all c.cm) rfl g_all b_all (DA.cons (DL.pure (DL.lc [("_law_sign", 1)] [1] c.cm c.nd (DI.seq (DE.var 0)) (blkOk_by (by kernel_rfl)) (fun _ _ _ _ _ => DGw.name 1 c.b.nd) (fun _ _ _ _ _ => DTs.nil) (fun _ _ _ _ _ => DE.cmp (VOp.in_ c.b.u2) (DE.var 1) (DE.str [97, 98, 99, 100, 101, 102, 103, 104, 105, 106, 107, 108, 109, 110, 111, 112, 113, 114, 115, 116, 117, 118, 119, 120, 121, 122])))) (DA.nil)))))
theorem sc__law_is_variable : FnScope ["_law_word_here"] ["_law_word_here"] (defScope (top 12)) := ⟨rfl, rfl, rfl, by decide +kernel, rfl, by decide +kernel, by decide +kernel⟩
theorem fg__law_is_variable {f : Addr} {fd : FuncData} (F : FnP K "_law_is_variable" (top 12) f fd) (g_isinstance : mg "isinstance" = none) (g_str : mg "str" = none) (F__law_is_name : Fn P w K mg base 1 "_law_is_name" m__law_is_name) : FG P w K mg base 2 f fd ["_law_word_here"] m__law_is_variable := by
  replace F__law_is_name := F__law_is_name.mono (k := 1) (by decide)
  refine FG.of true F sc__law_is_variable fun cdv A outer s H E hr hg => ?_
  have c : Cn 1 (cxOf (L2.CX P w) P w K mg base ["_law_word_here"] "_law_is_variable" (defScope (top 12)) f cdv A outer s H E) := ⟨rfl, sc__law_is_variable.nd, hr, hg⟩
  have tk : Takes (cxOf (L2.CX P w) P w K mg base ["_law_word_here"] "_law_is_variable" (defScope (top 12)) f cdv A outer s H E) (fun cls d _ H' => E cls d H') := takes_of rfl rfl rfl rfl
  exact DSs.one (DS.ret (DE.and (DE.fnB VCall.isi rfl g_isinstance b_isinstance (DA.cons (DE.var 0) (DA.cons (DE.ty .str rfl g_str b_str) (DA.nil)))) (DE.one (DE.call F__law_is_name c.rm c.gd tk (DA.cons (DE.ifExp (DT.cmp (VOp.eq c.u1) (DE.slice (DE.var 0) (DO.some (DE.un VUn.neg (DE.int))) (DO.none)) (DE.str [39])) (DE.slice (DE.var 0) (DO.none) (DO.some (DE.un VUn.neg (DE.int)))) (DE.var 0)) (DA.nil))))))
theorem sc__law_is_claim : FnScope ["_law_row"] ["_law_row"] (defScope (top 13)) := ⟨rfl, rfl, rfl, by decide +kernel, rfl, by decide +kernel, by decide +kernel⟩
theorem fg__law_is_claim {f : Addr} {fd : FuncData} (F : FnP K "_law_is_claim" (top 13) f fd) (g_isinstance : mg "isinstance" = none) (g_len : mg "len" = none) (g_str : mg "str" = none) (g_tuple : mg "tuple" = none) (F__law_is_variable : Fn P w K mg base 2 "_law_is_variable" m__law_is_variable) : FG P w K mg base 3 f fd ["_law_row"] m__law_is_claim := by
  replace F__law_is_variable := F__law_is_variable.mono (k := 2) (by decide)
  refine FG.of true F sc__law_is_claim fun cdv A outer s H E hr hg => ?_
  have c : Cn 2 (cxOf (L2.CX P w) P w K mg base ["_law_row"] "_law_is_claim" (defScope (top 13)) f cdv A outer s H E) := ⟨rfl, sc__law_is_claim.nd, hr, hg⟩
  have tk : Takes (cxOf (L2.CX P w) P w K mg base ["_law_row"] "_law_is_claim" (defScope (top 13)) f cdv A outer s H E) (fun cls d _ H' => E cls d H') := takes_of rfl rfl rfl rfl
  exact DSs.cons (DS.ite (DW.dt (DW.or (DT.not (DT.val (DE.fnB VCall.isi rfl g_isinstance b_isinstance (DA.cons (DE.var 0) (DA.cons (DE.ty .tup rfl g_tuple b_tuple) (DA.nil)))))) (DW.or (DT.cmp (VOp.ne c.u1) (DE.fnB VCall.len rfl g_len b_len (DA.cons (DE.var 0) (DA.nil))) (DE.int)) (DW.or (DT.not (DT.val (DE.fnB VCall.isi rfl g_isinstance b_isinstance (DA.cons (DE.ix (DE.var 0) (DE.int)) (DA.cons (DE.ty .str rfl g_str b_str) (DA.nil)))))) (DW.or1 (DT.cmp (VOp.notIn c.u2) (DE.ix (DE.var 0) (DE.int)) (DL.pure (DL.list (DA.cons (DE.str [60]) (DA.cons (DE.str [60, 61]) (DA.cons (DE.str [61]) (DA.nil)))))))))))) (DSs.one (DS.ret (DE.bool))) (DSs.nil)) (DSs.one (DS.ret (DE.and (DE.call F__law_is_variable c.rm c.gd tk (DA.cons (DE.ix (DE.var 0) (DE.int)) (DA.nil))) (DE.one (DE.call F__law_is_variable c.rm c.gd tk (DA.cons (DE.ix (DE.var 0) (DE.int)) (DA.nil)))))))
theorem sc__law_value : FnScope ["_law_purse_here", "_law_some"] ["_law_purse_here"] (defScope (top 14)) := ⟨rfl, rfl, rfl, by decide +kernel, rfl, by decide +kernel, by decide +kernel⟩
theorem fg__law_value {f : Addr} {fd : FuncData} (F : FnP K "_law_value" (top 14) f fd) (g_len : mg "len" = none) (F__law_word : Fn P w K mg base 2 "_law_word" m__law_word) (F__law_draw : Fn P w K mg base 1 "_law_draw" m__law_draw) : FG P w K mg base 3 f fd ["_law_purse_here"] m__law_value := by
  replace F__law_word := F__law_word.mono (k := 2) (by decide)
  replace F__law_draw := F__law_draw.mono (k := 2) (by decide)
  refine FG.of true F sc__law_value fun cdv A outer s H E hr hg => ?_
  have c : Cn 2 (cxOf (L2.CX P w) P w K mg base ["_law_purse_here", "_law_some"] "_law_value" (defScope (top 14)) f cdv A outer s H E) := ⟨rfl, sc__law_value.nd, hr, hg⟩
  have tk : Takes (cxOf (L2.CX P w) P w K mg base ["_law_purse_here", "_law_some"] "_law_value" (defScope (top 14)) f cdv A outer s H E) (fun cls d _ H' => E cls d H') := takes_of rfl rfl rfl rfl
  exact DSs.cons (DS.set 1 c.nd (DL.pure (DL.list (DA.cons (DE.nonE) (DA.cons (DE.bool) (DA.cons (DE.bool) (DA.cons (DE.int) (DA.cons (DE.int) (DA.cons (DE.un VUn.neg (DE.int)) (DA.cons (DE.bin VOp.pow (DE.int) (DE.int)) (DA.cons (DE.str []) (DA.cons (DE.tup (DA.nil)) (DA.cons (DL.pure (DL.list (DA.nil))) (DA.cons (DE.dct0) (DA.cons (DE.tup (DA.cons (DE.str [120]) (DA.nil))) (DA.cons (DL.pure (DL.list (DA.cons (DE.str [120]) (DA.nil)))) (DA.cons (DE.dct1 (DE.str [120]) (DE.str [121])) (DA.cons (DE.tup (DA.cons (DE.str [120]) (DA.cons (DE.str [60]) (DA.cons (DE.str [121]) (DA.nil))))) (DA.cons (DL.pure (DL.list (DA.cons (DL.pure (DL.list (DA.nil))) (DA.nil)))) (DA.nil)))))))))))))))))))) (DSs.one (DS.ret (DE.ix (DE.bin VOp.add (DE.var 1) (DL.pure (DL.list (DA.cons (DE.call F__law_word c.rm c.gd tk (DA.cons (DE.var 0) (DA.nil))) (DA.nil))))) (DE.call F__law_draw c.rm c.gd tk (DA.cons (DE.var 0) (DA.cons (DE.bin VOp.add (DE.fnB VCall.len rfl g_len b_len (DA.cons (DE.var 1) (DA.nil))) (DE.int)) (DA.nil)))))))
theorem sc__law_triple : FnScope ["_law_purse_here", "_law_signs", "_law_names", "_law_parts", "_law_way", "_law_at"] ["_law_purse_here"] (defScope (top 15)) := ⟨rfl, rfl, rfl, by decide +kernel, rfl, by decide +kernel, by decide +kernel⟩
theorem fg__law_triple {f : Addr} {fd : FuncData} (F : FnP K "_law_triple" (top 15) f fd) (g_len : mg "len" = none) (g_tuple : mg "tuple" = none) (F__law_value : Fn P w K mg base 3 "_law_value" m__law_value) (F__law_draw : Fn P w K mg base 1 "_law_draw" m__law_draw) (F__law_word : Fn P w K mg base 2 "_law_word" m__law_word) : FG P w K mg base 4 f fd ["_law_purse_here"] m__law_triple := by
  replace F__law_value := F__law_value.mono (k := 3) (by decide)
  replace F__law_draw := F__law_draw.mono (k := 3) (by decide)
  replace F__law_word := F__law_word.mono (k := 3) (by decide)
  refine FG.of true F sc__law_triple fun cdv A outer s H E hr hg => ?_
  have c : Cn 3 (cxOf (L2.CX P w) P w K mg base ["_law_purse_here", "_law_signs", "_law_names", "_law_parts", "_law_way", "_law_at"] "_law_triple" (defScope (top 15)) f cdv A outer s H E) := ⟨rfl, sc__law_triple.nd, hr, hg⟩
  have tk : Takes (cxOf (L2.CX P w) P w K mg base ["_law_purse_here", "_law_signs", "_law_names", "_law_parts", "_law_way", "_law_at"] "_law_triple" (defScope (top 15)) f cdv A outer s H E) (fun cls d _ H' => E cls d H') := takes_of rfl rfl rfl rfl
  exact DSs.cons (DS.set 1 c.nd (DL.pure (DL.list (DA.cons (DE.str [60]) (DA.cons (DE.str [60, 61]) (DA.cons (DE.str [61]) (DA.cons (DE.str [60]) (DA.cons (DE.str [60, 61]) (DA.cons (DE.str [61]) (DA.cons (DE.str [62]) (DA.cons (DE.str [61, 61]) (DA.cons (DE.str []) (DA.cons (DE.str [61, 60]) (DA.cons (DE.str [32, 60]) (DA.cons (DE.str [60, 60]) (DA.cons (DE.str [60, 61, 61]) (DA.nil))))))))))))))))) (DSs.cons (DS.set 2 c.nd (DL.pure (DL.list (DA.cons (DE.str [120]) (DA.cons (DE.str [121, 39]) (DA.cons (DE.str [97, 98, 99, 100, 101, 102]) (DA.cons (DE.str [97, 98, 99, 100, 101, 102, 39]) (DA.cons (DE.call F__law_word c.rm c.gd tk (DA.cons (DE.var 0) (DA.nil))) (DA.cons (DE.call F__law_word c.rm c.gd tk (DA.cons (DE.var 0) (DA.nil))) (DA.nil)))))))))) (DSs.cons (DS.set 3 c.nd (DL.new (DL.list (DA.cons (DE.ix (DE.var 2) (DE.call F__law_draw c.rm c.gd tk (DA.cons (DE.var 0) (DA.cons (DE.int) (DA.nil))))) (DA.cons (DE.ix (DE.var 1) (DE.call F__law_draw c.rm c.gd tk (DA.cons (DE.var 0) (DA.cons (DE.fnB VCall.len rfl g_len b_len (DA.cons (DE.var 1) (DA.nil))) (DA.nil))))) (DA.cons (DE.ix (DE.var 2) (DE.call F__law_draw c.rm c.gd tk (DA.cons (DE.var 0) (DA.cons (DE.int) (DA.nil))))) (DA.nil))))))) (DSs.cons (DS.par2 4 5 c.cm c.nd (DA.cons (DE.call F__law_draw c.rm c.gd tk (DA.cons (DE.var 0) (DA.cons (DE.int) (DA.nil)))) (DA.cons (DE.call F__law_draw c.rm c.gd tk (DA.cons (DE.var 0) (DA.cons (DE.int) (DA.nil)))) (DA.nil))) rfl) (DSs.cons (DS.ite (DT.cmp (VOp.eq c.u1) (DE.var 4) (DE.int)) (DSs.one (DS.asg (DE.call F__law_value c.rm c.gd tk (DA.cons (DE.var 0) (DA.nil))) (DG.sub (DE.var 3) (DE.var 5)))) (DSs.nil)) (DSs.cons (DS.ite (DT.cmp (VOp.eq c.u1) (DE.var 4) (DE.int)) (DSs.one (DS.set 3 c.nd (DE.bin VOp.add (DE.slice (DE.var 3) (DO.none) (DO.some (DE.var 5))) (DE.slice (DE.var 3) (DO.some (DE.bin VOp.add (DE.var 5) (DE.int))) (DO.none))))) (DSs.nil)) (DSs.cons (DS.ite (DT.cmp (VOp.eq c.u1) (DE.var 4) (DE.int)) (DSs.one (DS.set 3 c.nd (DE.bin VOp.add (DE.bin VOp.add (DE.slice (DE.var 3) (DO.none) (DO.some (DE.var 5))) (DL.pure (DL.list (DA.cons (DE.call F__law_value c.rm c.gd tk (DA.cons (DE.var 0) (DA.nil))) (DA.nil))))) (DE.slice (DE.var 3) (DO.some (DE.var 5)) (DO.none))))) (DSs.nil)) (DSs.one (DS.ret (DE.ifExp (DT.cmp (VOp.eq c.u1) (DE.var 4) (DE.int)) (DE.var 3) (DE.fnT VCall.tuple rfl g_tuple b_tuple (DA.cons (DE.var 3) (DA.nil))))))))))))
theorem sc__law_right : FnScope ["_law_it", "_law_shown", "_law_due", "_law_turn", "_law_told"] ["_law_it"] (defScope (top 16)) := ⟨rfl, rfl, rfl, by decide +kernel, rfl, by decide +kernel, by decide +kernel⟩
theorem fg__law_right {f : Addr} {fd : FuncData} (F : FnP K "_law_right" (top 16) f fd) (g_range : mg "range" = none) (g_repr : mg "repr" = none) (F_is_claim : Fn P w K mg base 3 "is_claim" m_is_claim) (F_is_variable : Fn P w K mg base 2 "is_variable" m_is_variable) (F_is_name : Fn P w K mg base 1 "is_name" m_is_name) (F__law_is_claim : Fn P w K mg base 3 "_law_is_claim" m__law_is_claim) (F__law_is_variable : Fn P w K mg base 2 "_law_is_variable" m__law_is_variable) (F__law_is_name : Fn P w K mg base 1 "_law_is_name" m__law_is_name) (FK_is_claim_0_thing : FnK P w K mg base 3 "is_claim" 0 ["thing"] (fun a b => a ++ b) m_is_claim) (FK_is_variable_0_thing : FnK P w K mg base 2 "is_variable" 0 ["thing"] (fun a b => a ++ b) m_is_variable) (FK_is_name_0_thing : FnK P w K mg base 1 "is_name" 0 ["thing"] (fun a b => a ++ b) m_is_name) : FG P w K mg base 4 f fd ["_law_it"] m__law_right := by
  replace F_is_claim := F_is_claim.mono (k := 3) (by decide)
  replace F_is_variable := F_is_variable.mono (k := 3) (by decide)
  replace F_is_name := F_is_name.mono (k := 3) (by decide)
  replace F__law_is_claim := F__law_is_claim.mono (k := 3) (by decide)
  replace F__law_is_variable := F__law_is_variable.mono (k := 3) (by decide)
  replace F__law_is_name := F__law_is_name.mono (k := 3) (by decide)
  replace FK_is_claim_0_thing := FK_is_claim_0_thing.mono (k := 3) (by decide)
  replace FK_is_variable_0_thing := FK_is_variable_0_thing.mono (k := 3) (by decide)
  replace FK_is_name_0_thing := FK_is_name_0_thing.mono (k := 3) (by decide)
  refine FG.of true F sc__law_right fun cdv A outer s H E hr hg => ?_
  have c : Cn 3 (cxOf (L2.CX P w) P w K mg base ["_law_it", "_law_shown", "_law_due", "_law_turn", "_law_told"] "_law_right" (defScope (top 16)) f cdv A outer s H E) := ⟨rfl, sc__law_right.nd, hr, hg⟩
  have tk : Takes (cxOf (L2.CX P w) P w K mg base ["_law_it", "_law_shown", "_law_due", "_law_turn", "_law_told"] "_law_right" (defScope (top 16)) f cdv A outer s H E) (fun cls d _ H' => E cls d H') := takes_of rfl rfl rfl rfl
  exact DSs.cons (DS.par2 1 2 c.cm c.nd (DA.cons (DE.fnB (VCall.repr c.gd c.u3) rfl g_repr b_repr (DA.cons (DE.var 0) (DA.nil))) (DA.cons (DL.pure (DL.list (DA.cons (DE.call F__law_is_name c.rm c.gd tk (DA.cons (DE.var 0) (DA.nil))) (DA.cons (DE.call F__law_is_variable c.rm c.gd tk (DA.cons (DE.var 0) (DA.nil))) (DA.cons (DE.call F__law_is_claim c.rm c.gd tk (DA.cons (DE.var 0) (DA.nil))) (DA.nil)))))) (DA.nil))) rfl) (DSs.cons (DS.for_ (passes_of rfl) c.cm (DI.rng1 rfl g_range (DA.cons (DE.int) (DA.nil))) (DG.name 3 c.nd) (DSs.cons (DS.set 4 c.nd (DL.pure (DL.list (DA.cons (DE.call F_is_name c.rm c.gd tk (DA.cons (DE.var 0) (DA.nil))) (DA.cons (DE.call F_is_variable c.rm c.gd tk (DA.cons (DE.var 0) (DA.nil))) (DA.cons (DE.call F_is_claim c.rm c.gd tk (DA.cons (DE.var 0) (DA.nil))) (DA.nil))))))) (DSs.cons (DS.set 4 c.nd (DE.bin VOp.add (DE.var 4) (DL.pure (DL.list (DA.cons (DE.callK0 FK_is_name_0_thing c.rm c.gd tk (DK.cons (DE.var 0) (DK.nil))) (DA.cons (DE.callK0 FK_is_variable_0_thing c.rm c.gd tk (DK.cons (DE.var 0) (DK.nil))) (DA.cons (DE.callK0 FK_is_claim_0_thing c.rm c.gd tk (DK.cons (DE.var 0) (DK.nil))) (DA.nil)))))))) (DSs.one (DS.ite (DW.dt (DW.or (DT.cmp (VOp.ne c.u1) (DE.fnB (VCall.repr c.gd c.u3) rfl g_repr b_repr (DA.cons (DE.var 4) (DA.nil))) (DE.fnB (VCall.repr c.gd c.u3) rfl g_repr b_repr (DA.cons (DE.bin VOp.add (DE.var 2) (DE.var 2)) (DA.nil)))) (DW.or1 (DT.cmp (VOp.ne c.u1) (DE.fnB (VCall.repr c.gd c.u3) rfl g_repr b_repr (DA.cons (DE.var 0) (DA.nil))) (DE.var 1))))) (DSs.one (DS.ret (DE.bool))) (DSs.nil)))))) (DSs.one (DS.ret (DE.bool))))
theorem sc__law_by_hand : FnScope ["_law_some", "_law_it"] [] (defScope (top 17)) := ⟨rfl, rfl, rfl, by decide +kernel, rfl, by decide +kernel, by decide +kernel⟩
theorem fg__law_by_hand {f : Addr} {fd : FuncData} (F : FnP K "_law_by_hand" (top 17) f fd) (g_all : mg "all" = none) (F__law_right : Fn P w K mg base 4 "_law_right" m__law_right) : FG P w K mg base 5 f fd [] m__law_by_hand := by
  replace F__law_right := F__law_right.mono (k := 4) (by decide)
  refine FG.of true F sc__law_by_hand fun cdv A outer s H E hr hg => ?_
  have c : Cn 4 (cxOf (L2.CX P w) P w K mg base ["_law_some", "_law_it"] "_law_by_hand" (defScope (top 17)) f cdv A outer s H E) := ⟨rfl, sc__law_by_hand.nd, hr, hg⟩
  have tk : Takes (cxOf (L2.CX P w) P w K mg base ["_law_some", "_law_it"] "_law_by_hand" (defScope (top 17)) f cdv A outer s H E) (fun cls d _ H' => E cls d H') := takes_of rfl rfl rfl rfl
  exact DSs.cons (DS.set 0 c.nd (DL.pure (DL.list (DA.cons (DE.str [97]) (DA.cons (DE.str [122]) (DA.cons (DE.str [97, 98, 99, 100, 101, 102]) (DA.cons (DE.str [97, 98, 99, 100, 101, 102, 103]) (DA.cons (DE.str [97, 98, 99, 100, 101, 102, 39]) (DA.cons (DE.str [97, 98, 99, 100, 101, 102, 103, 39]) (DA.cons (DE.str [120, 39, 39]) (DA.cons (DE.str [39, 120]) (DA.cons (DE.str [120, 39, 121]) (DA.cons (DE.str [39]) (DA.cons (DE.str []) (DA.cons (DE.str [88]) (DA.cons (DE.str [120, 49]) (DA.cons (DE.str [32, 120]) (DA.cons (DE.str [120, 32]) (DA.nil))))))))))))))))))) (DSs.cons (DS.set 0 c.nd (DE.bin VOp.add (DE.var 0) (DL.pure (DL.list (DA.cons (DE.str [120, 10]) (DA.cons (DE.str [97, 66]) (DA.cons (DE.str [120, 95, 121]) (DA.cons (DE.str [120, 45, 121]) (DA.cons (DE.str [120, 44, 121]) (DA.cons (DE.str [120, 39, 32]) (DA.cons (DE.nonE) (DA.cons (DE.bool) (DA.cons (DE.int) (DA.cons (DE.tup (DA.nil)) (DA.cons (DL.pure (DL.list (DA.nil))) (DA.cons (DE.dct0) (DA.cons (DL.pure (DL.list (DA.cons (DE.str [97]) (DA.nil)))) (DA.cons (DE.tup (DA.cons (DE.str [97]) (DA.nil))) (DA.cons (DE.tup (DA.cons (DE.str [120]) (DA.cons (DE.str [60]) (DA.nil)))) (DA.nil)))))))))))))))))))) (DSs.cons (DS.set 0 c.nd (DE.bin VOp.add (DE.var 0) (DL.pure (DL.list (DA.cons (DE.tup (DA.cons (DE.str [120]) (DA.cons (DE.str [60]) (DA.cons (DE.str [121]) (DA.nil))))) (DA.cons (DE.tup (DA.cons (DE.str [120]) (DA.cons (DE.str [60]) (DA.cons (DE.str [120]) (DA.nil))))) (DA.cons (DE.tup (DA.cons (DE.str [120, 39]) (DA.cons (DE.str [60, 61]) (DA.cons (DE.str [97, 98, 99, 100, 101, 102, 39]) (DA.nil))))) (DA.cons (DE.tup (DA.cons (DE.str [120]) (DA.cons (DE.str [61]) (DA.cons (DE.str [121, 39]) (DA.nil))))) (DA.cons (DL.pure (DL.list (DA.cons (DE.str [120]) (DA.cons (DE.str [60]) (DA.cons (DE.str [121]) (DA.nil)))))) (DA.nil)))))))))) (DSs.cons (DS.set 0 c.nd (DE.bin VOp.add (DE.var 0) (DL.pure (DL.list (DA.cons (DE.tup (DA.cons (DE.str [120]) (DA.cons (DE.str [60]) (DA.cons (DE.str [121]) (DA.cons (DE.str [60]) (DA.nil)))))) (DA.cons (DE.tup (DA.cons (DE.str [120]) (DA.cons (DE.str [62]) (DA.cons (DE.str [121]) (DA.nil))))) (DA.cons (DE.tup (DA.cons (DE.str [120]) (DA.cons (DE.str [61, 61]) (DA.cons (DE.str [121]) (DA.nil))))) (DA.cons (DE.tup (DA.cons (DE.str [120]) (DA.cons (DE.str []) (DA.cons (DE.str [121]) (DA.nil))))) (DA.cons (DE.tup (DA.cons (DE.str [120]) (DA.cons (DE.str [60]) (DA.cons (DE.str []) (DA.nil))))) (DA.nil)))))))))) (DSs.cons (DS.set 0 c.nd (DE.bin VOp.add (DE.var 0) (DL.pure (DL.list (DA.cons (DE.tup (DA.cons (DE.str [120]) (DA.cons (DE.str [60]) (DA.cons (DE.int) (DA.nil))))) (DA.cons (DE.tup (DA.cons (DL.pure (DL.list (DA.nil))) (DA.nil))) (DA.cons (DE.str [120, 32, 60, 32, 121]) (DA.nil)))))))) (DSs.cons (DS.set 0 c.nd (DE.bin VOp.add (DE.var 0) (DL.pure (DL.list (DA.cons (DE.tup (DA.cons (DE.str [120]) (DA.cons (DL.pure (DL.list (DA.cons (DE.str [60]) (DA.nil)))) (DA.cons (DE.str [121]) (DA.nil))))) (DA.cons (DE.tup (DA.cons (DL.pure (DL.list (DA.cons (DE.str [120]) (DA.nil)))) (DA.cons (DE.str [60]) (DA.cons (DE.str [121]) (DA.nil))))) (DA.cons (DE.tup (DA.cons (DE.tup (DA.cons (DE.str [120]) (DA.nil))) (DA.cons (DE.str [60]) (DA.cons (DE.tup (DA.cons (DE.str [121]) (DA.nil))) (DA.nil))))) (DA.cons (DE.tup (DA.cons (DE.str [120]) (DA.cons (DE.nonE) (DA.cons (DE.str [121]) (DA.nil))))) (DA.cons (DE.tup (DA.cons (DE.nonE) (DA.cons (DE.str [60]) (DA.cons (DE.str [121]) (DA.nil))))) (DA.nil)))))))))) (DSs.cons (DS.set 0 c.nd (DE.bin VOp.add (DE.var 0) (DL.pure (DL.list (DA.cons (DE.tup (DA.cons (DE.str [120]) (DA.cons (DE.str [60]) (DA.cons (DE.str [97, 98, 99, 100, 101, 102, 103]) (DA.nil))))) (DA.cons (DE.tup (DA.cons (DE.str [120]) (DA.cons (DE.str [60]) (DA.cons (DE.str [121, 39, 39]) (DA.nil))))) (DA.cons (DE.tup (DA.cons (DE.tup (DA.cons (DE.str [120]) (DA.cons (DE.str [60]) (DA.cons (DE.str [121]) (DA.nil))))) (DA.nil))) (DA.cons (DE.tup (DA.cons (DE.str [120]) (DA.cons (DE.tup (DA.cons (DE.str [60]) (DA.nil))) (DA.cons (DE.str [121]) (DA.nil))))) (DA.cons (DE.dct1 (DE.str [120]) (DE.str [60])) (DA.nil)))))))))) (DSs.one (DS.ret (DE.fnB (VCall.all c.cm) rfl g_all b_all (DA.cons (DL.pure (DL.lc [("_law_it", 1)] [1] c.cm c.nd (DI.seq (DE.var 0)) (blkOk_by (by kernel_rfl)) (fun _ _ _ _ _ => DGw.name 1 c.b.nd) (fun _ _ _ _ _ => DTs.nil) (fun _ _ _ _ _ => DE.call F__law_right c.b.rm c.b.gd takesN (DA.cons (DE.var 1) (DA.nil))))) (DA.nil)))))))))))
theorem sc_law : FnScope ["_law_script", "_law_k", "_law_purse_here", "_law_turn", "_law_it"] ["_law_script"] (defScope (top 18)) := ⟨rfl, rfl, rfl, by decide +kernel, rfl, by decide +kernel, by decide +kernel⟩
theorem fg_law {f : Addr} {fd : FuncData} (F : FnP K "law" (top 18) f fd) (g_len : mg "len" = none) (g_max : mg "max" = none) (g_min : mg "min" = none) (g_range : mg "range" = none) (F__law_right : Fn P w K mg base 4 "_law_right" m__law_right) (F__law_value : Fn P w K mg base 3 "_law_value" m__law_value) (F__law_triple : Fn P w K mg base 4 "_law_triple" m__law_triple) (F__law_word : Fn P w K mg base 2 "_law_word" m__law_word) (F__law_draw : Fn P w K mg base 1 "_law_draw" m__law_draw) (F__law_purse : Fn P w K mg base 1 "_law_purse" m__law_purse) (F__law_cell : Fn P w K mg base 1 "_law_cell" m__law_cell) (F__law_by_hand : Fn P w K mg base 5 "_law_by_hand" m__law_by_hand) : FG P w K mg base 6 f fd ["_law_script"] m_law := by
  replace F__law_right := F__law_right.mono (k := 5) (by decide)
  replace F__law_value := F__law_value.mono (k := 5) (by decide)
  replace F__law_triple := F__law_triple.mono (k := 5) (by decide)
  replace F__law_word := F__law_word.mono (k := 5) (by decide)
  replace F__law_draw := F__law_draw.mono (k := 5) (by decide)
  replace F__law_purse := F__law_purse.mono (k := 5) (by decide)
  replace F__law_cell := F__law_cell.mono (k := 5) (by decide)
  replace F__law_by_hand := F__law_by_hand.mono (k := 5) (by decide)
  refine FG.of true F sc_law fun cdv A outer s H E hr hg => ?_
  have c : Cn 5 (cxOf (L2.CX P w) P w K mg base ["_law_script", "_law_k", "_law_purse_here", "_law_turn", "_law_it"] "law" (defScope (top 18)) f cdv A outer s H E) := ⟨rfl, sc_law.nd, hr, hg⟩
  have tk : Takes (cxOf (L2.CX P w) P w K mg base ["_law_script", "_law_k", "_law_purse_here", "_law_turn", "_law_it"] "law" (defScope (top 18)) f cdv A outer s H E) (fun cls d _ H' => E cls d H') := takes_of rfl rfl rfl rfl
  exact DSs.cons (DS.ite (DT.not (DT.val (DE.call0 F__law_by_hand c.rm c.gd tk))) (DSs.one (DS.ret (DE.bool))) (DSs.nil)) (DSs.cons (DS.for_ (passes_of rfl) c.cm (DI.rng1 rfl g_range (DA.cons (DE.fnB (VCall.max c.cm) rfl g_max b_max (DA.cons (DE.int) (DA.cons (DE.fnB (VCall.min c.cm) rfl g_min b_min (DA.cons (DE.fnB VCall.len rfl g_len b_len (DA.cons (DE.var 0) (DA.nil))) (DA.cons (DE.int) (DA.nil)))) (DA.nil)))) (DA.nil))) (DG.name 1 c.nd) (DSs.cons (DS.set 2 c.nd (DE.call F__law_purse c.rm c.gd tk (DA.cons (DE.call F__law_cell c.rm c.gd tk (DA.cons (DE.var 0) (DA.cons (DE.var 1) (DA.nil)))) (DA.nil)))) (DSs.one (DS.for_ (passes_of rfl) c.cm (DI.rng1 rfl g_range (DA.cons (DE.int) (DA.nil))) (DG.name 3 c.nd) (DSs.cons (DS.set 4 c.nd (DE.ix (DL.pure (DL.list (DA.cons (DE.call F__law_word c.rm c.gd tk (DA.cons (DE.var 2) (DA.nil))) (DA.cons (DE.call F__law_triple c.rm c.gd tk (DA.cons (DE.var 2) (DA.nil))) (DA.cons (DE.call F__law_value c.rm c.gd tk (DA.cons (DE.var 2) (DA.nil))) (DA.nil)))))) (DE.call F__law_draw c.rm c.gd tk (DA.cons (DE.var 2) (DA.cons (DE.int) (DA.nil)))))) (DSs.one (DS.ite (DT.not (DT.val (DE.call F__law_right c.rm c.gd tk (DA.cons (DE.var 4) (DA.nil))))) (DSs.one (DS.ret (DE.bool))) (DSs.nil)))))))) (DSs.one (DS.ret (DE.bool))))
end
/-! ### the head -/
def d_is_name : He.DefD := ⟨("is_name", none), "is_name", "is_name", defArgs (top 3), defBody (top 3), defScope (top 3), [], []⟩
def d_is_variable : He.DefD := ⟨("is_variable", none), "is_variable", "is_variable", defArgs (top 4), defBody (top 4), defScope (top 4), [], []⟩
def d_is_claim : He.DefD := ⟨("is_claim", none), "is_claim", "is_claim", defArgs (top 5), defBody (top 5), defScope (top 5), [], []⟩
def d__law_cell : He.DefD := ⟨("_law_cell", none), "_law_cell", "_law_cell", defArgs (top 7), defBody (top 7), defScope (top 7), [], []⟩
def d__law_purse : He.DefD := ⟨("_law_purse", none), "_law_purse", "_law_purse", defArgs (top 8), defBody (top 8), defScope (top 8), [], []⟩
def d__law_draw : He.DefD := ⟨("_law_draw", none), "_law_draw", "_law_draw", defArgs (top 9), defBody (top 9), defScope (top 9), [], []⟩
def d__law_word : He.DefD := ⟨("_law_word", none), "_law_word", "_law_word", defArgs (top 10), defBody (top 10), defScope (top 10), [], []⟩
def d__law_is_name : He.DefD := ⟨("_law_is_name", none), "_law_is_name", "_law_is_name", defArgs (top 11), defBody (top 11), defScope (top 11), [], []⟩
def d__law_is_variable : He.DefD := ⟨("_law_is_variable", none), "_law_is_variable", "_law_is_variable", defArgs (top 12), defBody (top 12), defScope (top 12), [], []⟩
def d__law_is_claim : He.DefD := ⟨("_law_is_claim", none), "_law_is_claim", "_law_is_claim", defArgs (top 13), defBody (top 13), defScope (top 13), [], []⟩
def d__law_value : He.DefD := ⟨("_law_value", none), "_law_value", "_law_value", defArgs (top 14), defBody (top 14), defScope (top 14), [], []⟩
def d__law_triple : He.DefD := ⟨("_law_triple", none), "_law_triple", "_law_triple", defArgs (top 15), defBody (top 15), defScope (top 15), [], []⟩
def d__law_right : He.DefD := ⟨("_law_right", none), "_law_right", "_law_right", defArgs (top 16), defBody (top 16), defScope (top 16), [], []⟩
def d__law_by_hand : He.DefD := ⟨("_law_by_hand", none), "_law_by_hand", "_law_by_hand", defArgs (top 17), defBody (top 17), defScope (top 17), [], []⟩
def d_law : He.DefD := ⟨("law", none), "law", "law", defArgs (top 18), defBody (top 18), defScope (top 18), [], []⟩
def fn : List He.DefD := [d_is_name, d_is_variable, d_is_claim, d__law_cell, d__law_purse, d__law_draw, d__law_word, d__law_is_name, d__law_is_variable, d__law_is_claim, d__law_value, d__law_triple, d__law_right, d__law_by_hand, d_law]
def fa : List He.Fa := [.glo "is_name", .glo "is_variable", .glo "is_claim", .glo "_law_cell", .glo "_law_purse", .glo "_law_draw", .glo "_law_word", .glo "_law_is_name", .glo "_law_is_variable", .glo "_law_is_claim", .glo "_law_value", .glo "_law_triple", .glo "_law_right", .glo "_law_by_hand", .glo "law"]
def free : List Str := ["abs", "all", "divmod", "isinstance", "len", "max", "min", "range", "repr", "str", "tuple"]
def vals : List (Str × AV) := [("LETTERS", v_LETTERS), ("OPERATORS", v_OPERATORS)]
abbrev R : PySem.W.OpenRow := PySem.W.OpenLaw.row PySem.Challenge.rw_capruns_k01_names_variables_claims
abbrev hk : PySem.W.Hook := He.hookX 4 fa fn [] [] (gAll free vals)
def ob (s : PySem.W.SharedT) : He.AlX := He.obsX 4 fa fn [] [] (gAll free vals) (HandSHeadRun.getT s)
theorem ob_eq (s : PySem.W.SharedT) : ob s = hk.obs s.abs := He.obsX_eq (HandSHeadRun.getT_eq s)
theorem run (w : World) : HandSHeadRun.RunEq R (PySem.W.view R.prog [18]) hk ob 1000 ["LETTERS", "OPERATORS", "is_name", "is_variable", "is_claim", "_law_cell", "_law_purse", "_law_draw", "_law_word", "_law_is_name", "_law_is_variable", "_law_is_claim", "_law_value", "_law_triple", "_law_right", "_law_by_hand"] w := by
  intro os
  kernel_rfl
theorem facts {P : Program} {w : World} {K : PySem.W.Frag} {h : Heap} {mg : Str → Option Value} {f : Addr} (X : K.In h) (G : h.Ns mainGlobals mg) (hfa : mg ("law" : Str) = some (.ref f)) (c : He.SaysX fa fn [] [] (gAll free vals) w h K) :
    ∃ fd : FuncData, (∀ (s : Shared) (u : Value), BindsTo s fd ⟨[u], []⟩ [("_law_script", u)]) ∧ ∀ base : Heap, K.In base → base.Ns mainGlobals mg → FG P w K mg base 6 f fd ["_law_script"] m_law := by
  have cd : He.SaysD fa fn K := c.t.d
  obtain ⟨fd_is_name, D_is_name⟩ := cd.def_ 0 (d := d_is_name) rfl
  replace D_is_name : FnP K "is_name" (top 3) (He.ga K "is_name") fd_is_name := D_is_name
  have o_is_name := He.glo_ok X G (cd.fact 0 (f := .glo "is_name") rfl)
  obtain ⟨fd_is_variable, D_is_variable⟩ := cd.def_ 1 (d := d_is_variable) rfl
  replace D_is_variable : FnP K "is_variable" (top 4) (He.ga K "is_variable") fd_is_variable := D_is_variable
  have o_is_variable := He.glo_ok X G (cd.fact 1 (f := .glo "is_variable") rfl)
  obtain ⟨fd_is_claim, D_is_claim⟩ := cd.def_ 2 (d := d_is_claim) rfl
  replace D_is_claim : FnP K "is_claim" (top 5) (He.ga K "is_claim") fd_is_claim := D_is_claim
  have o_is_claim := He.glo_ok X G (cd.fact 2 (f := .glo "is_claim") rfl)
  obtain ⟨fd__law_cell, D__law_cell⟩ := cd.def_ 3 (d := d__law_cell) rfl
  replace D__law_cell : FnP K "_law_cell" (top 7) (He.ga K "_law_cell") fd__law_cell := D__law_cell
  have o__law_cell := He.glo_ok X G (cd.fact 3 (f := .glo "_law_cell") rfl)
  obtain ⟨fd__law_purse, D__law_purse⟩ := cd.def_ 4 (d := d__law_purse) rfl
  replace D__law_purse : FnP K "_law_purse" (top 8) (He.ga K "_law_purse") fd__law_purse := D__law_purse
  have o__law_purse := He.glo_ok X G (cd.fact 4 (f := .glo "_law_purse") rfl)
  obtain ⟨fd__law_draw, D__law_draw⟩ := cd.def_ 5 (d := d__law_draw) rfl
  replace D__law_draw : FnP K "_law_draw" (top 9) (He.ga K "_law_draw") fd__law_draw := D__law_draw
  have o__law_draw := He.glo_ok X G (cd.fact 5 (f := .glo "_law_draw") rfl)
  obtain ⟨fd__law_word, D__law_word⟩ := cd.def_ 6 (d := d__law_word) rfl
  replace D__law_word : FnP K "_law_word" (top 10) (He.ga K "_law_word") fd__law_word := D__law_word
  have o__law_word := He.glo_ok X G (cd.fact 6 (f := .glo "_law_word") rfl)
  obtain ⟨fd__law_is_name, D__law_is_name⟩ := cd.def_ 7 (d := d__law_is_name) rfl
  replace D__law_is_name : FnP K "_law_is_name" (top 11) (He.ga K "_law_is_name") fd__law_is_name := D__law_is_name
  have o__law_is_name := He.glo_ok X G (cd.fact 7 (f := .glo "_law_is_name") rfl)
  obtain ⟨fd__law_is_variable, D__law_is_variable⟩ := cd.def_ 8 (d := d__law_is_variable) rfl
  replace D__law_is_variable : FnP K "_law_is_variable" (top 12) (He.ga K "_law_is_variable") fd__law_is_variable := D__law_is_variable
  have o__law_is_variable := He.glo_ok X G (cd.fact 8 (f := .glo "_law_is_variable") rfl)
  obtain ⟨fd__law_is_claim, D__law_is_claim⟩ := cd.def_ 9 (d := d__law_is_claim) rfl
  replace D__law_is_claim : FnP K "_law_is_claim" (top 13) (He.ga K "_law_is_claim") fd__law_is_claim := D__law_is_claim
  have o__law_is_claim := He.glo_ok X G (cd.fact 9 (f := .glo "_law_is_claim") rfl)
  obtain ⟨fd__law_value, D__law_value⟩ := cd.def_ 10 (d := d__law_value) rfl
  replace D__law_value : FnP K "_law_value" (top 14) (He.ga K "_law_value") fd__law_value := D__law_value
  have o__law_value := He.glo_ok X G (cd.fact 10 (f := .glo "_law_value") rfl)
  obtain ⟨fd__law_triple, D__law_triple⟩ := cd.def_ 11 (d := d__law_triple) rfl
  replace D__law_triple : FnP K "_law_triple" (top 15) (He.ga K "_law_triple") fd__law_triple := D__law_triple
  have o__law_triple := He.glo_ok X G (cd.fact 11 (f := .glo "_law_triple") rfl)
  obtain ⟨fd__law_right, D__law_right⟩ := cd.def_ 12 (d := d__law_right) rfl
  replace D__law_right : FnP K "_law_right" (top 16) (He.ga K "_law_right") fd__law_right := D__law_right
  have o__law_right := He.glo_ok X G (cd.fact 12 (f := .glo "_law_right") rfl)
  obtain ⟨fd__law_by_hand, D__law_by_hand⟩ := cd.def_ 13 (d := d__law_by_hand) rfl
  replace D__law_by_hand : FnP K "_law_by_hand" (top 17) (He.ga K "_law_by_hand") fd__law_by_hand := D__law_by_hand
  have o__law_by_hand := He.glo_ok X G (cd.fact 13 (f := .glo "_law_by_hand") rfl)
  obtain ⟨fd_law, D_law⟩ := cd.def_ 14 (d := d_law) rfl
  replace D_law : FnP K "law" (top 18) (He.ga K "law") fd_law := D_law
  have o_law := He.glo_ok X G (cd.fact 14 (f := .glo "law") rfl)
  have g_abs : mg "abs" = none := gAll_free X G c.more 0
  have g_all : mg "all" = none := gAll_free X G c.more 1
  have g_divmod : mg "divmod" = none := gAll_free X G c.more 2
  have g_isinstance : mg "isinstance" = none := gAll_free X G c.more 3
  have g_len : mg "len" = none := gAll_free X G c.more 4
  have g_max : mg "max" = none := gAll_free X G c.more 5
  have g_min : mg "min" = none := gAll_free X G c.more 6
  have g_range : mg "range" = none := gAll_free X G c.more 7
  have g_repr : mg "repr" = none := gAll_free X G c.more 8
  have g_str : mg "str" = none := gAll_free X G c.more 9
  have g_tuple : mg "tuple" = none := gAll_free X G c.more 10
  have V_LETTERS : GV K mg "LETTERS" v_LETTERS := gAll_val X G c.more 0
  have V_OPERATORS : GV K mg "OPERATORS" v_OPERATORS := gAll_val X G c.more 1
  have e := hfa.symm.trans o_law
  cases e
  refine ⟨fd_law, fun s u => FunD.bindsA (ps := ["_law_script"]) D_law (fun _ _ _ _ _ _ us hl => match us, hl with | [_], _ => rfl) s [u] rfl, fun base _ _ => ?_⟩
  have G_is_name := fg_is_name (P := P) (w := w) (base := base) (mg := mg) D_is_name g_all g_isinstance g_len g_str V_LETTERS
  have F_is_name : Fn P w K mg base 1 "is_name" m_is_name := Fn.of (ps := ["thing"]) D_is_name o_is_name (fun l h hl => aDef_len l h hl) (fun _ _ _ _ _ _ us hl => match us, hl with | [_], _ => rfl) G_is_name
  have FK_is_name_0_thing : FnK P w K mg base 1 "is_name" 0 ["thing"] (fun a b => a ++ b) m_is_name := FnK.of (ps := ["thing"]) D_is_name o_is_name (fun l h hl => aDef_len l h hl) (fun _ _ _ _ _ _ us ws h1 h2 => match us, ws, h1, h2 with | [], [_], _, _ => rfl) G_is_name
  have G_is_variable := fg_is_variable (P := P) (w := w) (base := base) (mg := mg) D_is_variable g_isinstance g_str F_is_name
  have F_is_variable : Fn P w K mg base 2 "is_variable" m_is_variable := Fn.of (ps := ["thing"]) D_is_variable o_is_variable (fun l h hl => aDef_len l h hl) (fun _ _ _ _ _ _ us hl => match us, hl with | [_], _ => rfl) G_is_variable
  have FK_is_variable_0_thing : FnK P w K mg base 2 "is_variable" 0 ["thing"] (fun a b => a ++ b) m_is_variable := FnK.of (ps := ["thing"]) D_is_variable o_is_variable (fun l h hl => aDef_len l h hl) (fun _ _ _ _ _ _ us ws h1 h2 => match us, ws, h1, h2 with | [], [_], _, _ => rfl) G_is_variable
  have G_is_claim := fg_is_claim (P := P) (w := w) (base := base) (mg := mg) D_is_claim g_isinstance g_len g_str g_tuple V_OPERATORS F_is_variable
  have F_is_claim : Fn P w K mg base 3 "is_claim" m_is_claim := Fn.of (ps := ["thing"]) D_is_claim o_is_claim (fun l h hl => aDef_len l h hl) (fun _ _ _ _ _ _ us hl => match us, hl with | [_], _ => rfl) G_is_claim
  have FK_is_claim_0_thing : FnK P w K mg base 3 "is_claim" 0 ["thing"] (fun a b => a ++ b) m_is_claim := FnK.of (ps := ["thing"]) D_is_claim o_is_claim (fun l h hl => aDef_len l h hl) (fun _ _ _ _ _ _ us ws h1 h2 => match us, ws, h1, h2 with | [], [_], _, _ => rfl) G_is_claim
  have G__law_cell := fg__law_cell (P := P) (w := w) (base := base) (mg := mg) D__law_cell g_len
  have F__law_cell : Fn P w K mg base 1 "_law_cell" m__law_cell := Fn.of (ps := ["_law_script", "_law_k"]) D__law_cell o__law_cell (fun l h hl => aDef_len l h hl) (fun _ _ _ _ _ _ us hl => match us, hl with | [_, _], _ => rfl) G__law_cell
  have G__law_purse := fg__law_purse (P := P) (w := w) (base := base) (mg := mg) D__law_purse g_abs
  have F__law_purse : Fn P w K mg base 1 "_law_purse" m__law_purse := Fn.of (ps := ["_law_cell_here"]) D__law_purse o__law_purse (fun l h hl => aDef_len l h hl) (fun _ _ _ _ _ _ us hl => match us, hl with | [_], _ => rfl) G__law_purse
  have G__law_draw := fg__law_draw (P := P) (w := w) (base := base) (mg := mg) D__law_draw g_divmod
  have F__law_draw : Fn P w K mg base 1 "_law_draw" m__law_draw := Fn.of (ps := ["_law_purse_here", "_law_size"]) D__law_draw o__law_draw (fun l h hl => aDef_len l h hl) (fun _ _ _ _ _ _ us hl => match us, hl with | [_, _], _ => rfl) G__law_draw
  have G__law_word := fg__law_word (P := P) (w := w) (base := base) (mg := mg) D__law_word g_len g_range F__law_draw
  have F__law_word : Fn P w K mg base 2 "_law_word" m__law_word := Fn.of (ps := ["_law_purse_here"]) D__law_word o__law_word (fun l h hl => aDef_len l h hl) (fun _ _ _ _ _ _ us hl => match us, hl with | [_], _ => rfl) G__law_word
  have G__law_is_name := fg__law_is_name (P := P) (w := w) (base := base) (mg := mg) D__law_is_name g_all g_isinstance g_len g_str
  have F__law_is_name : Fn P w K mg base 1 "_law_is_name" m__law_is_name := Fn.of (ps := ["_law_word_here"]) D__law_is_name o__law_is_name (fun l h hl => aDef_len l h hl) (fun _ _ _ _ _ _ us hl => match us, hl with | [_], _ => rfl) G__law_is_name
  have G__law_is_variable := fg__law_is_variable (P := P) (w := w) (base := base) (mg := mg) D__law_is_variable g_isinstance g_str F__law_is_name
  have F__law_is_variable : Fn P w K mg base 2 "_law_is_variable" m__law_is_variable := Fn.of (ps := ["_law_word_here"]) D__law_is_variable o__law_is_variable (fun l h hl => aDef_len l h hl) (fun _ _ _ _ _ _ us hl => match us, hl with | [_], _ => rfl) G__law_is_variable
  have G__law_is_claim := fg__law_is_claim (P := P) (w := w) (base := base) (mg := mg) D__law_is_claim g_isinstance g_len g_str g_tuple F__law_is_variable
  have F__law_is_claim : Fn P w K mg base 3 "_law_is_claim" m__law_is_claim := Fn.of (ps := ["_law_row"]) D__law_is_claim o__law_is_claim (fun l h hl => aDef_len l h hl) (fun _ _ _ _ _ _ us hl => match us, hl with | [_], _ => rfl) G__law_is_claim
  have G__law_value := fg__law_value (P := P) (w := w) (base := base) (mg := mg) D__law_value g_len F__law_word F__law_draw
  have F__law_value : Fn P w K mg base 3 "_law_value" m__law_value := Fn.of (ps := ["_law_purse_here"]) D__law_value o__law_value (fun l h hl => aDef_len l h hl) (fun _ _ _ _ _ _ us hl => match us, hl with | [_], _ => rfl) G__law_value
  have G__law_triple := fg__law_triple (P := P) (w := w) (base := base) (mg := mg) D__law_triple g_len g_tuple F__law_value F__law_draw F__law_word
  have F__law_triple : Fn P w K mg base 4 "_law_triple" m__law_triple := Fn.of (ps := ["_law_purse_here"]) D__law_triple o__law_triple (fun l h hl => aDef_len l h hl) (fun _ _ _ _ _ _ us hl => match us, hl with | [_], _ => rfl) G__law_triple
  have G__law_right := fg__law_right (P := P) (w := w) (base := base) (mg := mg) D__law_right g_range g_repr F_is_claim F_is_variable F_is_name F__law_is_claim F__law_is_variable F__law_is_name FK_is_claim_0_thing FK_is_variable_0_thing FK_is_name_0_thing
  have F__law_right : Fn P w K mg base 4 "_law_right" m__law_right := Fn.of (ps := ["_law_it"]) D__law_right o__law_right (fun l h hl => aDef_len l h hl) (fun _ _ _ _ _ _ us hl => match us, hl with | [_], _ => rfl) G__law_right
  have G__law_by_hand := fg__law_by_hand (P := P) (w := w) (base := base) (mg := mg) D__law_by_hand g_all F__law_right
  have F__law_by_hand : Fn P w K mg base 5 "_law_by_hand" m__law_by_hand := Fn.of (ps := []) D__law_by_hand o__law_by_hand (fun l h hl => aDef_len l h hl) (fun _ _ _ _ _ _ us hl => match us, hl with | [], _ => rfl) G__law_by_hand
  exact fg_law D_law g_len g_max g_min g_range F__law_right F__law_value F__law_triple F__law_word F__law_draw F__law_purse F__law_cell F__law_by_hand
end AIL
namespace AIL
open PySem PySem.Spec PyProof.Rows L2 AI

/-- the heap holds b purses, then e -/
def HI (e : AHeap) (b : Nat) (h : AHeap) : Prop := ∃ hp, h = hp ++ e ∧ hp.length = b ∧ ∀ o ∈ hp, ∃ a d t : Int, o = AO.list [.int a, .int d, .int t] ∧ 0 ≤ d
section
variable {e : AHeap} {b : Nat}
theorem HI.at {h : AHeap} {n : Nat} (hh : HI e b h) (hn : n < b) : ∃ a d t : Int, h[n]? = some (AO.list [.int a, .int d, .int t]) ∧ 0 ≤ d := by
  obtain ⟨hp, rfl, rfl, q⟩ := hh
  obtain ⟨a, d, t, e, hd⟩ := q hp[n] (List.getElem_mem hn)
  exact ⟨a, d, t, by rw [List.getElem?_append_left hn, List.getElem?_eq_getElem hn, e], hd⟩
theorem HI.set {h : AHeap} {n : Nat} {a d t : Int} (hh : HI e b h) (hn : n < b) (hd : 0 ≤ d) : HI e b (h.set n (AO.list [.int a, .int d, .int t])) := by
  obtain ⟨hp, rfl, rfl, q⟩ := hh
  refine ⟨hp.set n (AO.list [.int a, .int d, .int t]), ?_, by simp, fun o ho => ?_⟩
  · rw [List.set_append_left _ _ hn]
  · rcases List.mem_or_eq_of_mem_set ho with z | z
    · exact q o z
    · exact ⟨a, d, t, z, hd⟩
theorem HI.len {h : AHeap} (hh : HI e b h) : h.length = b + e.length := by
  obtain ⟨hp, rfl, rfl, q⟩ := hh
  simp
theorem HI.push {h : AHeap} (hh : HI [] b h) (e : AHeap) : HI e b (h ++ e) := by
  obtain ⟨hp, rfl, h1, q⟩ := hh
  exact ⟨hp, by simp, h1, q⟩
theorem HI.last {h : AHeap} {x : AO} (hh : HI [x] b h) : h[b]? = some x := by
  obtain ⟨hp, rfl, rfl, q⟩ := hh
  simp
theorem HI.edit {h : AHeap} {x y : AO} (hh : HI [x] b h) : HI [y] b (h.set b y) := by
  obtain ⟨hp, rfl, rfl, q⟩ := hh
  exact ⟨hp, by simp, rfl, q⟩
theorem HI.pop {h : AHeap} (hh : HI e b h) : HI [] b (h.take b) := by
  obtain ⟨hp, rfl, h1, q⟩ := hh
  exact ⟨hp, by simp [← h1], h1, q⟩
end
section
variable {e : AHeap} {b : Nat}
theorem draw_spec {h : AHeap} {n : Nat} {s : Int} (hh : HI e b h) (hn : n < b) (h0 : 0 < s) (h1 : s < 1073741824) :
    Ens (m__law_draw [.ref n, .int s] h) fun v h' => (∃ r, v = .int r ∧ 0 ≤ r ∧ r < s) ∧ HI e b h' ∧ h'.length = h.length := by
  obtain ⟨a, d, t, e9, hd⟩ := hh.at hn
  have hn9 : n < h.length := by have := hh.len; omega
  refine en_def rfl ?_
  have c1 : ∀ x : Int, cMul a (x % 45007 + 31019) = true := fun x => by
    have := Int.emod_nonneg x (show (45007 : Int) ≠ 0 by decide)
    have := Int.emod_lt_of_pos x (show (0 : Int) < 45007 by decide)
    unfold cMul
    simp only [Bool.or_eq_true, decide_eq_true_eq]
    right; omega
  have c2 : ∀ x : Int, cMul 90007 x = true := fun x => by unfold cMul; simp
  have c3 : ∀ x : Int, cMod x 2147483399 = true := fun _ => rfl
  have c4 : ∀ x : Int, cMod x 45007 = true := fun _ => rfl
  have c5 : ∀ x : Int, cMod x s = true := fun _ => by unfold cMod; simpa using h0
  have c6 : ∀ x : Int, cDiv x s = true := fun _ => by unfold cDiv; simp; omega
  have c7 : ∀ x : Int, cDiv x 64 = true := fun _ => rfl
  have e1 : ∀ x, (h.set n x)[n]? = some x := fun x => List.getElem?_set_self hn9
  have x0 : ∀ p q r : AV, atI [p, q, r] 0 = some p := fun _ _ _ => rfl
  have x1 : ∀ p q r : AV, atI [p, q, r] 1 = some q := fun _ _ _ => rfl
  have x2 : ∀ p q r : AV, atI [p, q, r] 2 = some r := fun _ _ _ => rfl
  have i0 : ixN 3 0 = some 0 := rfl
  have i1 : ixN 3 1 = some 1 := rfl
  have i2 : ixN 3 2 = some 2 := rfl
  simp only [en_bind, en_ok, en_bad, en_lift, en_var, en_c, en_bin, en_un, en_test, en_chain, en_andT, en_orT, en_notT, en_and, en_or, en_not, en_if, en_nil, en_cons, en_tup, en_list, en_pureL, en_newL, en_fn, en_call, en_callK, en_methS, en_oN, en_oS, en_sl, en_rng1, en_iter, en_lc, es_seq, es_skip, es_ret, es_retN, es_if, es_asg, es_par2, es_for, eg_name, eg_nil, eg_cons, eg_tup, eg_sub, vAdd_ii, vAdd_ss, vAdd_ll, vSub_ii, vMul_ii, vDiv_ii, vMod_ii, vLt_ii, vLe_ii, vGt_ii, vGe_ii, vEq_ii, vEq_ss, vNe_ii, vNe_ss, vIx_t, vIx_l, vIx_s, vIx_r, vLen_s, vLen_t, vLen_l, vLen_r, List.getElem?_cons_zero, List.getElem?_cons_succ, List.set_cons_zero, List.set_cons_succ, Option.some.injEq, AV.int.injEq, AV.bl.injEq, AV.str.injEq, AV.ref.injEq, AV.tup.injEq, AV.lst.injEq, AO.list.injEq, List.cons.injEq, exists_eq_left', exists_eq_left, exists_and_left, List.map_cons, List.map_nil, List.replicate, List.cons_append, List.nil_append, and_true, true_and, if_true, Nat.sub_self, ite_true, List.length_cons, List.length_nil, Nat.zero_add, Nat.reduceAdd, Nat.reduceSub, List.length_set, e9, e1, x0, x1, x2, i0, i1, i2, c1, c2, c3, c4, c5, c6, c7, vDivmod, List.set_set]
  by_cases hp : 0 < d
  · rw [if_pos (by simpa using hp)]
    refine ⟨_, _, ⟨rfl, rfl⟩, _, _, rfl, rfl, Nat.le_refl _, ⟨_, rfl, Int.emod_nonneg _ (by omega), Int.emod_lt_of_pos _ h0⟩, hh.set hn (Int.ediv_nonneg hd (by omega))⟩
  · rw [if_neg (by simpa using hp)]
    exact ⟨Nat.le_refl _, ⟨Int.emod_nonneg _ (by omega), Int.emod_lt_of_pos _ h0⟩, hh.set hn hd⟩

/-! ### the functions that are asked, the law's own ones -/
abbrev ABC : List Nat := [97, 98, 99, 100, 101, 102, 103, 104, 105, 106, 107, 108, 109, 110, 111, 112, 113, 114, 115, 116, 117, 118, 119, 120, 121, 122]
def nmS (s : List Nat) : Bool := decide (1 ≤ s.length) && (decide (s.length ≤ 6) && s.all fun c => decide (c ∈ ABC))
def nm : AV → Bool
  | .str s => nmS s
  | _ => false
def tagged : AV → Bool
  | .ref _ => false
  | .ty _ => false
  | .gl _ => false
  | _ => true
def tg : AV → Tag
  | .non => .non | .bl _ => .bl | .int _ => .int | .str _ => .str | .tup _ => .tup | .lst _ => .lst | .dct _ _ => .dct | _ => .non
theorem tag_of {h : AHeap} {v : AV} (t : tagged v = true) : tagOf h v = some (tg v) := by
  cases v <;> first | rfl | cases t
/-- a value that is_variable may be asked about -/
def Atm (v : AV) : Prop := tagged v = true ∧ ∀ s, v = .str s → s.length ≤ 1000
theorem szK {n : Nat} (h : n ≤ 1000) : decide (n ≤ szM) = true := decide_eq_true (by unfold szM; omega)
theorem isi {h : AHeap} {v : AV} {t : Tag} (a : Atm v) (ht : t ≠ .non) : vIsi h [v, .ty t] = some (.bl (isT (tg v) t)) := vIsi_v ht (tag_of a.1)
def isAbc : AV → AV
  | .str [c] => .bl (decide (c ∈ ABC))
  | _ => .non
theorem bools_map (f : Nat → Bool) : ∀ s : List Nat, bools? (s.map fun c => AV.bl (f c)) = some (s.map f)
  | [] => rfl
  | c :: s => by
    rw [List.map_cons]
    show (bools? (s.map fun c => AV.bl (f c))).map (f c :: ·) = _
    rw [bools_map f s]; rfl
theorem all_abc {h : AHeap} (s : List Nat) : vAll h [.lst ((s.map fun c => AV.str [c]).map isAbc)] = some (.bl (s.all fun c => decide (c ∈ ABC))) := by
  have e : (s.map fun c => AV.str [c]).map isAbc = s.map fun c => AV.bl (decide (c ∈ ABC)) := by
    rw [List.map_map]; rfl
  rw [e]
  show (bools? (s.map fun c => AV.bl (decide (c ∈ ABC)))).map (fun bs => AV.bl (bs.all _root_.id)) = _
  rw [bools_map]
  simp [List.all_map]
theorem abc_comp {ρ : AEnv} {h : AHeap} {s : List Nat} {f : AE} (hl : s.length ≤ 1000) (hf : ∀ c ρ1, ρ1[1]? = some (some (.str [c])) → f ρ1 h = .ok (.bl (decide (c ∈ ABC))) h) (hr : ρ.length = 2) :
    lcL (agName 1) aYes f (s.map fun c => .str [c]) ρ h = .ok ((s.map fun c => AV.str [c]).map isAbc) h := by
  refine lcL_map isAbc fun v hv => ?_
  obtain ⟨c, _, rfl⟩ := List.mem_map.mp hv
  exact ⟨_, rfl, hf c _ (List.getElem?_set_self (by omega))⟩
theorem in_abc {h : AHeap} {c : Nat} : vIn h (.str [c]) (.str ABC) = some (.bl (decide (c ∈ ABC))) := rfl
theorem szOk_map {α β : Type} {s : List α} {f : α → β} (hl : s.length ≤ 1000) : szOk (s.map f) = true := by
  unfold szOk
  rw [List.length_map]
  exact decide_eq_true (le_line (by unfold szM; omega))
theorem name1 {h : AHeap} {v : AV} (a : Atm v) : m_is_name [v] h = .ok (.bl (nm v)) h := by
  refine Ens.eq (en_def rfl ?_)
  have no : tg v ≠ .str → nm v = false := fun z => by cases v <;> first | rfl | exact absurd rfl z
  simp only [en_bind, en_ok, en_bad, en_lift, en_var, en_c, en_bin, en_un, en_test, en_chain, en_andT, en_orT, en_notT, en_and, en_or, en_not, en_if, en_nil, en_cons, en_tup, en_list, en_pureL, en_newL, en_fn, en_call, en_callK, en_methS, en_oN, en_oS, en_sl, en_rng1, en_iter, en_lc, es_seq, es_skip, es_ret, es_retN, es_if, es_asg, es_par2, es_for, eg_name, eg_nil, eg_cons, eg_tup, eg_sub, vAdd_ii, vAdd_ss, vAdd_ll, vSub_ii, vMul_ii, vDiv_ii, vMod_ii, vLt_ii, vLe_ii, vGt_ii, vGe_ii, vEq_ii, vEq_ss, vNe_ii, vNe_ss, vIx_t, vIx_l, vIx_s, vIx_r, vLen_s, vLen_t, vLen_l, vLen_r, List.getElem?_cons_zero, List.getElem?_cons_succ, List.set_cons_zero, List.set_cons_succ, Option.some.injEq, AV.int.injEq, AV.bl.injEq, AV.str.injEq, AV.ref.injEq, AV.tup.injEq, AV.lst.injEq, AO.list.injEq, List.cons.injEq, exists_eq_left', exists_eq_left, exists_and_left, List.map_cons, List.map_nil, List.replicate, List.cons_append, List.nil_append, and_true, true_and, if_true, Nat.sub_self, ite_true, List.length_cons, List.length_nil, Nat.zero_add, Nat.reduceAdd, Nat.reduceSub, List.length_set, isi a (t := .str) (by decide)]
  by_cases ht : tg v = .str
  · obtain ⟨s, rfl⟩ : ∃ s, v = .str s := by cases v <;> first | exact ⟨_, rfl⟩ | cases ht | cases a.1
    have hl := a.2 s rfl
    have b : isT (tg (.str s)) .str = true := rfl
    simp only [b, if_true, List.getElem?_cons_zero, List.getElem?_cons_succ, List.set_cons_zero, List.set_cons_succ, Option.some.injEq, AV.int.injEq, AV.bl.injEq, AV.str.injEq, AV.ref.injEq, AV.tup.injEq, AV.lst.injEq, AO.list.injEq, List.cons.injEq, exists_eq_left', exists_eq_left, exists_and_left, List.map_cons, List.map_nil, List.replicate, List.cons_append, List.nil_append, and_true, true_and, if_true, Nat.sub_self, ite_true, List.length_cons, List.length_nil, Nat.zero_add, Nat.reduceAdd, Nat.reduceSub, List.length_set, vAdd_ii, vAdd_ss, vAdd_ll, vSub_ii, vMul_ii, vDiv_ii, vMod_ii, vLt_ii, vLe_ii, vGt_ii, vGe_ii, vEq_ii, vEq_ss, vNe_ii, vNe_ss, vIx_t, vIx_l, vIx_s, vIx_r, vLen_s, vLen_t, vLen_l, vLen_r, szK hl, itemsOf, szOk_map hl]
    by_cases h1 : (1 : Int) ≤ s.length
    · simp only [decide_eq_true h1, if_true, List.getElem?_cons_zero, List.getElem?_cons_succ, List.set_cons_zero, List.set_cons_succ, Option.some.injEq, AV.int.injEq, AV.bl.injEq, AV.str.injEq, AV.ref.injEq, AV.tup.injEq, AV.lst.injEq, AO.list.injEq, List.cons.injEq, exists_eq_left', exists_eq_left, exists_and_left, List.map_cons, List.map_nil, List.replicate, List.cons_append, List.nil_append, and_true, true_and, if_true, Nat.sub_self, ite_true, List.length_cons, List.length_nil, Nat.zero_add, Nat.reduceAdd, Nat.reduceSub, List.length_set]
      by_cases h2 : (s.length : Int) ≤ 6
      · simp only [decide_eq_true h2, if_true, List.getElem?_cons_zero, List.getElem?_cons_succ, List.set_cons_zero, List.set_cons_succ, Option.some.injEq, AV.int.injEq, AV.bl.injEq, AV.str.injEq, AV.ref.injEq, AV.tup.injEq, AV.lst.injEq, AO.list.injEq, List.cons.injEq, exists_eq_left', exists_eq_left, exists_and_left, List.map_cons, List.map_nil, List.replicate, List.cons_append, List.nil_append, and_true, true_and, if_true, Nat.sub_self, ite_true, List.length_cons, List.length_nil, Nat.zero_add, Nat.reduceAdd, Nat.reduceSub, List.length_set]
        rw [abc_comp hl (fun c ρ1 e => by simp only [aBin, aVar, e, aC, Res.bind, v_LETTERS, in_abc, lift1]) rfl]
        rw [en_ok]
        simp only [all_abc, List.getElem?_cons_zero, List.getElem?_cons_succ, List.set_cons_zero, List.set_cons_succ, Option.some.injEq, AV.int.injEq, AV.bl.injEq, AV.str.injEq, AV.ref.injEq, AV.tup.injEq, AV.lst.injEq, AO.list.injEq, List.cons.injEq, exists_eq_left', exists_eq_left, exists_and_left, List.map_cons, List.map_nil, List.replicate, List.cons_append, List.nil_append, and_true, true_and, if_true, Nat.sub_self, ite_true, List.length_cons, List.length_nil, Nat.zero_add, Nat.reduceAdd, Nat.reduceSub, List.length_set]
        refine ⟨Nat.le_refl _, ?_⟩
        show (s.all fun c => decide (c ∈ ABC)) = nmS s
        unfold nmS
        rw [decide_eq_true (show 1 ≤ s.length by omega), decide_eq_true (show s.length ≤ 6 by omega)]
        rfl
      · simp only [decide_eq_false h2, Bool.false_eq_true, if_false, List.getElem?_cons_zero, List.getElem?_cons_succ, List.set_cons_zero, List.set_cons_succ, Option.some.injEq, AV.int.injEq, AV.bl.injEq, AV.str.injEq, AV.ref.injEq, AV.tup.injEq, AV.lst.injEq, AO.list.injEq, List.cons.injEq, exists_eq_left', exists_eq_left, exists_and_left, List.map_cons, List.map_nil, List.replicate, List.cons_append, List.nil_append, and_true, true_and, if_true, Nat.sub_self, ite_true, List.length_cons, List.length_nil, Nat.zero_add, Nat.reduceAdd, Nat.reduceSub, List.length_set]
        refine ⟨Nat.le_refl _, ?_⟩
        show false = nmS s
        unfold nmS
        rw [decide_eq_false (show ¬ s.length ≤ 6 by omega)]
        simp
    · simp only [decide_eq_false h1, Bool.false_eq_true, if_false, List.getElem?_cons_zero, List.getElem?_cons_succ, List.set_cons_zero, List.set_cons_succ, Option.some.injEq, AV.int.injEq, AV.bl.injEq, AV.str.injEq, AV.ref.injEq, AV.tup.injEq, AV.lst.injEq, AO.list.injEq, List.cons.injEq, exists_eq_left', exists_eq_left, exists_and_left, List.map_cons, List.map_nil, List.replicate, List.cons_append, List.nil_append, and_true, true_and, if_true, Nat.sub_self, ite_true, List.length_cons, List.length_nil, Nat.zero_add, Nat.reduceAdd, Nat.reduceSub, List.length_set]
      refine ⟨Nat.le_refl _, ?_⟩
      show false = nmS s
      unfold nmS
      rw [decide_eq_false (show ¬ 1 ≤ s.length by omega)]
      rfl
  · have b : isT (tg v) .str = false := by
      unfold isT
      rw [decide_eq_false ht]; simp
    simp only [b, Bool.false_eq_true, if_false, no ht]
    simp
theorem name2 {h : AHeap} {v : AV} (a : Atm v) : m__law_is_name [v] h = .ok (.bl (nm v)) h := by
  refine Ens.eq (en_def rfl ?_)
  have no : tg v ≠ .str → nm v = false := fun z => by cases v <;> first | rfl | exact absurd rfl z
  simp only [en_bind, en_ok, en_bad, en_lift, en_var, en_c, en_bin, en_un, en_test, en_chain, en_andT, en_orT, en_notT, en_and, en_or, en_not, en_if, en_nil, en_cons, en_tup, en_list, en_pureL, en_newL, en_fn, en_call, en_callK, en_methS, en_oN, en_oS, en_sl, en_rng1, en_iter, en_lc, es_seq, es_skip, es_ret, es_retN, es_if, es_asg, es_par2, es_for, eg_name, eg_nil, eg_cons, eg_tup, eg_sub, vAdd_ii, vAdd_ss, vAdd_ll, vSub_ii, vMul_ii, vDiv_ii, vMod_ii, vLt_ii, vLe_ii, vGt_ii, vGe_ii, vEq_ii, vEq_ss, vNe_ii, vNe_ss, vIx_t, vIx_l, vIx_s, vIx_r, vLen_s, vLen_t, vLen_l, vLen_r, List.getElem?_cons_zero, List.getElem?_cons_succ, List.set_cons_zero, List.set_cons_succ, Option.some.injEq, AV.int.injEq, AV.bl.injEq, AV.str.injEq, AV.ref.injEq, AV.tup.injEq, AV.lst.injEq, AO.list.injEq, List.cons.injEq, exists_eq_left', exists_eq_left, exists_and_left, List.map_cons, List.map_nil, List.replicate, List.cons_append, List.nil_append, and_true, true_and, if_true, Nat.sub_self, ite_true, List.length_cons, List.length_nil, Nat.zero_add, Nat.reduceAdd, Nat.reduceSub, List.length_set, isi a (t := .str) (by decide)]
  by_cases ht : tg v = .str
  · obtain ⟨s, rfl⟩ : ∃ s, v = .str s := by cases v <;> first | exact ⟨_, rfl⟩ | cases ht | cases a.1
    have hl := a.2 s rfl
    have b : isT (tg (.str s)) .str = true := rfl
    simp only [b, Bool.not_true, Bool.not_false, Bool.false_eq_true, if_false, if_true, List.getElem?_cons_zero, List.getElem?_cons_succ, List.set_cons_zero, List.set_cons_succ, Option.some.injEq, AV.int.injEq, AV.bl.injEq, AV.str.injEq, AV.ref.injEq, AV.tup.injEq, AV.lst.injEq, AO.list.injEq, List.cons.injEq, exists_eq_left', exists_eq_left, exists_and_left, List.map_cons, List.map_nil, List.replicate, List.cons_append, List.nil_append, and_true, true_and, if_true, Nat.sub_self, ite_true, List.length_cons, List.length_nil, Nat.zero_add, Nat.reduceAdd, Nat.reduceSub, List.length_set, vAdd_ii, vAdd_ss, vAdd_ll, vSub_ii, vMul_ii, vDiv_ii, vMod_ii, vLt_ii, vLe_ii, vGt_ii, vGe_ii, vEq_ii, vEq_ss, vNe_ii, vNe_ss, vIx_t, vIx_l, vIx_s, vIx_r, vLen_s, vLen_t, vLen_l, vLen_r, szK hl, itemsOf, szOk_map hl]
    by_cases h1 : (0 : Int) < s.length
    · simp only [decide_eq_true h1, if_true, List.getElem?_cons_zero, List.getElem?_cons_succ, List.set_cons_zero, List.set_cons_succ, Option.some.injEq, AV.int.injEq, AV.bl.injEq, AV.str.injEq, AV.ref.injEq, AV.tup.injEq, AV.lst.injEq, AO.list.injEq, List.cons.injEq, exists_eq_left', exists_eq_left, exists_and_left, List.map_cons, List.map_nil, List.replicate, List.cons_append, List.nil_append, and_true, true_and, if_true, Nat.sub_self, ite_true, List.length_cons, List.length_nil, Nat.zero_add, Nat.reduceAdd, Nat.reduceSub, List.length_set]
      by_cases h2 : (s.length : Int) < 7
      · simp only [decide_eq_true h2, Bool.not_true, Bool.false_eq_true, if_false, if_true, List.getElem?_cons_zero, List.getElem?_cons_succ, List.set_cons_zero, List.set_cons_succ, Option.some.injEq, AV.int.injEq, AV.bl.injEq, AV.str.injEq, AV.ref.injEq, AV.tup.injEq, AV.lst.injEq, AO.list.injEq, List.cons.injEq, exists_eq_left', exists_eq_left, exists_and_left, List.map_cons, List.map_nil, List.replicate, List.cons_append, List.nil_append, and_true, true_and, if_true, Nat.sub_self, ite_true, List.length_cons, List.length_nil, Nat.zero_add, Nat.reduceAdd, Nat.reduceSub, List.length_set]
        rw [abc_comp hl (fun c ρ1 e => by simp only [aBin, aVar, e, aC, Res.bind, in_abc, lift1]) rfl]
        rw [en_ok]
        simp only [all_abc, List.getElem?_cons_zero, List.getElem?_cons_succ, List.set_cons_zero, List.set_cons_succ, Option.some.injEq, AV.int.injEq, AV.bl.injEq, AV.str.injEq, AV.ref.injEq, AV.tup.injEq, AV.lst.injEq, AO.list.injEq, List.cons.injEq, exists_eq_left', exists_eq_left, exists_and_left, List.map_cons, List.map_nil, List.replicate, List.cons_append, List.nil_append, and_true, true_and, if_true, Nat.sub_self, ite_true, List.length_cons, List.length_nil, Nat.zero_add, Nat.reduceAdd, Nat.reduceSub, List.length_set]
        refine ⟨Nat.le_refl _, ?_⟩
        show (s.all fun c => decide (c ∈ ABC)) = nmS s
        unfold nmS
        rw [decide_eq_true (show 1 ≤ s.length by omega), decide_eq_true (show s.length ≤ 6 by omega)]
        rfl
      · simp only [decide_eq_false h2, Bool.not_false, Bool.false_eq_true, if_false, if_true, List.getElem?_cons_zero, List.getElem?_cons_succ, List.set_cons_zero, List.set_cons_succ, Option.some.injEq, AV.int.injEq, AV.bl.injEq, AV.str.injEq, AV.ref.injEq, AV.tup.injEq, AV.lst.injEq, AO.list.injEq, List.cons.injEq, exists_eq_left', exists_eq_left, exists_and_left, List.map_cons, List.map_nil, List.replicate, List.cons_append, List.nil_append, and_true, true_and, if_true, Nat.sub_self, ite_true, List.length_cons, List.length_nil, Nat.zero_add, Nat.reduceAdd, Nat.reduceSub, List.length_set]
        refine ⟨Nat.le_refl _, ?_⟩
        show false = nmS s
        unfold nmS
        rw [decide_eq_false (show ¬ s.length ≤ 6 by omega)]
        simp
    · simp only [decide_eq_false h1, Bool.not_false, Bool.false_eq_true, if_false, if_true, List.getElem?_cons_zero, List.getElem?_cons_succ, List.set_cons_zero, List.set_cons_succ, Option.some.injEq, AV.int.injEq, AV.bl.injEq, AV.str.injEq, AV.ref.injEq, AV.tup.injEq, AV.lst.injEq, AO.list.injEq, List.cons.injEq, exists_eq_left', exists_eq_left, exists_and_left, List.map_cons, List.map_nil, List.replicate, List.cons_append, List.nil_append, and_true, true_and, if_true, Nat.sub_self, ite_true, List.length_cons, List.length_nil, Nat.zero_add, Nat.reduceAdd, Nat.reduceSub, List.length_set]
      refine ⟨Nat.le_refl _, ?_⟩
      show false = nmS s
      unfold nmS
      rw [decide_eq_false (show ¬ 1 ≤ s.length by omega)]
      rfl
  · have b : isT (tg v) .str = false := by
      unfold isT
      rw [decide_eq_false ht]; simp
    simp only [b, Bool.not_false, Bool.false_eq_true, if_false, if_true, List.getElem?_cons_zero, List.getElem?_cons_succ, List.set_cons_zero, List.set_cons_succ, Option.some.injEq, AV.int.injEq, AV.bl.injEq, AV.str.injEq, AV.ref.injEq, AV.tup.injEq, AV.lst.injEq, AO.list.injEq, List.cons.injEq, exists_eq_left', exists_eq_left, exists_and_left, List.map_cons, List.map_nil, List.replicate, List.cons_append, List.nil_append, and_true, true_and, if_true, Nat.sub_self, ite_true, List.length_cons, List.length_nil, Nat.zero_add, Nat.reduceAdd, Nat.reduceSub, List.length_set, no ht]
    simp
/-! variables -/
def endQ (s : List Nat) : Bool := decide (AI.cutL s (some (-1)) none = [39])
def cutE (s : List Nat) : List Nat := AI.cutL s none (some (-1))
theorem cutE_len (s : List Nat) : (cutE s).length ≤ s.length := by
  unfold cutE AI.cutL
  simp only [List.length_take, List.length_drop]
  omega
theorem ends_eq (s : List Nat) : Txt.endswith (sOf s) (sOf [39]) = endQ s := by
  unfold endQ Txt.endswith
  have hl : (sOf s).length = s.length := by simp [PySem.Str.length]
  have h1 : (sOf [39]).length = 1 := rfl
  rw [hl, h1]
  rcases List.eq_nil_or_concat s with rfl | ⟨t, c, rfl⟩
  · rfl
  · rw [List.concat_eq_append]
    have e : AI.cutL (t ++ [c]) (some (-1)) none = [c] := by
      unfold AI.cutL HT.sIx
      have z : ((-1 : Int) + ((t ++ [c]).length : Int)).toNat = t.length := by simp; omega
      simp only [show ((-1 : Int) < 0) = True by simp, if_true, z]
      simp
    rw [e]
    have e2 : Builtin.Str.subAt (sOf (t ++ [c])) (sOf [39]) ((t ++ [c]).length - 1) = decide (c = 39) := by
      unfold Builtin.Str.subAt
      have z : (sOf (t ++ [c])).cps.extract ((t ++ [c]).length - 1) ((t ++ [c]).length - 1 + (sOf [39]).length) = #[c] := by
        apply Array.ext'
        simp [h1]
      rw [z]
      by_cases hc : c = 39
      · subst hc; rfl
      · rw [decide_eq_false hc]
        simp [hc]
    rw [e2]
    simp
def vrS (s : List Nat) : Bool := nmS (if endQ s = true then cutE s else s)
def vr : AV → Bool
  | .str s => vrS s
  | _ => false
theorem atm_str {s : List Nat} (h : s.length ≤ 1000) : Atm (.str s) := ⟨rfl, fun _ e => by cases e; exact h⟩
theorem var1 {h : AHeap} {v : AV} (a : Atm v) : m_is_variable [v] h = .ok (.bl (vr v)) h := by
  refine Ens.eq (en_def rfl ?_)
  have no : tg v ≠ .str → vr v = false := fun z => by cases v <;> first | rfl | exact absurd rfl z
  simp only [en_bind, en_ok, en_bad, en_lift, en_var, en_c, en_bin, en_un, en_test, en_chain, en_andT, en_orT, en_notT, en_and, en_or, en_not, en_if, en_nil, en_cons, en_tup, en_list, en_pureL, en_newL, en_fn, en_call, en_callK, en_methS, en_oN, en_oS, en_sl, en_rng1, en_iter, en_lc, es_seq, es_skip, es_ret, es_retN, es_if, es_asg, es_par2, es_for, eg_name, eg_nil, eg_cons, eg_tup, eg_sub, vAdd_ii, vAdd_ss, vAdd_ll, vSub_ii, vMul_ii, vDiv_ii, vMod_ii, vLt_ii, vLe_ii, vGt_ii, vGe_ii, vEq_ii, vEq_ss, vNe_ii, vNe_ss, vIx_t, vIx_l, vIx_s, vIx_r, vLen_s, vLen_t, vLen_l, vLen_r, List.getElem?_cons_zero, List.getElem?_cons_succ, List.set_cons_zero, List.set_cons_succ, Option.some.injEq, AV.int.injEq, AV.bl.injEq, AV.str.injEq, AV.ref.injEq, AV.tup.injEq, AV.lst.injEq, AO.list.injEq, List.cons.injEq, exists_eq_left', exists_eq_left, exists_and_left, List.map_cons, List.map_nil, List.replicate, List.cons_append, List.nil_append, and_true, true_and, if_true, Nat.sub_self, ite_true, List.length_cons, List.length_nil, Nat.zero_add, Nat.reduceAdd, Nat.reduceSub, List.length_set, isi a (t := .str) (by decide)]
  by_cases ht : tg v = .str
  · obtain ⟨s, rfl⟩ : ∃ s, v = .str s := by cases v <;> first | exact ⟨_, rfl⟩ | cases ht | cases a.1
    have hl := a.2 s rfl
    have b : isT (tg (.str s)) .str = true := rfl
    have ve : vEnds s h [.str [39]] = some (.bl (endQ s)) := by rw [← ends_eq]; rfl
    have vn : vNeg h (.int 1) = some (.int (-1)) := rfl
    have vs : vSl h (.str s) none (some (-1)) = some (.str (cutE s)) := by
      show (if decide (s.length ≤ szM) = true then some (AV.str (AI.cutL s none (some (-1)))) else none) = _
      rw [if_pos (szK hl)]; rfl
    simp only [b, Bool.not_true, Bool.not_false, Bool.false_eq_true, if_false, if_true, List.getElem?_cons_zero, List.getElem?_cons_succ, List.set_cons_zero, List.set_cons_succ, Option.some.injEq, AV.int.injEq, AV.bl.injEq, AV.str.injEq, AV.ref.injEq, AV.tup.injEq, AV.lst.injEq, AO.list.injEq, List.cons.injEq, exists_eq_left', exists_eq_left, exists_and_left, List.map_cons, List.map_nil, List.replicate, List.cons_append, List.nil_append, and_true, true_and, if_true, Nat.sub_self, ite_true, List.length_cons, List.length_nil, Nat.zero_add, Nat.reduceAdd, Nat.reduceSub, List.length_set, ve, vn, vs]
    have hc : (cutE s).length ≤ 1000 := Nat.le_trans (cutE_len s) hl
    by_cases he : endQ s = true
    · rw [if_pos he, name1 (atm_str hc), en_ok]
      refine ⟨Nat.le_refl _, ?_, rfl⟩
      show AV.bl (nmS (cutE s)) = AV.bl (vrS s)
      unfold vrS; rw [if_pos he]
    · rw [if_neg he, name1 (atm_str hl), en_ok]
      refine ⟨Nat.le_refl _, ?_, rfl⟩
      show AV.bl (nmS s) = AV.bl (vrS s)
      unfold vrS; rw [if_neg he]
  · have b : isT (tg v) .str = false := by
      unfold isT
      rw [decide_eq_false ht]; simp
    simp only [b, Bool.not_false, Bool.false_eq_true, if_false, if_true, List.getElem?_cons_zero, List.getElem?_cons_succ, List.set_cons_zero, List.set_cons_succ, Option.some.injEq, AV.int.injEq, AV.bl.injEq, AV.str.injEq, AV.ref.injEq, AV.tup.injEq, AV.lst.injEq, AO.list.injEq, List.cons.injEq, exists_eq_left', exists_eq_left, exists_and_left, List.map_cons, List.map_nil, List.replicate, List.cons_append, List.nil_append, and_true, true_and, if_true, Nat.sub_self, ite_true, List.length_cons, List.length_nil, Nat.zero_add, Nat.reduceAdd, Nat.reduceSub, List.length_set, no ht]
    simp
theorem var2 {h : AHeap} {v : AV} (a : Atm v) : m__law_is_variable [v] h = .ok (.bl (vr v)) h := by
  refine Ens.eq (en_def rfl ?_)
  have no : tg v ≠ .str → vr v = false := fun z => by cases v <;> first | rfl | exact absurd rfl z
  simp only [en_bind, en_ok, en_bad, en_lift, en_var, en_c, en_bin, en_un, en_test, en_chain, en_andT, en_orT, en_notT, en_and, en_or, en_not, en_if, en_nil, en_cons, en_tup, en_list, en_pureL, en_newL, en_fn, en_call, en_callK, en_methS, en_oN, en_oS, en_sl, en_rng1, en_iter, en_lc, es_seq, es_skip, es_ret, es_retN, es_if, es_asg, es_par2, es_for, eg_name, eg_nil, eg_cons, eg_tup, eg_sub, vAdd_ii, vAdd_ss, vAdd_ll, vSub_ii, vMul_ii, vDiv_ii, vMod_ii, vLt_ii, vLe_ii, vGt_ii, vGe_ii, vEq_ii, vEq_ss, vNe_ii, vNe_ss, vIx_t, vIx_l, vIx_s, vIx_r, vLen_s, vLen_t, vLen_l, vLen_r, List.getElem?_cons_zero, List.getElem?_cons_succ, List.set_cons_zero, List.set_cons_succ, Option.some.injEq, AV.int.injEq, AV.bl.injEq, AV.str.injEq, AV.ref.injEq, AV.tup.injEq, AV.lst.injEq, AO.list.injEq, List.cons.injEq, exists_eq_left', exists_eq_left, exists_and_left, List.map_cons, List.map_nil, List.replicate, List.cons_append, List.nil_append, and_true, true_and, if_true, Nat.sub_self, ite_true, List.length_cons, List.length_nil, Nat.zero_add, Nat.reduceAdd, Nat.reduceSub, List.length_set, isi a (t := .str) (by decide)]
  by_cases ht : tg v = .str
  · obtain ⟨s, rfl⟩ : ∃ s, v = .str s := by cases v <;> first | exact ⟨_, rfl⟩ | cases ht | cases a.1
    have hl := a.2 s rfl
    have b : isT (tg (.str s)) .str = true := rfl
    have vn : vNeg h (.int 1) = some (.int (-1)) := rfl
    have vs : vSl h (.str s) none (some (-1)) = some (.str (cutE s)) := by
      show (if decide (s.length ≤ szM) = true then some (AV.str (AI.cutL s none (some (-1)))) else none) = _
      rw [if_pos (szK hl)]; rfl
    have vs2 : vSl h (.str s) (some (-1)) none = some (.str (AI.cutL s (some (-1)) none)) := by
      show (if decide (s.length ≤ szM) = true then some (AV.str (AI.cutL s (some (-1)) none)) else none) = _
      rw [if_pos (szK hl)]
    simp only [b, Bool.not_true, Bool.not_false, Bool.false_eq_true, if_false, if_true, List.getElem?_cons_zero, List.getElem?_cons_succ, List.set_cons_zero, List.set_cons_succ, Option.some.injEq, AV.int.injEq, AV.bl.injEq, AV.str.injEq, AV.ref.injEq, AV.tup.injEq, AV.lst.injEq, AO.list.injEq, List.cons.injEq, exists_eq_left', exists_eq_left, exists_and_left, List.map_cons, List.map_nil, List.replicate, List.cons_append, List.nil_append, and_true, true_and, if_true, Nat.sub_self, ite_true, List.length_cons, List.length_nil, Nat.zero_add, Nat.reduceAdd, Nat.reduceSub, List.length_set, vn, vs, vs2, vAdd_ii, vAdd_ss, vAdd_ll, vSub_ii, vMul_ii, vDiv_ii, vMod_ii, vLt_ii, vLe_ii, vGt_ii, vGe_ii, vEq_ii, vEq_ss, vNe_ii, vNe_ss, vIx_t, vIx_l, vIx_s, vIx_r, vLen_s, vLen_t, vLen_l, vLen_r]
    have q : decide (AI.cutL s (some (-1)) none = [39]) = endQ s := rfl
    simp only [q]
    have hc : (cutE s).length ≤ 1000 := Nat.le_trans (cutE_len s) hl
    by_cases he : endQ s = true
    · rw [if_pos he, name2 (atm_str hc), en_ok]
      refine ⟨Nat.le_refl _, ?_, rfl⟩
      show AV.bl (nmS (cutE s)) = AV.bl (vrS s)
      unfold vrS; rw [if_pos he]
    · rw [if_neg he, name2 (atm_str hl), en_ok]
      refine ⟨Nat.le_refl _, ?_, rfl⟩
      show AV.bl (nmS s) = AV.bl (vrS s)
      unfold vrS; rw [if_neg he]
  · have b : isT (tg v) .str = false := by
      unfold isT
      rw [decide_eq_false ht]; simp
    simp only [b, Bool.not_false, Bool.false_eq_true, if_false, if_true, List.getElem?_cons_zero, List.getElem?_cons_succ, List.set_cons_zero, List.set_cons_succ, Option.some.injEq, AV.int.injEq, AV.bl.injEq, AV.str.injEq, AV.ref.injEq, AV.tup.injEq, AV.lst.injEq, AO.list.injEq, List.cons.injEq, exists_eq_left', exists_eq_left, exists_and_left, List.map_cons, List.map_nil, List.replicate, List.cons_append, List.nil_append, and_true, true_and, if_true, Nat.sub_self, ite_true, List.length_cons, List.length_nil, Nat.zero_add, Nat.reduceAdd, Nat.reduceSub, List.length_set, no ht]
    simp
/-! claims -/
def opS (v : AV) : Bool := match v with
  | .str s => inV (.str (sOf s)) [.str (sOf [60]), .str (sOf [60, 61]), .str (sOf [61])]
  | _ => false
def cl : AV → Bool
  | .tup [a, b, c] => vr a && vr c && opS b
  | _ => false
/-- a value that is_claim may be asked about -/
def Val (v : AV) : Prop := Atm v ∧ ∀ l, v = .tup l → ∀ x ∈ l, Atm x
theorem op_in {h : AHeap} {s : List Nat} : vIn h (.str s) v_OPERATORS = some (.bl (opS (.str s))) := rfl
theorem op_notIn {h : AHeap} {s : List Nat} : vNotIn h (.str s) (.lst [.str [60], .str [60, 61], .str [61]]) = some (.bl (!opS (.str s))) := rfl
theorem atI3 (a b c : AV) : atI [a, b, c] 0 = some a ∧ atI [a, b, c] 1 = some b ∧ atI [a, b, c] 2 = some c := ⟨rfl, rfl, rfl⟩
theorem cl_no {v : AV} (h : ∀ a b c, v ≠ .tup [a, b, c]) : cl v = false := by
  unfold cl
  split
  · rename_i a b c; exact absurd rfl (h a b c)
  · rfl
theorem len3 {l : List AV} (h : l.length = 3) : ∃ a b c, l = [a, b, c] := by
  match l, h with
  | [a, b, c], _ => exact ⟨a, b, c, rfl⟩
theorem claim1 {h : AHeap} {v : AV} (a : Val v) : m_is_claim [v] h = .ok (.bl (cl v)) h := by
  refine Ens.eq (en_def rfl ?_)
  simp only [en_bind, en_ok, en_bad, en_lift, en_var, en_c, en_bin, en_un, en_test, en_chain, en_andT, en_orT, en_notT, en_and, en_or, en_not, en_if, en_nil, en_cons, en_tup, en_list, en_pureL, en_newL, en_fn, en_call, en_callK, en_methS, en_oN, en_oS, en_sl, en_rng1, en_iter, en_lc, es_seq, es_skip, es_ret, es_retN, es_if, es_asg, es_par2, es_for, eg_name, eg_nil, eg_cons, eg_tup, eg_sub, vAdd_ii, vAdd_ss, vAdd_ll, vSub_ii, vMul_ii, vDiv_ii, vMod_ii, vLt_ii, vLe_ii, vGt_ii, vGe_ii, vEq_ii, vEq_ss, vNe_ii, vNe_ss, vIx_t, vIx_l, vIx_s, vIx_r, vLen_s, vLen_t, vLen_l, vLen_r, List.getElem?_cons_zero, List.getElem?_cons_succ, List.set_cons_zero, List.set_cons_succ, Option.some.injEq, AV.int.injEq, AV.bl.injEq, AV.str.injEq, AV.ref.injEq, AV.tup.injEq, AV.lst.injEq, AO.list.injEq, List.cons.injEq, exists_eq_left', exists_eq_left, exists_and_left, List.map_cons, List.map_nil, List.replicate, List.cons_append, List.nil_append, and_true, true_and, if_true, Nat.sub_self, ite_true, List.length_cons, List.length_nil, Nat.zero_add, Nat.reduceAdd, Nat.reduceSub, List.length_set, isi a.1 (t := .tup) (by decide)]
  by_cases ht : tg v = .tup
  · obtain ⟨l, rfl⟩ : ∃ l, v = .tup l := by cases v <;> first | exact ⟨_, rfl⟩ | cases ht | cases a.1.1
    have b : isT (tg (.tup l)) .tup = true := rfl
    simp only [b, Bool.not_true, Bool.not_false, Bool.false_eq_true, if_false, if_true, List.getElem?_cons_zero, List.getElem?_cons_succ, List.set_cons_zero, List.set_cons_succ, Option.some.injEq, AV.int.injEq, AV.bl.injEq, AV.str.injEq, AV.ref.injEq, AV.tup.injEq, AV.lst.injEq, AO.list.injEq, List.cons.injEq, exists_eq_left', exists_eq_left, exists_and_left, List.map_cons, List.map_nil, List.replicate, List.cons_append, List.nil_append, and_true, true_and, if_true, Nat.sub_self, ite_true, List.length_cons, List.length_nil, Nat.zero_add, Nat.reduceAdd, Nat.reduceSub, List.length_set, vAdd_ii, vAdd_ss, vAdd_ll, vSub_ii, vMul_ii, vDiv_ii, vMod_ii, vLt_ii, vLe_ii, vGt_ii, vGe_ii, vEq_ii, vEq_ss, vNe_ii, vNe_ss, vIx_t, vIx_l, vIx_s, vIx_r, vLen_s, vLen_t, vLen_l, vLen_r]
    by_cases hl : l.length = 3
    · obtain ⟨p, q, r, rfl⟩ := len3 hl
      have hx := a.2 _ rfl
      have ap := hx p (by simp)
      have aq := hx q (by simp)
      have ar := hx r (by simp)
      have n3 : decide (((([p, q, r] : List AV).length : Nat) : Int) = 3) = true := rfl
      have z3 : (([p, q, r] : List AV).length : Int) = 3 := rfl
      simp only [List.getElem?_cons_zero, List.getElem?_cons_succ, List.set_cons_zero, List.set_cons_succ, Option.some.injEq, AV.int.injEq, AV.bl.injEq, AV.str.injEq, AV.ref.injEq, AV.tup.injEq, AV.lst.injEq, AO.list.injEq, List.cons.injEq, exists_eq_left', exists_eq_left, exists_and_left, List.map_cons, List.map_nil, List.replicate, List.cons_append, List.nil_append, and_true, true_and, if_true, Nat.sub_self, ite_true, List.length_cons, List.length_nil, Nat.zero_add, Nat.reduceAdd, Nat.reduceSub, List.length_set, z3, n3, decide_true, Bool.not_true, Bool.false_eq_true, if_false, en_bind, en_ok, en_bad, en_lift, en_var, en_c, en_bin, en_un, en_test, en_chain, en_andT, en_orT, en_notT, en_and, en_or, en_not, en_if, en_nil, en_cons, en_tup, en_list, en_pureL, en_newL, en_fn, en_call, en_callK, en_methS, en_oN, en_oS, en_sl, en_rng1, en_iter, en_lc, es_seq, es_skip, es_ret, es_retN, es_if, es_asg, es_par2, es_for, eg_name, eg_nil, eg_cons, eg_tup, eg_sub]
      rw [if_neg (by simp)]
      refine ⟨_, _, ⟨rfl, rfl⟩, _, _, rfl, _, _, rfl, rfl, ?_⟩
      rw [var1 ap, en_ok]
      refine ⟨_, rfl, ?_⟩
      have ce : cl (.tup [p, q, r]) = (vr p && vr r && opS q) := rfl
      rw [ce]
      cases vr p with
      | false => simp
      | true =>
        rw [if_pos rfl, var1 ar, en_ok]
        refine ⟨_, rfl, ?_⟩
        cases vr r with
        | false => simp
        | true =>
          rw [if_pos rfl]
          refine ⟨_, isi aq (by decide), _, rfl, ?_⟩
          by_cases hs : tg q = .str
          · obtain ⟨s, rfl⟩ : ∃ s, q = .str s := by cases q <;> first | exact ⟨_, rfl⟩ | cases hs | cases aq.1
            rw [if_pos (show isT (tg (.str s)) .str = true from rfl)]
            exact ⟨_, op_in, Nat.le_refl _, rfl, rfl⟩
          · have b2 : isT (tg q) .str = false := by
              unfold isT
              rw [decide_eq_false hs]; simp
            have o2 : opS q = false := by cases q <;> first | rfl | exact absurd rfl hs
            rw [b2, o2]
            simp
    · have n3 : decide (((l.length : Nat) : Int) = 3) = false := decide_eq_false (by omega)
      have c0 : cl (.tup l) = false := cl_no fun x y z e => hl (by cases e; rfl)
      simp only [n3, Bool.not_false, if_true, List.getElem?_cons_zero, List.getElem?_cons_succ, List.set_cons_zero, List.set_cons_succ, Option.some.injEq, AV.int.injEq, AV.bl.injEq, AV.str.injEq, AV.ref.injEq, AV.tup.injEq, AV.lst.injEq, AO.list.injEq, List.cons.injEq, exists_eq_left', exists_eq_left, exists_and_left, List.map_cons, List.map_nil, List.replicate, List.cons_append, List.nil_append, and_true, true_and, if_true, Nat.sub_self, ite_true, List.length_cons, List.length_nil, Nat.zero_add, Nat.reduceAdd, Nat.reduceSub, List.length_set, c0]
      simp
  · have b : isT (tg v) .tup = false := by
      unfold isT
      rw [decide_eq_false ht]; simp
    have c0 : cl v = false := cl_no fun x y z e => ht (by rw [e]; rfl)
    simp only [b, Bool.not_false, Bool.false_eq_true, if_false, if_true, List.getElem?_cons_zero, List.getElem?_cons_succ, List.set_cons_zero, List.set_cons_succ, Option.some.injEq, AV.int.injEq, AV.bl.injEq, AV.str.injEq, AV.ref.injEq, AV.tup.injEq, AV.lst.injEq, AO.list.injEq, List.cons.injEq, exists_eq_left', exists_eq_left, exists_and_left, List.map_cons, List.map_nil, List.replicate, List.cons_append, List.nil_append, and_true, true_and, if_true, Nat.sub_self, ite_true, List.length_cons, List.length_nil, Nat.zero_add, Nat.reduceAdd, Nat.reduceSub, List.length_set, c0]
    simp
theorem claim2 {h : AHeap} {v : AV} (a : Val v) : m__law_is_claim [v] h = .ok (.bl (cl v)) h := by
  refine Ens.eq (en_def rfl ?_)
  simp only [en_bind, en_ok, en_bad, en_lift, en_var, en_c, en_bin, en_un, en_test, en_chain, en_andT, en_orT, en_notT, en_and, en_or, en_not, en_if, en_nil, en_cons, en_tup, en_list, en_pureL, en_newL, en_fn, en_call, en_callK, en_methS, en_oN, en_oS, en_sl, en_rng1, en_iter, en_lc, es_seq, es_skip, es_ret, es_retN, es_if, es_asg, es_par2, es_for, eg_name, eg_nil, eg_cons, eg_tup, eg_sub, vAdd_ii, vAdd_ss, vAdd_ll, vSub_ii, vMul_ii, vDiv_ii, vMod_ii, vLt_ii, vLe_ii, vGt_ii, vGe_ii, vEq_ii, vEq_ss, vNe_ii, vNe_ss, vIx_t, vIx_l, vIx_s, vIx_r, vLen_s, vLen_t, vLen_l, vLen_r, List.getElem?_cons_zero, List.getElem?_cons_succ, List.set_cons_zero, List.set_cons_succ, Option.some.injEq, AV.int.injEq, AV.bl.injEq, AV.str.injEq, AV.ref.injEq, AV.tup.injEq, AV.lst.injEq, AO.list.injEq, List.cons.injEq, exists_eq_left', exists_eq_left, exists_and_left, List.map_cons, List.map_nil, List.replicate, List.cons_append, List.nil_append, and_true, true_and, if_true, Nat.sub_self, ite_true, List.length_cons, List.length_nil, Nat.zero_add, Nat.reduceAdd, Nat.reduceSub, List.length_set, isi a.1 (t := .tup) (by decide)]
  by_cases ht : tg v = .tup
  · obtain ⟨l, rfl⟩ : ∃ l, v = .tup l := by cases v <;> first | exact ⟨_, rfl⟩ | cases ht | cases a.1.1
    have b : isT (tg (.tup l)) .tup = true := rfl
    simp only [b, Bool.not_true, Bool.not_false, Bool.false_eq_true, if_false, if_true, List.getElem?_cons_zero, List.getElem?_cons_succ, List.set_cons_zero, List.set_cons_succ, Option.some.injEq, AV.int.injEq, AV.bl.injEq, AV.str.injEq, AV.ref.injEq, AV.tup.injEq, AV.lst.injEq, AO.list.injEq, List.cons.injEq, exists_eq_left', exists_eq_left, exists_and_left, List.map_cons, List.map_nil, List.replicate, List.cons_append, List.nil_append, and_true, true_and, if_true, Nat.sub_self, ite_true, List.length_cons, List.length_nil, Nat.zero_add, Nat.reduceAdd, Nat.reduceSub, List.length_set, vAdd_ii, vAdd_ss, vAdd_ll, vSub_ii, vMul_ii, vDiv_ii, vMod_ii, vLt_ii, vLe_ii, vGt_ii, vGe_ii, vEq_ii, vEq_ss, vNe_ii, vNe_ss, vIx_t, vIx_l, vIx_s, vIx_r, vLen_s, vLen_t, vLen_l, vLen_r]
    by_cases hl : l.length = 3
    · obtain ⟨p, q, r, rfl⟩ := len3 hl
      have hx := a.2 _ rfl
      have ap := hx p (by simp)
      have aq := hx q (by simp)
      have ar := hx r (by simp)
      have z3 : (([p, q, r] : List AV).length : Int) = 3 := rfl
      simp only [List.getElem?_cons_zero, List.getElem?_cons_succ, List.set_cons_zero, List.set_cons_succ, Option.some.injEq, AV.int.injEq, AV.bl.injEq, AV.str.injEq, AV.ref.injEq, AV.tup.injEq, AV.lst.injEq, AO.list.injEq, List.cons.injEq, exists_eq_left', exists_eq_left, exists_and_left, List.map_cons, List.map_nil, List.replicate, List.cons_append, List.nil_append, and_true, true_and, if_true, Nat.sub_self, ite_true, List.length_cons, List.length_nil, Nat.zero_add, Nat.reduceAdd, Nat.reduceSub, List.length_set, z3, (atI3 p q r).1, (atI3 p q r).2.1, (atI3 p q r).2.2, isi aq (t := .str) (by decide)]
      rw [if_neg (by simp)]
      have ce : cl (.tup [p, q, r]) = (vr p && vr r && opS q) := rfl
      rw [ce]
      by_cases hs : tg q = .str
      · obtain ⟨s, rfl⟩ : ∃ s, q = .str s := by cases q <;> first | exact ⟨_, rfl⟩ | cases hs | cases aq.1
        have b2 : isT (tg (.str s)) .str = true := rfl
        have sz3 : ∀ x y z : AV, szOk [x, y, z] = true := fun _ _ _ => rfl
        simp only [b2, Bool.not_true, Bool.not_false, Bool.false_eq_true, if_false, if_true, List.getElem?_cons_zero, List.getElem?_cons_succ, List.set_cons_zero, List.set_cons_succ, Option.some.injEq, AV.int.injEq, AV.bl.injEq, AV.str.injEq, AV.ref.injEq, AV.tup.injEq, AV.lst.injEq, AO.list.injEq, List.cons.injEq, exists_eq_left', exists_eq_left, exists_and_left, List.map_cons, List.map_nil, List.replicate, List.cons_append, List.nil_append, and_true, true_and, if_true, Nat.sub_self, ite_true, List.length_cons, List.length_nil, Nat.zero_add, Nat.reduceAdd, Nat.reduceSub, List.length_set, op_notIn, sz3]
        cases ho : opS (.str s) with
        | false => simp
        | true =>
          simp only [Bool.not_true, Bool.false_eq_true, if_false]
          rw [var2 ap, en_ok]
          refine ⟨_, rfl, ?_⟩
          cases vr p with
          | false => simp
          | true =>
            rw [if_pos rfl, var2 ar, en_ok]
            refine ⟨Nat.le_refl _, ?_, rfl⟩
            simp
      · have b2 : isT (tg q) .str = false := by
          unfold isT
          rw [decide_eq_false hs]; simp
        have o2 : opS q = false := by cases q <;> first | rfl | exact absurd rfl hs
        simp only [b2, Bool.not_false, if_true, o2]
        simp
    · have n3 : decide (((l.length : Nat) : Int) = 3) = false := decide_eq_false (by omega)
      have c0 : cl (.tup l) = false := cl_no fun x y z e => hl (by cases e; rfl)
      simp only [n3, Bool.not_false, if_true, List.getElem?_cons_zero, List.getElem?_cons_succ, List.set_cons_zero, List.set_cons_succ, Option.some.injEq, AV.int.injEq, AV.bl.injEq, AV.str.injEq, AV.ref.injEq, AV.tup.injEq, AV.lst.injEq, AO.list.injEq, List.cons.injEq, exists_eq_left', exists_eq_left, exists_and_left, List.map_cons, List.map_nil, List.replicate, List.cons_append, List.nil_append, and_true, true_and, if_true, Nat.sub_self, ite_true, List.length_cons, List.length_nil, Nat.zero_add, Nat.reduceAdd, Nat.reduceSub, List.length_set, c0]
      simp
  · have b : isT (tg v) .tup = false := by
      unfold isT
      rw [decide_eq_false ht]; simp
    have c0 : cl v = false := cl_no fun x y z e => ht (by rw [e]; rfl)
    simp only [b, Bool.not_false, Bool.false_eq_true, if_false, if_true, List.getElem?_cons_zero, List.getElem?_cons_succ, List.set_cons_zero, List.set_cons_succ, Option.some.injEq, AV.int.injEq, AV.bl.injEq, AV.str.injEq, AV.ref.injEq, AV.tup.injEq, AV.lst.injEq, AO.list.injEq, List.cons.injEq, exists_eq_left', exists_eq_left, exists_and_left, List.map_cons, List.map_nil, List.replicate, List.cons_append, List.nil_append, and_true, true_and, if_true, Nat.sub_self, ite_true, List.length_cons, List.length_nil, Nat.zero_add, Nat.reduceAdd, Nat.reduceSub, List.length_set, c0]
    simp
/-! the comparison -/
abbrev six (a b c : Bool) : List AV := [.bl a, .bl b, .bl c, .bl a, .bl b, .bl c]
abbrev sixD (a b c : Bool) : PyData := .list [.bool a, .bool b, .bool c, .bool a, .bool b, .bool c]
theorem six_ok (a b c : Bool) : okR (.lst (six a b c)) (sixD a b c) = true := by cases a <;> cases b <;> cases c <;> kernel_rfl
theorem repr6 {h : AHeap} (a b c : Bool) : vRepr h [.lst (six a b c)] = some (.str (sixD a b c).shown.cps.toList) := by
  show (if okR (.lst (six a b c)) (sixD a b c) = true then some (AV.str (sixD a b c).shown.cps.toList) else none) = _
  rw [if_pos (six_ok a b c)]
theorem right_spec {h : AHeap} {v : AV} {r : List Nat} (a : Val v) (hr : ∀ h, vRepr h [v] = some (.str r)) : m__law_right [v] h = .ok (.bl true) h := by
  refine Ens.eq (en_def rfl ?_)
  have sz3 : ∀ x y z : AV, szOk [x, y, z] = true := fun _ _ _ => rfl
  have r2 : AI.inR 2 = true := rfl
  simp only [en_bind, en_ok, en_bad, en_lift, en_var, en_c, en_bin, en_un, en_test, en_chain, en_andT, en_orT, en_notT, en_and, en_or, en_not, en_if, en_nil, en_cons, en_tup, en_list, en_pureL, en_newL, en_fn, en_call, en_callK, en_methS, en_oN, en_oS, en_sl, en_rng1, en_iter, en_lc, es_seq, es_skip, es_ret, es_retN, es_if, es_asg, es_par2, es_for, eg_name, eg_nil, eg_cons, eg_tup, eg_sub, vAdd_ii, vAdd_ss, vAdd_ll, vSub_ii, vMul_ii, vDiv_ii, vMod_ii, vLt_ii, vLe_ii, vGt_ii, vGe_ii, vEq_ii, vEq_ss, vNe_ii, vNe_ss, vIx_t, vIx_l, vIx_s, vIx_r, vLen_s, vLen_t, vLen_l, vLen_r, List.getElem?_cons_zero, List.getElem?_cons_succ, List.set_cons_zero, List.set_cons_succ, Option.some.injEq, AV.int.injEq, AV.bl.injEq, AV.str.injEq, AV.ref.injEq, AV.tup.injEq, AV.lst.injEq, AO.list.injEq, List.cons.injEq, exists_eq_left', exists_eq_left, exists_and_left, List.map_cons, List.map_nil, List.replicate, List.cons_append, List.nil_append, and_true, true_and, if_true, Nat.sub_self, ite_true, List.length_cons, List.length_nil, Nat.zero_add, Nat.reduceAdd, Nat.reduceSub, List.length_set, hr, name2 a.1, var2 a.1, claim2 a, sz3, r2]
  refine ⟨_, _, ⟨rfl, rfl⟩, ?_⟩
  refine es_loop (fun _ ρ h' => h' = h ∧ ∃ x y, ρ = [some v, some (.str r), some (.lst [.bl (nm v), .bl (vr v), .bl (cl v)]), x, y]) ?_ ?_ ⟨rfl, none, none, rfl⟩
  · rintro i l ρ h' ⟨rfl, x, y, rfl⟩
    simp only [en_bind, en_ok, en_bad, en_lift, en_var, en_c, en_bin, en_un, en_test, en_chain, en_andT, en_orT, en_notT, en_and, en_or, en_not, en_if, en_nil, en_cons, en_tup, en_list, en_pureL, en_newL, en_fn, en_call, en_callK, en_methS, en_oN, en_oS, en_sl, en_rng1, en_iter, en_lc, es_seq, es_skip, es_ret, es_retN, es_if, es_asg, es_par2, es_for, eg_name, eg_nil, eg_cons, eg_tup, eg_sub, vAdd_ii, vAdd_ss, vAdd_ll, vSub_ii, vMul_ii, vDiv_ii, vMod_ii, vLt_ii, vLe_ii, vGt_ii, vGe_ii, vEq_ii, vEq_ss, vNe_ii, vNe_ss, vIx_t, vIx_l, vIx_s, vIx_r, vLen_s, vLen_t, vLen_l, vLen_r, List.getElem?_cons_zero, List.getElem?_cons_succ, List.set_cons_zero, List.set_cons_succ, Option.some.injEq, AV.int.injEq, AV.bl.injEq, AV.str.injEq, AV.ref.injEq, AV.tup.injEq, AV.lst.injEq, AO.list.injEq, List.cons.injEq, exists_eq_left', exists_eq_left, exists_and_left, List.map_cons, List.map_nil, List.replicate, List.cons_append, List.nil_append, and_true, true_and, if_true, Nat.sub_self, ite_true, List.length_cons, List.length_nil, Nat.zero_add, Nat.reduceAdd, Nat.reduceSub, List.length_set, hr, name1 a.1, var1 a.1, claim1 a, sz3]
    have p6 : decide (3 + 3 ≤ szM) = true := rfl
    simp only [p6, if_true, List.getElem?_cons_zero, List.getElem?_cons_succ, List.set_cons_zero, List.set_cons_succ, Option.some.injEq, AV.int.injEq, AV.bl.injEq, AV.str.injEq, AV.ref.injEq, AV.tup.injEq, AV.lst.injEq, AO.list.injEq, List.cons.injEq, exists_eq_left', exists_eq_left, exists_and_left, List.map_cons, List.map_nil, List.replicate, List.cons_append, List.nil_append, and_true, true_and, if_true, Nat.sub_self, ite_true, List.length_cons, List.length_nil, Nat.zero_add, Nat.reduceAdd, Nat.reduceSub, List.length_set, repr6]
    simp
    exact vNe_ss.trans (by simp)
  · rintro ρ h' ⟨rfl, x, y, rfl⟩
    simp only [List.getElem?_cons_zero, List.getElem?_cons_succ, List.set_cons_zero, List.set_cons_succ, Option.some.injEq, AV.int.injEq, AV.bl.injEq, AV.str.injEq, AV.ref.injEq, AV.tup.injEq, AV.lst.injEq, AO.list.injEq, List.cons.injEq, exists_eq_left', exists_eq_left, exists_and_left, List.map_cons, List.map_nil, List.replicate, List.cons_append, List.nil_append, and_true, true_and, if_true, Nat.sub_self, ite_true, List.length_cons, List.length_nil, Nat.zero_add, Nat.reduceAdd, Nat.reduceSub, List.length_set]
    simp
/-! ### what is drawn -/
/-- a word -/
def Wd (v : AV) : Prop := ∃ s : List Nat, v = .str s ∧ s.length ≤ 30 ∧ ∀ c ∈ s, c < 128
theorem chars {ys : List AV} (h : ∀ y ∈ ys, ∃ c, y = AV.str [c] ∧ c < 128) : ∃ cs : List Nat, cs.length = ys.length ∧ (∀ c ∈ cs, c < 128) ∧ strs? ys = some ((cs.map fun c => [c]).map SX.S) := by
  induction ys with
  | nil => exact ⟨[], rfl, by simp, rfl⟩
  | cons y ys ih =>
    obtain ⟨c, rfl, hc⟩ := h _ (List.mem_cons_self ..)
    obtain ⟨cs, h1, h2, h3⟩ := ih fun y hy => h y (List.mem_cons_of_mem _ hy)
    refine ⟨c :: cs, by simp [h1], fun d hd => ?_, ?_⟩
    · rcases List.mem_cons.mp hd with e | e
      · rw [e]; exact hc
      · exact h2 d e
    · show (strs? ys).map (sOf [c] :: ·) = _
      rw [h3]; rfl
theorem joinL_one : ∀ cs : List Nat, TL.joinL [] (cs.map fun c => [c]) = cs
  | [] => rfl
  | [c] => rfl
  | c :: d :: cs => by
    show [c] ++ ([] ++ TL.joinL [] ((d :: cs).map fun c => [c])) = _
    rw [joinL_one (d :: cs)]; rfl
theorem join_one {h : AHeap} {ys : List AV} (hy : ∀ y ∈ ys, ∃ c, y = AV.str [c] ∧ c < 128) (hl : ys.length ≤ 20) : ∃ s, vJoin [] h [.lst ys] = some (.str s) ∧ s.length = ys.length ∧ ∀ c ∈ s, c < 128 := by
  obtain ⟨cs, h1, h2, h3⟩ := chars hy
  refine ⟨cs, ?_, h1, h2⟩
  show (match strs? ys with
      | some zs => if decide ((zs.map (fun (z : PySem.Str) => z.length)).sum + zs.length * 0 ≤ 16777216) = true then some (AV.str (Txt.join (sOf []) zs).cps.toList) else none
      | none => none) = _
  rw [h3]
  dsimp only
  have e : Txt.join (sOf []) ((cs.map fun c => [c]).map SX.S) = SX.S cs := by
    have := SX.join_S [] (cs.map fun c => [c])
    rw [joinL_one] at this
    exact this
  have hs : ((((cs.map fun c => [c]).map SX.S).map (·.length)).sum + ((cs.map fun c => [c]).map SX.S).length * 0) ≤ 16777216 := by
    have : (((cs.map fun c => [c]).map SX.S).map (·.length)).sum = cs.length := by
      clear e h3 h1 h2
      induction cs with
      | nil => rfl
      | cons c cs ih => simp only [List.map_cons, List.sum_cons, ih, List.length_cons]; show 1 + _ = _; omega
    rw [this]; omega
  rw [if_pos (decide_eq_true hs), e]
theorem cut_mem {α : Type} {l : List α} {lo hi : Option Int} : ∀ x ∈ AI.cutL l lo hi, x ∈ l := fun x hx => by
  unfold AI.cutL at hx
  exact List.mem_of_mem_drop (List.mem_of_mem_take hx)
theorem cut_len {α : Type} {l : List α} {lo hi : Option Int} : (AI.cutL l lo hi).length ≤ l.length := by
  unfold AI.cutL
  simp only [List.length_take, List.length_drop]
  omega
theorem iIntsLen (n : Nat) : (iInts 0 n).length = n := by simp [iInts]
theorem word_spec {h : AHeap} {n : Nat} (hh : HI e b h) (hn : n < b) : Ens (m__law_word [.ref n] h) fun v h' => Wd v ∧ HI e b h' ∧ h'.length = h.length := by
  refine en_def rfl ?_
  have sz2 : ∀ x y : AV, szOk [x, y] = true := fun _ _ => rfl
  simp only [en_bind, en_ok, en_bad, en_lift, en_var, en_c, en_bin, en_un, en_test, en_chain, en_andT, en_orT, en_notT, en_and, en_or, en_not, en_if, en_nil, en_cons, en_tup, en_list, en_pureL, en_newL, en_fn, en_call, en_callK, en_methS, en_oN, en_oS, en_sl, en_rng1, en_iter, en_lc, es_seq, es_skip, es_ret, es_retN, es_if, es_asg, es_par2, es_for, eg_name, eg_nil, eg_cons, eg_tup, eg_sub, vAdd_ii, vAdd_ss, vAdd_ll, vSub_ii, vMul_ii, vDiv_ii, vMod_ii, vLt_ii, vLe_ii, vGt_ii, vGe_ii, vEq_ii, vEq_ss, vNe_ii, vNe_ss, vIx_t, vIx_l, vIx_s, vIx_r, vLen_s, vLen_t, vLen_l, vLen_r, List.getElem?_cons_zero, List.getElem?_cons_succ, List.set_cons_zero, List.set_cons_succ, Option.some.injEq, AV.int.injEq, AV.bl.injEq, AV.str.injEq, AV.ref.injEq, AV.tup.injEq, AV.lst.injEq, AO.list.injEq, List.cons.injEq, exists_eq_left', exists_eq_left, exists_and_left, List.map_cons, List.map_nil, List.replicate, List.cons_append, List.nil_append, and_true, true_and, if_true, Nat.sub_self, ite_true, List.length_cons, List.length_nil, Nat.zero_add, Nat.reduceAdd, Nat.reduceSub, List.length_set, sz2]
  refine ⟨_, _, ⟨rfl, rfl⟩, _, _, rfl, rfl, ?_⟩
  refine (draw_spec hh hn (by decide) (by decide)).mono ?_
  rintro v h1 ⟨⟨r, rfl, r0, r1⟩, hh1, l1⟩
  have hr : AI.inR r = true := by unfold AI.inR; exact decide_eq_true (by omega)
  have hz : szOk (iInts 0 r.toNat) = true := by unfold szOk; rw [iIntsLen]; exact decide_eq_true (le_line (by unfold szM; omega))
  simp only [List.getElem?_cons_zero, List.getElem?_cons_succ, List.set_cons_zero, List.set_cons_succ, Option.some.injEq, AV.int.injEq, AV.bl.injEq, AV.str.injEq, AV.ref.injEq, AV.tup.injEq, AV.lst.injEq, AO.list.injEq, List.cons.injEq, exists_eq_left', exists_eq_left, exists_and_left, List.map_cons, List.map_nil, List.replicate, List.cons_append, List.nil_append, and_true, true_and, if_true, Nat.sub_self, ite_true, List.length_cons, List.length_nil, Nat.zero_add, Nat.reduceAdd, Nat.reduceSub, List.length_set, hr, hz]
  have wlen : ∀ (c : Nat) (l : List Nat), c ∈ l → c < 128 → c < 128 := fun _ _ _ h => h
  have abc : ∀ c ∈ ABC, c < 128 := by decide
  have odd : ∀ c ∈ ([65, 90, 48, 57, 95, 39, 45, 32, 44, 46, 60, 61, 10] : List Nat), c < 128 := by decide
  refine en_lcL (fun h' => HI e b h' ∧ h'.length = h.length) (fun y => ∃ c, y = AV.str [c] ∧ c < 128) ?_ ⟨hh1, l1⟩ ?_
  · rintro v - h2 ⟨hh2, l2⟩
    refine ⟨_, rfl, ?_⟩
    simp only [en_bind, en_ok, en_bad, en_lift, en_var, en_c, en_bin, en_un, en_test, en_chain, en_andT, en_orT, en_notT, en_and, en_or, en_not, en_if, en_nil, en_cons, en_tup, en_list, en_pureL, en_newL, en_fn, en_call, en_callK, en_methS, en_oN, en_oS, en_sl, en_rng1, en_iter, en_lc, es_seq, es_skip, es_ret, es_retN, es_if, es_asg, es_par2, es_for, eg_name, eg_nil, eg_cons, eg_tup, eg_sub, vAdd_ii, vAdd_ss, vAdd_ll, vSub_ii, vMul_ii, vDiv_ii, vMod_ii, vLt_ii, vLe_ii, vGt_ii, vGe_ii, vEq_ii, vEq_ss, vNe_ii, vNe_ss, vIx_t, vIx_l, vIx_s, vIx_r, vLen_s, vLen_t, vLen_l, vLen_r, List.getElem?_cons_zero, List.getElem?_cons_succ, List.set_cons_zero, List.set_cons_succ, Option.some.injEq, AV.int.injEq, AV.bl.injEq, AV.str.injEq, AV.ref.injEq, AV.tup.injEq, AV.lst.injEq, AO.list.injEq, List.cons.injEq, exists_eq_left', exists_eq_left, exists_and_left, List.map_cons, List.map_nil, List.replicate, List.cons_append, List.nil_append, and_true, true_and, if_true, Nat.sub_self, ite_true, List.length_cons, List.length_nil, Nat.zero_add, Nat.reduceAdd, Nat.reduceSub, List.length_set, wipeA]
    refine (draw_spec hh2 (by omega) (by decide) (by decide)).mono ?_
    rintro w h3 ⟨⟨q, rfl, q0, q1⟩, hh3, l3⟩
    obtain ⟨c, ec, mc⟩ := atI_nat' (l := ABC) q0 q1
    have s26 : decide (26 ≤ szM) = true := rfl
    simp only [vAdd_ii, vAdd_ss, vAdd_ll, vSub_ii, vMul_ii, vDiv_ii, vMod_ii, vLt_ii, vLe_ii, vGt_ii, vGe_ii, vEq_ii, vEq_ss, vNe_ii, vNe_ss, vIx_t, vIx_l, vIx_s, vIx_r, vLen_s, vLen_t, vLen_l, vLen_r, List.getElem?_cons_zero, List.getElem?_cons_succ, List.set_cons_zero, List.set_cons_succ, Option.some.injEq, AV.int.injEq, AV.bl.injEq, AV.str.injEq, AV.ref.injEq, AV.tup.injEq, AV.lst.injEq, AO.list.injEq, List.cons.injEq, exists_eq_left', exists_eq_left, exists_and_left, List.map_cons, List.map_nil, List.replicate, List.cons_append, List.nil_append, and_true, true_and, if_true, Nat.sub_self, ite_true, List.length_cons, List.length_nil, Nat.zero_add, Nat.reduceAdd, Nat.reduceSub, List.length_set, s26, ec, Option.map_some]
    exact ⟨abc c mc, hh3, by omega⟩
  · rintro ys h2 hy hY ⟨hh2, l2⟩
    rw [iIntsLen] at hy
    obtain ⟨s, js, sl, sc⟩ := join_one (h := h2) hY (by omega)
    have hs : s.length ≤ 8 := by omega
    simp only [js, List.getElem?_cons_zero, List.getElem?_cons_succ, List.set_cons_zero, List.set_cons_succ, Option.some.injEq, AV.int.injEq, AV.bl.injEq, AV.str.injEq, AV.ref.injEq, AV.tup.injEq, AV.lst.injEq, AO.list.injEq, List.cons.injEq, exists_eq_left', exists_eq_left, exists_and_left, List.map_cons, List.map_nil, List.replicate, List.cons_append, List.nil_append, and_true, true_and, if_true, Nat.sub_self, ite_true, List.length_cons, List.length_nil, Nat.zero_add, Nat.reduceAdd, Nat.reduceSub, List.length_set, vAdd_ii, vAdd_ss, vAdd_ll, vSub_ii, vMul_ii, vDiv_ii, vMod_ii, vLt_ii, vLe_ii, vGt_ii, vGe_ii, vEq_ii, vEq_ss, vNe_ii, vNe_ss, vIx_t, vIx_l, vIx_s, vIx_r, vLen_s, vLen_t, vLen_l, vLen_r, szK (n := s.length) (by omega)]
    refine (draw_spec hh2 (by omega) (by omega) (by omega)).mono ?_
    rintro w h3 ⟨⟨at_, rfl, a0, a1⟩, hh3, l3⟩
    refine (draw_spec hh3 (by omega) (by decide) (by decide)).mono ?_
    rintro w h4 ⟨⟨q, rfl, q0, q1⟩, hh4, l4⟩
    simp only [vAdd_ii, vAdd_ss, vAdd_ll, vSub_ii, vMul_ii, vDiv_ii, vMod_ii, vLt_ii, vLe_ii, vGt_ii, vGe_ii, vEq_ii, vEq_ss, vNe_ii, vNe_ss, vIx_t, vIx_l, vIx_s, vIx_r, vLen_s, vLen_t, vLen_l, vLen_r, List.getElem?_cons_zero, List.getElem?_cons_succ, List.set_cons_zero, List.set_cons_succ, Option.some.injEq, AV.int.injEq, AV.bl.injEq, AV.str.injEq, AV.ref.injEq, AV.tup.injEq, AV.lst.injEq, AO.list.injEq, List.cons.injEq, exists_eq_left', exists_eq_left, exists_and_left, List.map_cons, List.map_nil, List.replicate, List.cons_append, List.nil_append, and_true, true_and, if_true, Nat.sub_self, ite_true, List.length_cons, List.length_nil, Nat.zero_add, Nat.reduceAdd, Nat.reduceSub, List.length_set]
    have tail : ∀ (s : List Nat) (h5 : AHeap), HI e b h5 → h5.length = h.length → s.length ≤ 25 → (∀ c ∈ s, c < 128) → Ens (m__law_draw [AV.ref n, AV.int 4] h5) fun v h6 => ∃ w, vIx h6 (AV.lst [AV.str [], AV.str [], AV.str [39], AV.str [39, 39]]) v = some w ∧ ∃ z, vAdd h6 (AV.str s) w = some z ∧ h6.length ≤ h.length ∧ Wd z ∧ HI e b h6 ∧ h6.length = h.length := by
      intro s h5 hh5 l5 hs5 hc5
      refine (draw_spec hh5 (by omega) (by decide) (by decide)).mono ?_
      rintro w h6 ⟨⟨q, rfl, q0, q1⟩, hh6, l6⟩
      obtain ⟨v, ev, mv⟩ := atI_nat' (l := [AV.str [], AV.str [], AV.str [39], AV.str [39, 39]]) q0 q1
      refine ⟨v, ev, ?_⟩
      obtain ⟨t, rfl, ht, hc⟩ : ∃ t, v = AV.str t ∧ t.length ≤ 2 ∧ ∀ c ∈ t, c < 128 := by
        simp only [List.mem_cons, List.not_mem_nil, or_false] at mv
        rcases mv with rfl | rfl | rfl | rfl
        · exact ⟨_, rfl, by decide, by decide⟩
        · exact ⟨_, rfl, by decide, by decide⟩
        · exact ⟨_, rfl, by decide, by decide⟩
        · exact ⟨_, rfl, by decide, by decide⟩
      rw [vAdd_ss, if_pos (szK (by omega))]
      refine ⟨_, rfl, by omega, ⟨_, rfl, by rw [List.length_append]; omega, fun c hm => ?_⟩, hh6, by omega⟩
      rcases List.mem_append.mp hm with z | z
      · exact hc5 c z
      · exact hc c z
    have vsl : ∀ {h : AHeap} {s : List Nat} {lo hi : Option Int}, s.length ≤ 1000 → vSl h (AV.str s) lo hi = some (AV.str (AI.cutL s lo hi)) := fun {h s lo hi} z => by
      show (if decide (s.length ≤ szM) = true then some (AV.str (AI.cutL s lo hi)) else none) = _
      rw [if_pos (szK z)]
    by_cases hq : q = 0
    · rw [if_pos (decide_eq_true hq), vsl (by omega)]
      refine ⟨_, rfl, _, rfl, ?_⟩
      refine (draw_spec hh4 (by omega) (by decide) (by decide)).mono ?_
      rintro w h5 ⟨⟨q2, rfl, q20, q21⟩, hh5, l5⟩
      obtain ⟨c, ec, mc⟩ := atI_nat' (l := ([65, 90, 48, 57, 95, 39, 45, 32, 44, 46, 60, 61, 10] : List Nat)) q20 q21
      have c1 : (AI.cutL s none (some at_)).length ≤ 8 := Nat.le_trans cut_len hs
      refine ⟨.str [c], ?_, ?_⟩
      · rw [vIx_s, if_pos (by rfl), ec]; rfl
      refine ⟨_, by rw [vAdd_ss, if_pos (szK (by simp; omega))], ?_⟩
      refine (draw_spec hh5 (by omega) (by decide) (by decide)).mono ?_
      rintro w h6 ⟨⟨q3, rfl, q30, q31⟩, hh6, l6⟩
      refine ⟨_, vAdd_ii, _, rfl, ?_⟩
      rw [vsl (by omega)]
      have c2 : (AI.cutL s (some (at_ + q3)) none).length ≤ 8 := Nat.le_trans cut_len hs
      refine ⟨_, rfl, _, by rw [vAdd_ss, if_pos (szK (by simp; omega))], rfl, ?_⟩
      refine tail _ h6 hh6 (by omega) (by simp; omega) fun d hd => ?_
      simp only [List.mem_append, List.mem_singleton] at hd
      rcases hd with (z | rfl) | z
      · exact sc d (cut_mem d z)
      · exact odd d mc
      · exact sc d (cut_mem d z)
    · rw [if_neg (by simpa using hq)]
      exact ⟨rfl, tail s h4 hh4 (by omega) (by omega) sc⟩
/-! values -/
abbrev C16 : List AV := [.non, .bl true, .bl false, .int 0, .int 1, .int (-1), .int (10 ^ 40), .str [], .tup [], .lst [], .dct [] [], .tup [.str [120]], .lst [.str [120]], .dct [.inr (sOf [120])] [.str [121]], .tup [.str [120], .str [60], .str [121]], .lst [.lst []]]
/-- a part of what is drawn -/
def Pt (v : AV) : Prop := v ∈ C16 ∨ Wd v
theorem value_spec {h : AHeap} {n : Nat} (hh : HI e b h) (hn : n < b) : Ens (m__law_value [.ref n] h) fun v h' => Pt v ∧ HI e b h' ∧ h'.length = h.length := by
  refine en_def rfl ?_
  have p1 : vPow h (.int 10) (.int 40) = some (.int (10 ^ 40)) := by kernel_rfl
  have n1 : vNeg h (.int 1) = some (.int (-1)) := rfl
  have d1 : aDct1 (aC (.str [120])) (aC (.str [121])) [some (.ref n), none] h = .ok (.dct [.inr (sOf [120])] [.str [121]]) h := rfl
  simp only [en_bind, en_ok, en_bad, en_lift, en_var, en_c, en_bin, en_un, en_test, en_chain, en_andT, en_orT, en_notT, en_and, en_or, en_not, en_if, en_nil, en_cons, en_tup, en_list, en_pureL, en_newL, en_fn, en_call, en_callK, en_methS, en_oN, en_oS, en_sl, en_rng1, en_iter, en_lc, es_seq, es_skip, es_ret, es_retN, es_if, es_asg, es_par2, es_for, eg_name, eg_nil, eg_cons, eg_tup, eg_sub, vAdd_ii, vAdd_ss, vAdd_ll, vSub_ii, vMul_ii, vDiv_ii, vMod_ii, vLt_ii, vLe_ii, vGt_ii, vGe_ii, vEq_ii, vEq_ss, vNe_ii, vNe_ss, vIx_t, vIx_l, vIx_s, vIx_r, vLen_s, vLen_t, vLen_l, vLen_r, List.getElem?_cons_zero, List.getElem?_cons_succ, List.set_cons_zero, List.set_cons_succ, Option.some.injEq, AV.int.injEq, AV.bl.injEq, AV.str.injEq, AV.ref.injEq, AV.tup.injEq, AV.lst.injEq, AO.list.injEq, List.cons.injEq, exists_eq_left', exists_eq_left, exists_and_left, List.map_cons, List.map_nil, List.replicate, List.cons_append, List.nil_append, and_true, true_and, if_true, Nat.sub_self, ite_true, List.length_cons, List.length_nil, Nat.zero_add, Nat.reduceAdd, Nat.reduceSub, List.length_set, p1, n1, d1]
  refine ⟨rfl, rfl, rfl, rfl, rfl, rfl, rfl, rfl, ?_⟩
  refine (word_spec hh hn).mono ?_
  rintro v h1 ⟨wd, hh1, l1⟩
  refine ⟨rfl, _, rfl, ?_⟩
  refine (draw_spec hh1 (by omega) (by decide) (by decide)).mono ?_
  rintro w h2 ⟨⟨q, rfl, q0, q1⟩, hh2, l2⟩
  obtain ⟨x, ex, mx⟩ := atI_nat' (l := C16 ++ [v]) q0 (by simpa using q1)
  refine ⟨x, ex, by omega, ?_, hh2, by omega⟩
  rcases List.mem_append.mp mx with z | z
  · exact .inl z
  · rw [List.mem_singleton.mp z]; exact .inr wd
/-! triples -/
/-- how a triple's parts stand: words, one of them another part -/
def Mx (l : List AV) : Prop := l.length ≤ 20 ∧ ∃ w, Pt w ∧ ∀ x ∈ l, Wd x ∨ x = w
/-- what is asked about -/
def It (v : AV) : Prop := Pt v ∨ (∃ l, v = .tup l ∧ Mx l) ∨ ∃ l, v = .lst l ∧ l.length ≤ 20 ∧ ∀ x ∈ l, Wd x
theorem triple_spec {h : AHeap} {n : Nat} (hh : HI [] b h) (hn : n < b) : Ens (m__law_triple [.ref n] h) fun v h' => It v ∧ HI [] b h' ∧ h'.length = h.length := by
  refine en_defG rfl ?_
  have sz3 : ∀ x y z : AV, szOk [x, y, z] = true := fun _ _ _ => rfl
  have sz6 : ∀ x y z a b c : AV, szOk [x, y, z, a, b, c] = true := fun _ _ _ _ _ _ => rfl
  have s13 : szOk [AV.str [60], AV.str [60, 61], AV.str [61], AV.str [60], AV.str [60, 61], AV.str [61], AV.str [62], AV.str [61, 61], AV.str [], AV.str [61, 60], AV.str [32, 60], AV.str [60, 60], AV.str [60, 61, 61]] = true := rfl
  let SG : List AV := [AV.str [60], AV.str [60, 61], AV.str [61], AV.str [60], AV.str [60, 61], AV.str [61], AV.str [62], AV.str [61, 61], AV.str [], AV.str [61, 60], AV.str [32, 60], AV.str [60, 60], AV.str [60, 61, 61]]
  have hSG : ∀ x ∈ SG, Wd x := by
    intro x hx
    simp only [SG, List.mem_cons, List.not_mem_nil, or_false] at hx
    rcases hx with rfl | rfl | rfl | rfl | rfl | rfl | rfl | rfl | rfl | rfl | rfl | rfl | rfl <;> exact ⟨_, rfl, by decide, by decide⟩
  refine es_cut (fun ρ1 h1 => ρ1 = [some (.ref n), some (.lst SG), none, none, none, none] ∧ h1 = h) ?_ ?_
  · simp only [en_bind, en_ok, en_bad, en_lift, en_var, en_c, en_bin, en_un, en_test, en_chain, en_andT, en_orT, en_notT, en_and, en_or, en_not, en_if, en_nil, en_cons, en_tup, en_list, en_pureL, en_newL, en_fn, en_call, en_callK, en_methS, en_oN, en_oS, en_sl, en_rng1, en_iter, en_lc, es_seq, es_skip, es_ret, es_retN, es_if, es_asg, es_par2, es_for, eg_name, eg_nil, eg_cons, eg_tup, eg_sub, vAdd_ii, vAdd_ss, vAdd_ll, vSub_ii, vMul_ii, vDiv_ii, vMod_ii, vLt_ii, vLe_ii, vGt_ii, vGe_ii, vEq_ii, vEq_ss, vNe_ii, vNe_ss, vIx_t, vIx_l, vIx_s, vIx_r, vLen_s, vLen_t, vLen_l, vLen_r, List.getElem?_cons_zero, List.getElem?_cons_succ, List.set_cons_zero, List.set_cons_succ, Option.some.injEq, AV.int.injEq, AV.bl.injEq, AV.str.injEq, AV.ref.injEq, AV.tup.injEq, AV.lst.injEq, AO.list.injEq, List.cons.injEq, exists_eq_left', exists_eq_left, exists_and_left, List.map_cons, List.map_nil, List.replicate, List.cons_append, List.nil_append, and_true, true_and, if_true, Nat.sub_self, ite_true, List.length_cons, List.length_nil, Nat.zero_add, Nat.reduceAdd, Nat.reduceSub, List.length_set, s13]
    first | exact ⟨rfl, rfl⟩ | simp [SG]
  rintro ρ1 h1 ⟨rfl, rfl⟩
  refine es_cut (fun ρ1 h2 => ∃ NM : List AV, ρ1 = [some (.ref n), some (.lst SG), some (.lst NM), none, none, none] ∧ NM.length = 6 ∧ (∀ x ∈ NM, Wd x) ∧ HI [] b h2 ∧ h2.length = h1.length) ?_ ?_
  · simp only [en_bind, en_ok, en_bad, en_lift, en_var, en_c, en_bin, en_un, en_test, en_chain, en_andT, en_orT, en_notT, en_and, en_or, en_not, en_if, en_nil, en_cons, en_tup, en_list, en_pureL, en_newL, en_fn, en_call, en_callK, en_methS, en_oN, en_oS, en_sl, en_rng1, en_iter, en_lc, es_seq, es_skip, es_ret, es_retN, es_if, es_asg, es_par2, es_for, eg_name, eg_nil, eg_cons, eg_tup, eg_sub, vAdd_ii, vAdd_ss, vAdd_ll, vSub_ii, vMul_ii, vDiv_ii, vMod_ii, vLt_ii, vLe_ii, vGt_ii, vGe_ii, vEq_ii, vEq_ss, vNe_ii, vNe_ss, vIx_t, vIx_l, vIx_s, vIx_r, vLen_s, vLen_t, vLen_l, vLen_r, List.getElem?_cons_zero, List.getElem?_cons_succ, List.set_cons_zero, List.set_cons_succ, Option.some.injEq, AV.int.injEq, AV.bl.injEq, AV.str.injEq, AV.ref.injEq, AV.tup.injEq, AV.lst.injEq, AO.list.injEq, List.cons.injEq, exists_eq_left', exists_eq_left, exists_and_left, List.map_cons, List.map_nil, List.replicate, List.cons_append, List.nil_append, and_true, true_and, if_true, Nat.sub_self, ite_true, List.length_cons, List.length_nil, Nat.zero_add, Nat.reduceAdd, Nat.reduceSub, List.length_set, sz6]
    refine (word_spec hh hn).mono ?_
    rintro v h2 ⟨wv, hh2, l2⟩
    refine (word_spec hh2 (by omega)).mono ?_
    rintro w h3 ⟨ww, hh3, l3⟩
    refine ⟨fun x hx => ?_, hh3, by omega⟩
    simp only [List.mem_cons, List.not_mem_nil, or_false] at hx
    rcases hx with rfl | rfl | rfl | rfl | rfl | rfl
    · exact ⟨_, rfl, by decide, by decide⟩
    · exact ⟨_, rfl, by decide, by decide⟩
    · exact ⟨_, rfl, by decide, by decide⟩
    · exact ⟨_, rfl, by decide, by decide⟩
    · exact wv
    · exact ww
  rintro ρ1 h2 ⟨NM, rfl, lN, wN, hh2, l2⟩
  have eb : h1.length = b := by have := hh.len; simpa using this
  refine es_cut (fun ρ1 h3 => ∃ p0 p1 p2, ρ1 = [some (.ref n), some (.lst SG), some (.lst NM), some (.ref b), none, none] ∧ HI [.list [p0, p1, p2]] b h3 ∧ Wd p0 ∧ Wd p1 ∧ Wd p2) ?_ ?_
  · simp only [en_bind, en_ok, en_bad, en_lift, en_var, en_c, en_bin, en_un, en_test, en_chain, en_andT, en_orT, en_notT, en_and, en_or, en_not, en_if, en_nil, en_cons, en_tup, en_list, en_pureL, en_newL, en_fn, en_call, en_callK, en_methS, en_oN, en_oS, en_sl, en_rng1, en_iter, en_lc, es_seq, es_skip, es_ret, es_retN, es_if, es_asg, es_par2, es_for, eg_name, eg_nil, eg_cons, eg_tup, eg_sub, vAdd_ii, vAdd_ss, vAdd_ll, vSub_ii, vMul_ii, vDiv_ii, vMod_ii, vLt_ii, vLe_ii, vGt_ii, vGe_ii, vEq_ii, vEq_ss, vNe_ii, vNe_ss, vIx_t, vIx_l, vIx_s, vIx_r, vLen_s, vLen_t, vLen_l, vLen_r, List.getElem?_cons_zero, List.getElem?_cons_succ, List.set_cons_zero, List.set_cons_succ, Option.some.injEq, AV.int.injEq, AV.bl.injEq, AV.str.injEq, AV.ref.injEq, AV.tup.injEq, AV.lst.injEq, AO.list.injEq, List.cons.injEq, exists_eq_left', exists_eq_left, exists_and_left, List.map_cons, List.map_nil, List.replicate, List.cons_append, List.nil_append, and_true, true_and, if_true, Nat.sub_self, ite_true, List.length_cons, List.length_nil, Nat.zero_add, Nat.reduceAdd, Nat.reduceSub, List.length_set, sz3]
    refine (draw_spec hh2 (by omega) (by decide) (by decide)).mono ?_
    rintro w h3 ⟨⟨q, rfl, q0, q1⟩, hh3, l3⟩
    obtain ⟨a, ea, ma⟩ := atI_nat' (l := NM) q0 (by omega)
    refine ⟨a, ea, ?_⟩
    refine (draw_spec hh3 (by omega) (by decide) (by decide)).mono ?_
    rintro w h4 ⟨⟨q2, rfl, q20, q21⟩, hh4, l4⟩
    obtain ⟨b', eb', mb⟩ := atI_nat' (l := SG) q20 (by simpa [SG] using q21)
    refine ⟨b', eb', ?_⟩
    refine (draw_spec hh4 (by omega) (by decide) (by decide)).mono ?_
    rintro w h5 ⟨⟨q3, rfl, q30, q31⟩, hh5, l5⟩
    obtain ⟨c, ec, mc⟩ := atI_nat' (l := NM) q30 (by omega)
    refine ⟨c, ec, ?_⟩
    exact ⟨by omega, a, b', c, hh5.push _, wN a ma, hSG b' mb, wN c mc⟩
  rintro ρ1 h3 ⟨p0, p1, p2, rfl, hh3, w0, w1, w2⟩
  refine es_cut (fun ρ1 h4 => ∃ way at_ : Int, ρ1 = [some (.ref n), some (.lst SG), some (.lst NM), some (.ref b), some (.int way), some (.int at_)] ∧ HI [.list [p0, p1, p2]] b h4 ∧ 0 ≤ at_ ∧ at_ < 3) ?_ ?_
  · simp only [en_bind, en_ok, en_bad, en_lift, en_var, en_c, en_bin, en_un, en_test, en_chain, en_andT, en_orT, en_notT, en_and, en_or, en_not, en_if, en_nil, en_cons, en_tup, en_list, en_pureL, en_newL, en_fn, en_call, en_callK, en_methS, en_oN, en_oS, en_sl, en_rng1, en_iter, en_lc, es_seq, es_skip, es_ret, es_retN, es_if, es_asg, es_par2, es_for, eg_name, eg_nil, eg_cons, eg_tup, eg_sub, vAdd_ii, vAdd_ss, vAdd_ll, vSub_ii, vMul_ii, vDiv_ii, vMod_ii, vLt_ii, vLe_ii, vGt_ii, vGe_ii, vEq_ii, vEq_ss, vNe_ii, vNe_ss, vIx_t, vIx_l, vIx_s, vIx_r, vLen_s, vLen_t, vLen_l, vLen_r, List.getElem?_cons_zero, List.getElem?_cons_succ, List.set_cons_zero, List.set_cons_succ, Option.some.injEq, AV.int.injEq, AV.bl.injEq, AV.str.injEq, AV.ref.injEq, AV.tup.injEq, AV.lst.injEq, AO.list.injEq, List.cons.injEq, exists_eq_left', exists_eq_left, exists_and_left, List.map_cons, List.map_nil, List.replicate, List.cons_append, List.nil_append, and_true, true_and, if_true, Nat.sub_self, ite_true, List.length_cons, List.length_nil, Nat.zero_add, Nat.reduceAdd, Nat.reduceSub, List.length_set]
    refine (draw_spec hh3 (by omega) (by decide) (by decide)).mono ?_
    rintro w h4 ⟨⟨q, rfl, q0, q1⟩, hh4, l4⟩
    refine (draw_spec hh4 (by omega) (by decide) (by decide)).mono ?_
    rintro w h5 ⟨⟨q2, rfl, q20, q21⟩, hh5, l5⟩
    exact ⟨_, _, ⟨rfl, rfl⟩, _, _, ⟨rfl, rfl⟩, hh5, q20, q21⟩
  rintro ρ1 h4 ⟨way, at_, rfl, hh4, a0, a3⟩
  have hp3 : ∀ x ∈ [p0, p1, p2], Wd x := by
    intro x hx
    simp only [List.mem_cons, List.not_mem_nil, or_false] at hx
    rcases hx with rfl | rfl | rfl <;> assumption
  refine es_cut (fun ρ1 h5 => ∃ l, ρ1 = [some (.ref n), some (.lst SG), some (.lst NM), some (.ref b), some (.int way), some (.int at_)] ∧ HI [.list l] b h5 ∧ l.length = 3 ∧ (way = 0 → Mx l) ∧ (way ≠ 0 → ∀ x ∈ l, Wd x)) ?_ ?_
  · simp only [en_bind, en_ok, en_bad, en_lift, en_var, en_c, en_bin, en_un, en_test, en_chain, en_andT, en_orT, en_notT, en_and, en_or, en_not, en_if, en_nil, en_cons, en_tup, en_list, en_pureL, en_newL, en_fn, en_call, en_callK, en_methS, en_oN, en_oS, en_sl, en_rng1, en_iter, en_lc, es_seq, es_skip, es_ret, es_retN, es_if, es_asg, es_par2, es_for, eg_name, eg_nil, eg_cons, eg_tup, eg_sub, vAdd_ii, vAdd_ss, vAdd_ll, vSub_ii, vMul_ii, vDiv_ii, vMod_ii, vLt_ii, vLe_ii, vGt_ii, vGe_ii, vEq_ii, vEq_ss, vNe_ii, vNe_ss, vIx_t, vIx_l, vIx_s, vIx_r, vLen_s, vLen_t, vLen_l, vLen_r, List.getElem?_cons_zero, List.getElem?_cons_succ, List.set_cons_zero, List.set_cons_succ, Option.some.injEq, AV.int.injEq, AV.bl.injEq, AV.str.injEq, AV.ref.injEq, AV.tup.injEq, AV.lst.injEq, AO.list.injEq, List.cons.injEq, exists_eq_left', exists_eq_left, exists_and_left, List.map_cons, List.map_nil, List.replicate, List.cons_append, List.nil_append, and_true, true_and, if_true, Nat.sub_self, ite_true, List.length_cons, List.length_nil, Nat.zero_add, Nat.reduceAdd, Nat.reduceSub, List.length_set]
    by_cases hw : way = 0
    · rw [if_pos (by simpa using hw)]
      refine (value_spec hh4 hn).mono ?_
      rintro v h5 ⟨pv, hh5, l5⟩
      obtain ⟨j, ej, hj⟩ : ∃ j, ixN 3 at_ = some j ∧ j < 3 := by
        refine ⟨at_.toNat, ?_, by omega⟩
        unfold ixN
        rw [if_pos a0, if_pos (by omega)]
      refine ⟨_, hh5.last, j, ej, _, hh5.edit, by simp, fun _ => ⟨by simp, v, pv, fun x hx => ?_⟩, fun z => absurd hw z⟩
      rcases List.mem_or_eq_of_mem_set hx with z | z
      · exact .inl (hp3 x z)
      · exact .inr z
    · rw [if_neg (by simpa using hw)]
      exact ⟨_, hh4, rfl, fun z => absurd z hw, fun _ => hp3⟩
  rintro ρ1 h5 ⟨l, rfl, hh5, l3', m0, m1⟩
  have seqr : ∀ {h : AHeap} {l : List AV}, HI [.list l] b h → seqL h (.ref b) = some l := fun {h l} z => by
    unfold seqL
    dsimp only
    rw [z.last]
  have slr : ∀ {h : AHeap} {l : List AV} {lo hi : Option Int}, HI [.list l] b h → vSl h (.ref b) lo hi = some (.lst (AI.cutL l lo hi)) := fun {h l lo hi} z => by
    show (match seqL h (.ref b) with | some l => some (AV.lst (AI.cutL l lo hi)) | none => none) = _
    rw [seqr z]
  have d11 : way = 1 → ¬ way = 0 := by omega
  refine es_cut (fun ρ1 h6 => ∃ p lx l, ρ1 = [some (.ref n), some (.lst SG), some (.lst NM), some p, some (.int way), some (.int at_)] ∧ HI [.list lx] b h6 ∧ ((p = .ref b ∧ l = lx) ∨ p = .lst l) ∧ l.length ≤ 6 ∧ (way = 0 → Mx l) ∧ (way ≠ 0 → ∀ x ∈ l, Wd x)) ?_ ?_
  · simp only [en_bind, en_ok, en_bad, en_lift, en_var, en_c, en_bin, en_un, en_test, en_chain, en_andT, en_orT, en_notT, en_and, en_or, en_not, en_if, en_nil, en_cons, en_tup, en_list, en_pureL, en_newL, en_fn, en_call, en_callK, en_methS, en_oN, en_oS, en_sl, en_rng1, en_iter, en_lc, es_seq, es_skip, es_ret, es_retN, es_if, es_asg, es_par2, es_for, eg_name, eg_nil, eg_cons, eg_tup, eg_sub, vAdd_ii, vAdd_ss, vAdd_ll, vSub_ii, vMul_ii, vDiv_ii, vMod_ii, vLt_ii, vLe_ii, vGt_ii, vGe_ii, vEq_ii, vEq_ss, vNe_ii, vNe_ss, vIx_t, vIx_l, vIx_s, vIx_r, vLen_s, vLen_t, vLen_l, vLen_r, List.getElem?_cons_zero, List.getElem?_cons_succ, List.set_cons_zero, List.set_cons_succ, Option.some.injEq, AV.int.injEq, AV.bl.injEq, AV.str.injEq, AV.ref.injEq, AV.tup.injEq, AV.lst.injEq, AO.list.injEq, List.cons.injEq, exists_eq_left', exists_eq_left, exists_and_left, List.map_cons, List.map_nil, List.replicate, List.cons_append, List.nil_append, and_true, true_and, if_true, Nat.sub_self, ite_true, List.length_cons, List.length_nil, Nat.zero_add, Nat.reduceAdd, Nat.reduceSub, List.length_set, slr hh5]
    by_cases hw : way = 1
    · rw [if_pos (by simpa using hw)]
      have c1 : (AI.cutL l none (some at_)).length ≤ 3 := by rw [← l3']; exact cut_len
      have c2 : (AI.cutL l (some (at_ + 1)) none).length ≤ 3 := by rw [← l3']; exact cut_len
      refine ⟨_, if_pos (szK (by omega)), _, hh5, _, .inr rfl, by simp; omega, fun z => absurd z (d11 hw), fun z x hx => ?_⟩
      rcases List.mem_append.mp hx with y | y
      · exact m1 z x (cut_mem x y)
      · exact m1 z x (cut_mem x y)
    · rw [if_neg (by simpa using hw)]
      exact ⟨_, hh5, _, .inl rfl, by omega, m0, m1⟩
  rintro ρ1 h6 ⟨p, lx, m, rfl, hh6, hp, lm, n0, n1⟩
  have slp : ∀ {h : AHeap} {lo hi : Option Int}, HI [.list lx] b h → vSl h p lo hi = some (.lst (AI.cutL m lo hi)) := fun {h lo hi} z => by
    rcases hp with ⟨rfl, rfl⟩ | rfl
    · exact slr z
    · rfl
  refine es_cut (fun ρ1 h7 => ∃ p lx l, ρ1 = [some (.ref n), some (.lst SG), some (.lst NM), some p, some (.int way), some (.int at_)] ∧ HI [.list lx] b h7 ∧ ((p = .ref b ∧ l = lx) ∨ p = .lst l) ∧ Mx l ∧ (way = 3 → ∀ x ∈ l, Wd x)) ?_ ?_
  · simp only [en_bind, en_ok, en_bad, en_lift, en_var, en_c, en_bin, en_un, en_test, en_chain, en_andT, en_orT, en_notT, en_and, en_or, en_not, en_if, en_nil, en_cons, en_tup, en_list, en_pureL, en_newL, en_fn, en_call, en_callK, en_methS, en_oN, en_oS, en_sl, en_rng1, en_iter, en_lc, es_seq, es_skip, es_ret, es_retN, es_if, es_asg, es_par2, es_for, eg_name, eg_nil, eg_cons, eg_tup, eg_sub, vAdd_ii, vAdd_ss, vAdd_ll, vSub_ii, vMul_ii, vDiv_ii, vMod_ii, vLt_ii, vLe_ii, vGt_ii, vGe_ii, vEq_ii, vEq_ss, vNe_ii, vNe_ss, vIx_t, vIx_l, vIx_s, vIx_r, vLen_s, vLen_t, vLen_l, vLen_r, List.getElem?_cons_zero, List.getElem?_cons_succ, List.set_cons_zero, List.set_cons_succ, Option.some.injEq, AV.int.injEq, AV.bl.injEq, AV.str.injEq, AV.ref.injEq, AV.tup.injEq, AV.lst.injEq, AO.list.injEq, List.cons.injEq, exists_eq_left', exists_eq_left, exists_and_left, List.map_cons, List.map_nil, List.replicate, List.cons_append, List.nil_append, and_true, true_and, if_true, Nat.sub_self, ite_true, List.length_cons, List.length_nil, Nat.zero_add, Nat.reduceAdd, Nat.reduceSub, List.length_set]
    by_cases hw : way = 2
    · rw [if_pos (by simpa using hw)]
      refine ⟨_, slp hh6, ?_⟩
      refine (value_spec hh6 hn).mono ?_
      rintro v h7 ⟨pv, hh7, l7⟩
      have c1 : (AI.cutL m none (some at_)).length ≤ 6 := Nat.le_trans cut_len lm
      have c2 : (AI.cutL m (some at_) none).length ≤ 6 := Nat.le_trans cut_len lm
      refine ⟨rfl, _, by rw [vAdd_ll, if_pos (szK (by simp; omega))], _, slp hh7, _, by rw [vAdd_ll, if_pos (szK (by simp; omega))], _, hh7, _, .inr rfl, ⟨by simp; omega, v, pv, fun x hx => ?_⟩, fun z => by omega⟩
      have wm := n1 (by omega)
      simp only [List.mem_append, List.mem_singleton] at hx
      rcases hx with (z | z) | z
      · exact .inl (wm x (cut_mem x z))
      · exact .inr z
      · exact .inl (wm x (cut_mem x z))
    · rw [if_neg (by simpa using hw)]
      have mm : Mx m := by
        by_cases z : way = 0
        · exact n0 z
        · exact ⟨by omega, .str [], .inl (by simp), fun x hx => .inl (n1 z x hx)⟩
      rcases hp with ⟨rfl, rfl⟩ | rfl
      · exact ⟨_, hh6, _, .inl ⟨rfl, rfl⟩, mm, fun z => n1 (by omega)⟩
      · exact ⟨_, hh6, _, .inr rfl, mm, fun z => n1 (by omega)⟩
  rintro ρ1 h7 ⟨p, lx, m, rfl, hh7, hp, mm, n3⟩
  simp only [en_bind, en_ok, en_bad, en_lift, en_var, en_c, en_bin, en_un, en_test, en_chain, en_andT, en_orT, en_notT, en_and, en_or, en_not, en_if, en_nil, en_cons, en_tup, en_list, en_pureL, en_newL, en_fn, en_call, en_callK, en_methS, en_oN, en_oS, en_sl, en_rng1, en_iter, en_lc, es_seq, es_skip, es_ret, es_retN, es_if, es_asg, es_par2, es_for, eg_name, eg_nil, eg_cons, eg_tup, eg_sub, vAdd_ii, vAdd_ss, vAdd_ll, vSub_ii, vMul_ii, vDiv_ii, vMod_ii, vLt_ii, vLe_ii, vGt_ii, vGe_ii, vEq_ii, vEq_ss, vNe_ii, vNe_ss, vIx_t, vIx_l, vIx_s, vIx_r, vLen_s, vLen_t, vLen_l, vLen_r, List.getElem?_cons_zero, List.getElem?_cons_succ, List.set_cons_zero, List.set_cons_succ, Option.some.injEq, AV.int.injEq, AV.bl.injEq, AV.str.injEq, AV.ref.injEq, AV.tup.injEq, AV.lst.injEq, AO.list.injEq, List.cons.injEq, exists_eq_left', exists_eq_left, exists_and_left, List.map_cons, List.map_nil, List.replicate, List.cons_append, List.nil_append, and_true, true_and, if_true, Nat.sub_self, ite_true, List.length_cons, List.length_nil, Nat.zero_add, Nat.reduceAdd, Nat.reduceSub, List.length_set]
  have hl7 : h7.length = b + 1 := hh7.len
  have cw : ∀ v, Wd v → v.closed b = true := by rintro v ⟨s, rfl, _⟩; rfl
  have cp : ∀ v, Pt v → v.closed b = true := by
    rintro v (z | z)
    · simp only [C16, List.mem_cons, List.not_mem_nil, or_false] at z
      rcases z with rfl | rfl | rfl | rfl | rfl | rfl | rfl | rfl | rfl | rfl | rfl | rfl | rfl | rfl | rfl | rfl <;> rfl
    · exact cw v z
  have cl_ : ∀ l : List AV, (∀ x ∈ l, x.closed b = true) → AV.closeds b l = true := fun l => by
    induction l with
    | nil => intro _; rfl
    | cons x l ih =>
      intro z
      show (AV.closed b x && AV.closeds b l) = true
      rw [z x (List.mem_cons_self ..), ih fun y hy => z y (List.mem_cons_of_mem _ hy)]
      rfl
  have cm : AV.closeds b m = true := by
    obtain ⟨_, w, pw, hx⟩ := mm
    refine cl_ m fun x hx' => ?_
    rcases hx x hx' with z | rfl
    · exact cw x z
    · exact cp _ pw
  have ct : (h7.take b).all (AO.closed b) = true := by
    obtain ⟨hq, rfl, rfl, q⟩ := hh7
    rw [List.take_left]
    refine List.all_eq_true.mpr fun o ho => ?_
    obtain ⟨a, d, t, rfl, _⟩ := q o ho
    rfl
  have fin : ∀ {v v' : AV}, convV h7 b v = some v' → It v' → Ens (gcRes h1.length (.ok v h7)) fun v h' => It v ∧ HI [] b h' ∧ h'.length = h1.length := fun {v v'} e i => by
    rw [eb]
    unfold gcRes
    dsimp only
    rw [if_neg (by omega), e]
    dsimp only
    rw [if_pos ct]
    exact ⟨i, hh7.pop, by simp; omega⟩
  have tl : ∀ {v : AV}, v.closed b = true → (∀ n, v ≠ .ref n) → convV h7 b v = some v := fun {v} z hr => by
    unfold convV convOne
    cases v <;> first | exact absurd rfl (hr _) | (dsimp only; rw [if_pos z])
  by_cases hw : way = 3
  · rw [if_pos (by simpa using hw)]
    have wm := n3 hw
    rcases hp with ⟨rfl, rfl⟩ | rfl
    · refine fin (v' := .lst m) ?_ (.inr (.inr ⟨m, rfl, mm.1, wm⟩))
      unfold convV convOne
      dsimp only
      rw [if_neg (Nat.lt_irrefl _), hh7.last]
      dsimp only
      rw [if_pos cm]
    · exact fin (tl cm (by simp)) (.inr (.inr ⟨m, rfl, mm.1, wm⟩))
  · rw [if_neg (by simpa using hw)]
    have et : vTuple h7 [p] = some (.tup m) := by
      rcases hp with ⟨rfl, rfl⟩ | rfl
      · show (match seqL h7 (.ref b) with | some m => some (AV.tup m) | none => none) = _
        rw [seqr hh7]
      · rfl
    exact ⟨_, et, fin (tl cm (by simp)) (.inr (.inl ⟨m, rfl, mm⟩))⟩
end
/-! ### what is drawn may be asked about -/
def PD (v : AV) (d : PyData) : Prop := v.dataR = some d ∧ d.showable = true ∧ d.leavesShort 60 = true ∧ d.weight ≤ 200 ∧ d.depth ≤ 3
def ptB (v : AV) : Bool := match v.dataR with
  | some d => d.showable && (d.leavesShort 60 && (decide (d.weight ≤ 200) && (decide (d.depth ≤ 3) && (v.noL || !d.hasDict))))
  | none => false
theorem c16_ok : C16.all ptB = true := by kernel_rfl
theorem pd_of {v : AV} (p : Pt v) : ∃ d, PD v d ∧ (v.noL = true ∨ d.hasDict = false) := by
  rcases p with p | ⟨s, rfl, hl, hc⟩
  · have z := List.all_eq_true.mp c16_ok v p
    unfold ptB at z
    split at z
    · rename_i d e
      simp only [Bool.and_eq_true, Bool.or_eq_true, decide_eq_true_eq, Bool.not_eq_true'] at z
      exact ⟨d, ⟨e, z.1, z.2.1, z.2.2.1, z.2.2.2.1⟩, z.2.2.2.2⟩
    · cases z
  · refine ⟨.str ⟨s.toArray⟩, ⟨rfl, rfl, ?_, ?_, Nat.zero_le _⟩, .inl rfl⟩
    · show (s.toArray.toList.all fun c => decide (c < 16 ^ 8)) = true
      refine List.all_eq_true.mpr fun c hm => decide_eq_true ?_
      have := hc c (by simpa using hm)
      omega
    · show s.toArray.size ≤ 200
      simp; omega
theorem pds_of : ∀ {m : List AV}, (∀ x ∈ m, ∃ d, PD x d) → ∃ ds, AV.dataRs m = some ds ∧ PyData.showableAll ds = true ∧ PyData.leavesShortAll 60 ds = true ∧ PyData.weightAll ds ≤ 201 * m.length ∧ PyData.depthAll ds ≤ 3 ∧
    ((∀ x ∈ m, x.noL = true) → AV.noLs m = true) ∧ ((∀ x ∈ m, ∀ d, x.dataR = some d → d.hasDict = false) → PyData.hasDictAll ds = false)
  | [], _ => ⟨[], rfl, rfl, rfl, Nat.zero_le _, Nat.zero_le _, fun _ => rfl, fun _ => rfl⟩
  | x :: m, h => by
    obtain ⟨d, e, d1, d2, d3, d4⟩ := h x (List.mem_cons_self ..)
    obtain ⟨ds, e', s1, s2, s3, s4, s5, s6⟩ := pds_of fun y hy => h y (List.mem_cons_of_mem _ hy)
    refine ⟨d :: ds, ?_, ?_, ?_, ?_, ?_, fun z => ?_, fun z => ?_⟩
    · unfold AV.dataRs; rw [e, e']
    · show (d.showable && PyData.showableAll ds) = true
      rw [d1, s1]; rfl
    · show (d.leavesShort 60 && PyData.leavesShortAll 60 ds) = true
      rw [d2, s2]; rfl
    · show d.weight + 1 + PyData.weightAll ds ≤ 201 * (x :: m).length
      rw [List.length_cons]; omega
    · show max d.depth (PyData.depthAll ds) ≤ 3
      omega
    · show (x.noL && AV.noLs m) = true
      rw [z x (List.mem_cons_self ..), s5 fun y hy => z y (List.mem_cons_of_mem _ hy)]; rfl
    · show (d.hasDict || PyData.hasDictAll ds) = false
      rw [z x (List.mem_cons_self ..) d e, s6 fun y hy => z y (List.mem_cons_of_mem _ hy)]; rfl
theorem repr_ok {v : AV} {d : PyData} (e : v.dataR = some d) (h1 : d.showable = true) (h2 : d.leavesShort 60 = true) (h3 : d.weight ≤ 10000) (h4 : d.depth ≤ 64) (h5 : v.noL = true ∨ d.hasDict = false) : ∃ r, ∀ h, vRepr h [v] = some (.str r) := by
  have hs := PyData.shown_le 60 (by decide) d h2
  have ok : okR v d = true := by
    unfold okR
    simp only [Bool.and_eq_true, Bool.or_eq_true, decide_eq_true_eq, Bool.not_eq_true']
    refine ⟨⟨⟨h1, h5⟩, ?_⟩, h4⟩
    unfold szM
    omega
  refine ⟨d.shown.cps.toList, fun h => ?_⟩
  unfold vRepr
  dsimp only
  rw [e]
  dsimp only
  rw [if_pos ok]
theorem wd_atm {v : AV} (w : Wd v) : Atm v := by
  obtain ⟨s, rfl, hl, _⟩ := w
  exact atm_str (by omega)
theorem pt_atm {v : AV} (p : Pt v) : Atm v := by
  rcases p with p | p
  · simp only [C16, List.mem_cons, List.not_mem_nil, or_false] at p
    rcases p with rfl | rfl | rfl | rfl | rfl | rfl | rfl | rfl | rfl | rfl | rfl | rfl | rfl | rfl | rfl | rfl <;> refine ⟨rfl, fun s e => ?_⟩ <;> cases e <;> decide
  · exact wd_atm p
theorem it_ok {v : AV} (i : It v) : Val v ∧ ∃ r, ∀ h, vRepr h [v] = some (.str r) := by
  rcases i with p | ⟨m, rfl, hl, w, pw, hx⟩ | ⟨m, rfl, hl, hx⟩
  · obtain ⟨d, ⟨e, h1, h2, h3, h4⟩, h5⟩ := pd_of p
    refine ⟨⟨pt_atm p, fun l el x hx => ?_⟩, repr_ok e h1 h2 (by omega) (by omega) h5⟩
    subst el
    rcases p with p | ⟨s, e, _⟩
    · simp only [C16, List.mem_cons, List.not_mem_nil, or_false, AV.tup.injEq, reduceCtorEq, false_or] at p
      rcases p with rfl | rfl | rfl
      · cases hx
      · simp only [List.mem_cons, List.not_mem_nil, or_false] at hx
        subst hx; exact atm_str (by decide)
      · simp only [List.mem_cons, List.not_mem_nil, or_false] at hx
        rcases hx with rfl | rfl | rfl <;> exact atm_str (by decide)
    · cases e
  · have pts : ∀ x ∈ m, Pt x := fun x hm => by
      rcases hx x hm with z | rfl
      · exact .inr z
      · exact pw
    obtain ⟨ds, e', s1, s2, s3, s4, s5, s6⟩ := pds_of (m := m) fun x hm => let ⟨d, z, _⟩ := pd_of (pts x hm); ⟨d, z⟩
    refine ⟨⟨⟨rfl, fun s e => by cases e⟩, fun l el x hm => by cases el; exact pt_atm (pts x hm)⟩, repr_ok (d := .tuple ds) ?_ s1 s2 ?_ ?_ ?_⟩
    · unfold AV.dataR; rw [e']; rfl
    · show PyData.weightAll ds ≤ 10000
      omega
    · show PyData.depthAll ds + 1 ≤ 64
      omega
    · obtain ⟨d, ⟨ew, _⟩, z⟩ := pd_of pw
      rcases z with z | z
      · left
        refine s5 fun x hm => ?_
        rcases hx x hm with ⟨s, rfl, _⟩ | rfl
        · rfl
        · exact z
      · right
        refine s6 fun x hm d' e => ?_
        rcases hx x hm with ⟨s, rfl, _⟩ | rfl
        · cases e; rfl
        · rw [ew] at e; cases e; exact z
  · obtain ⟨ds, e', s1, s2, s3, s4, s5, s6⟩ := pds_of (m := m) fun x hm => let ⟨d, z, _⟩ := pd_of (.inr (hx x hm)); ⟨d, z⟩
    refine ⟨⟨⟨rfl, fun s e => by cases e⟩, fun l el => by cases el⟩, repr_ok (d := .list ds) ?_ s1 s2 ?_ ?_ (.inr ?_)⟩
    · unfold AV.dataR; rw [e']; rfl
    · show PyData.weightAll ds ≤ 10000
      omega
    · show PyData.depthAll ds + 1 ≤ 64
      omega
    · refine s6 fun x hm d' e => ?_
      obtain ⟨s, rfl, _⟩ := hx x hm
      cases e; rfl
/-! ### the law -/
theorem cell_spec {h : AHeap} {ns : List Int} {k : Int} (k0 : 0 ≤ k) (k1 : k ≤ 10) : ∃ c, m__law_cell [scriptV ns, .int k] h = .ok (.int c) h := by
  suffices hs : Ens (m__law_cell [scriptV ns, .int k] h) fun v h' => ∃ c, v = .int c ∧ h' = h by
    obtain ⟨v, h', e, c, rfl, rfl⟩ := hs.ex
    exact ⟨c, e⟩
  have m1 : cMul k k = true := by unfold cMul; simp only [Bool.or_eq_true, decide_eq_true_eq]; left; omega
  have m2 : ∀ x, cMul 9 x = true := fun x => by unfold cMul; simp
  have m3 : ∀ x, cMul 70003 x = true := fun x => by unfold cMul; simp
  have m4 : ∀ x, cMul x 41011 = true := fun x => by unfold cMul; simp
  have m5 : ∀ x, cMod x 2147483399 = true := fun _ => rfl
  refine en_def rfl ?_
  unfold scriptV
  simp only [en_bind, en_ok, en_bad, en_lift, en_var, en_c, en_bin, en_un, en_test, en_chain, en_andT, en_orT, en_notT, en_and, en_or, en_not, en_if, en_nil, en_cons, en_tup, en_list, en_pureL, en_newL, en_fn, en_call, en_callK, en_methS, en_oN, en_oS, en_sl, en_rng1, en_iter, en_lc, es_seq, es_skip, es_ret, es_retN, es_if, es_asg, es_par2, es_for, eg_name, eg_nil, eg_cons, eg_tup, eg_sub, vAdd_ii, vAdd_ss, vAdd_ll, vSub_ii, vMul_ii, vDiv_ii, vMod_ii, vLt_ii, vLe_ii, vGt_ii, vGe_ii, vEq_ii, vEq_ss, vNe_ii, vNe_ss, vIx_t, vIx_l, vIx_s, vIx_r, vLen_s, vLen_t, vLen_l, vLen_r, List.getElem?_cons_zero, List.getElem?_cons_succ, List.set_cons_zero, List.set_cons_succ, Option.some.injEq, AV.int.injEq, AV.bl.injEq, AV.str.injEq, AV.ref.injEq, AV.tup.injEq, AV.lst.injEq, AO.list.injEq, List.cons.injEq, exists_eq_left', exists_eq_left, exists_and_left, List.map_cons, List.map_nil, List.replicate, List.cons_append, List.nil_append, and_true, true_and, if_true, Nat.sub_self, ite_true, List.length_cons, List.length_nil, Nat.zero_add, Nat.reduceAdd, Nat.reduceSub, List.length_set, m1, m2, m3, m4, m5, List.length_map]
  by_cases hk : k < (ns.length : Int)
  · rw [if_pos (decide_eq_true hk)]
    obtain ⟨x, ex, mx⟩ := atI_nat' (l := ns.map AV.int) k0 (by simpa using hk)
    obtain ⟨c, _, rfl⟩ := List.mem_map.mp mx
    exact ⟨_, ex, Nat.le_refl _, c, rfl⟩
  · rw [if_neg (by simpa using hk)]
    refine ⟨_, rfl, _, rfl, ?_⟩
    refine es_loop (fun l ρ h' => h' = h ∧ (∀ x ∈ l, ∃ i, x = AV.int i) ∧ ∃ mix y, ρ = [some (.lst (ns.map AV.int)), some (.int k), some (.int mix), y]) ?_ ?_ ⟨rfl, fun x hx => ?_, _, _, rfl⟩
    · rintro v l ρ h' ⟨rfl, hl, mix, y, rfl⟩
      obtain ⟨i, rfl⟩ := hl v (List.mem_cons_self ..)
      simp only [en_bind, en_ok, en_bad, en_lift, en_var, en_c, en_bin, en_un, en_test, en_chain, en_andT, en_orT, en_notT, en_and, en_or, en_not, en_if, en_nil, en_cons, en_tup, en_list, en_pureL, en_newL, en_fn, en_call, en_callK, en_methS, en_oN, en_oS, en_sl, en_rng1, en_iter, en_lc, es_seq, es_skip, es_ret, es_retN, es_if, es_asg, es_par2, es_for, eg_name, eg_nil, eg_cons, eg_tup, eg_sub, vAdd_ii, vAdd_ss, vAdd_ll, vSub_ii, vMul_ii, vDiv_ii, vMod_ii, vLt_ii, vLe_ii, vGt_ii, vGe_ii, vEq_ii, vEq_ss, vNe_ii, vNe_ss, vIx_t, vIx_l, vIx_s, vIx_r, vLen_s, vLen_t, vLen_l, vLen_r, List.getElem?_cons_zero, List.getElem?_cons_succ, List.set_cons_zero, List.set_cons_succ, Option.some.injEq, AV.int.injEq, AV.bl.injEq, AV.str.injEq, AV.ref.injEq, AV.tup.injEq, AV.lst.injEq, AO.list.injEq, List.cons.injEq, exists_eq_left', exists_eq_left, exists_and_left, List.map_cons, List.map_nil, List.replicate, List.cons_append, List.nil_append, and_true, true_and, if_true, Nat.sub_self, ite_true, List.length_cons, List.length_nil, Nat.zero_add, Nat.reduceAdd, Nat.reduceSub, List.length_set, m4, m5]
      exact ⟨fun x hx => hl x (List.mem_cons_of_mem _ hx), _, rfl⟩
    · rintro ρ h' ⟨rfl, hl, mix, y, rfl⟩
      simp only [en_bind, en_ok, en_bad, en_lift, en_var, en_c, en_bin, en_un, en_test, en_chain, en_andT, en_orT, en_notT, en_and, en_or, en_not, en_if, en_nil, en_cons, en_tup, en_list, en_pureL, en_newL, en_fn, en_call, en_callK, en_methS, en_oN, en_oS, en_sl, en_rng1, en_iter, en_lc, es_seq, es_skip, es_ret, es_retN, es_if, es_asg, es_par2, es_for, eg_name, eg_nil, eg_cons, eg_tup, eg_sub, vAdd_ii, vAdd_ss, vAdd_ll, vSub_ii, vMul_ii, vDiv_ii, vMod_ii, vLt_ii, vLe_ii, vGt_ii, vGe_ii, vEq_ii, vEq_ss, vNe_ii, vNe_ss, vIx_t, vIx_l, vIx_s, vIx_r, vLen_s, vLen_t, vLen_l, vLen_r, List.getElem?_cons_zero, List.getElem?_cons_succ, List.set_cons_zero, List.set_cons_succ, Option.some.injEq, AV.int.injEq, AV.bl.injEq, AV.str.injEq, AV.ref.injEq, AV.tup.injEq, AV.lst.injEq, AO.list.injEq, List.cons.injEq, exists_eq_left', exists_eq_left, exists_and_left, List.map_cons, List.map_nil, List.replicate, List.cons_append, List.nil_append, and_true, true_and, if_true, Nat.sub_self, ite_true, List.length_cons, List.length_nil, Nat.zero_add, Nat.reduceAdd, Nat.reduceSub, List.length_set]
      exact ⟨Nat.le_refl _, mix, rfl⟩
    · obtain ⟨i, _, e⟩ := List.mem_map.mp (cut_mem x hx)
      exact ⟨i, e.symm⟩
theorem purse_spec {h : AHeap} {c : Int} : Ens (m__law_purse [.int c] h) fun v h' => v = .ref h.length ∧ ∃ a d t : Int, h' = h ++ [.list [.int a, .int d, .int t]] ∧ 0 ≤ d := by
  have p1 : ∀ h, vPow h (.int 10) (.int 18) = some (.int (10 ^ 18)) := fun h => rfl
  have m5 : ∀ x, cMod x 2147483399 = true := fun _ => rfl
  have sz3 : ∀ x y z : AV, szOk [x, y, z] = true := fun _ _ _ => rfl
  refine en_def0 rfl ?_
  simp only [en_bind, en_ok, en_bad, en_lift, en_var, en_c, en_bin, en_un, en_test, en_chain, en_andT, en_orT, en_notT, en_and, en_or, en_not, en_if, en_nil, en_cons, en_tup, en_list, en_pureL, en_newL, en_fn, en_call, en_callK, en_methS, en_oN, en_oS, en_sl, en_rng1, en_iter, en_lc, es_seq, es_skip, es_ret, es_retN, es_if, es_asg, es_par2, es_for, eg_name, eg_nil, eg_cons, eg_tup, eg_sub, vAdd_ii, vAdd_ss, vAdd_ll, vSub_ii, vMul_ii, vDiv_ii, vMod_ii, vLt_ii, vLe_ii, vGt_ii, vGe_ii, vEq_ii, vEq_ss, vNe_ii, vNe_ss, vIx_t, vIx_l, vIx_s, vIx_r, vLen_s, vLen_t, vLen_l, vLen_r, List.getElem?_cons_zero, List.getElem?_cons_succ, List.set_cons_zero, List.set_cons_succ, Option.some.injEq, AV.int.injEq, AV.bl.injEq, AV.str.injEq, AV.ref.injEq, AV.tup.injEq, AV.lst.injEq, AO.list.injEq, List.cons.injEq, exists_eq_left', exists_eq_left, exists_and_left, List.map_cons, List.map_nil, List.replicate, List.cons_append, List.nil_append, and_true, true_and, if_true, Nat.sub_self, ite_true, List.length_cons, List.length_nil, Nat.zero_add, Nat.reduceAdd, Nat.reduceSub, List.length_set, p1, m5, sz3, vAbs]
  by_cases h1 : c < 0
  · rw [if_pos (decide_eq_true h1), if_pos h1]
    exact ⟨_, _, _, rfl, by omega⟩
  · rw [if_neg (by simpa using h1), if_neg h1]
    by_cases h2 : (10 : Int) ^ 18 ≤ c
    · rw [if_pos (decide_eq_true h2)]
      exact ⟨_, _, _, rfl, by omega⟩
    · rw [if_neg (by simpa using h2)]
      exact ⟨_, _, _, rfl, by omega⟩
theorem law_true (ns : List Int) : ∃ h', m_law [scriptV ns] [] = .ok (.bl true) h' := by
  suffices hs : Ens (m_law [scriptV ns] []) fun v _ => v = .bl true by
    obtain ⟨v, h', e, rfl⟩ := hs.ex
    exact ⟨h', e⟩
  have hand : m__law_by_hand [] [] = .ok (.bl true) [] := by kernel_rfl
  have gcT : ∀ h', Ens (gcRes 0 (.ok (.bl true) h')) fun v _ => v = .bl true := fun h' => by
    unfold gcRes
    dsimp only
    by_cases hz : h'.length ≤ 0
    · rw [if_pos hz]; exact rfl
    · rw [if_neg hz]; exact rfl
  refine en_defG rfl ?_
  refine es_cut (fun ρ1 h1 => ρ1 = [some (scriptV ns), none, none, none, none] ∧ h1 = []) ?_ ?_
  · simp only [en_bind, en_ok, en_bad, en_lift, en_var, en_c, en_bin, en_un, en_test, en_chain, en_andT, en_orT, en_notT, en_and, en_or, en_not, en_if, en_nil, en_cons, en_tup, en_list, en_pureL, en_newL, en_fn, en_call, en_callK, en_methS, en_oN, en_oS, en_sl, en_rng1, en_iter, en_lc, es_seq, es_skip, es_ret, es_retN, es_if, es_asg, es_par2, es_for, eg_name, eg_nil, eg_cons, eg_tup, eg_sub, vAdd_ii, vAdd_ss, vAdd_ll, vSub_ii, vMul_ii, vDiv_ii, vMod_ii, vLt_ii, vLe_ii, vGt_ii, vGe_ii, vEq_ii, vEq_ss, vNe_ii, vNe_ss, vIx_t, vIx_l, vIx_s, vIx_r, vLen_s, vLen_t, vLen_l, vLen_r, List.getElem?_cons_zero, List.getElem?_cons_succ, List.set_cons_zero, List.set_cons_succ, Option.some.injEq, AV.int.injEq, AV.bl.injEq, AV.str.injEq, AV.ref.injEq, AV.tup.injEq, AV.lst.injEq, AO.list.injEq, List.cons.injEq, exists_eq_left', exists_eq_left, exists_and_left, List.map_cons, List.map_nil, List.replicate, List.cons_append, List.nil_append, and_true, true_and, if_true, Nat.sub_self, ite_true, List.length_cons, List.length_nil, Nat.zero_add, Nat.reduceAdd, Nat.reduceSub, List.length_set, hand]
    simp
  rintro ρ1 h1 ⟨rfl, rfl⟩
  refine es_cut (fun ρ1 h1 => True) ?_ ?_
  · rw [es_for]
    have r20 : AI.inR 20 = true := rfl
    have mm : ∃ n : Int, vMin ([] : AHeap) [.int (ns.length : Int), .int 6] = some (.int n) ∧ n ≤ 6 := by
      refine ⟨_, rfl, ?_⟩
      split <;> omega
    obtain ⟨n, en, n6⟩ := mm
    have mx : ∃ q : Int, vMax ([] : AHeap) [.int 2, .int n] = some (.int q) ∧ q ≤ 6 ∧ 0 ≤ q := by
      refine ⟨_, rfl, ?_⟩
      split <;> omega
    obtain ⟨q, eq, q6, q0⟩ := mx
    have hr : AI.inR q = true := by unfold AI.inR; exact decide_eq_true (by omega)
    have sl : ∀ {h : AHeap}, vLen h [scriptV ns] = some (.int ns.length) := fun {h} => by
      show some (AV.int ((ns.map AV.int).length : Nat)) = _
      rw [List.length_map]
    simp only [en_bind, en_ok, en_bad, en_lift, en_var, en_c, en_bin, en_un, en_test, en_chain, en_andT, en_orT, en_notT, en_and, en_or, en_not, en_if, en_nil, en_cons, en_tup, en_list, en_pureL, en_newL, en_fn, en_call, en_callK, en_methS, en_oN, en_oS, en_sl, en_rng1, en_iter, en_lc, es_seq, es_skip, es_ret, es_retN, es_if, es_asg, es_par2, es_for, eg_name, eg_nil, eg_cons, eg_tup, eg_sub, vAdd_ii, vAdd_ss, vAdd_ll, vSub_ii, vMul_ii, vDiv_ii, vMod_ii, vLt_ii, vLe_ii, vGt_ii, vGe_ii, vEq_ii, vEq_ss, vNe_ii, vNe_ss, vIx_t, vIx_l, vIx_s, vIx_r, vLen_s, vLen_t, vLen_l, vLen_r, List.getElem?_cons_zero, List.getElem?_cons_succ, List.set_cons_zero, List.set_cons_succ, Option.some.injEq, AV.int.injEq, AV.bl.injEq, AV.str.injEq, AV.ref.injEq, AV.tup.injEq, AV.lst.injEq, AO.list.injEq, List.cons.injEq, exists_eq_left', exists_eq_left, exists_and_left, List.map_cons, List.map_nil, List.replicate, List.cons_append, List.nil_append, and_true, true_and, if_true, Nat.sub_self, ite_true, List.length_cons, List.length_nil, Nat.zero_add, Nat.reduceAdd, Nat.reduceSub, List.length_set, sl, en, eq, hr]
    refine es_loop (fun l ρ h => (∀ x ∈ l, ∃ k : Int, x = .int k ∧ 0 ≤ k ∧ k ≤ 10) ∧ HI [] h.length h ∧ ∃ a b c d, ρ = [some (scriptV ns), a, b, c, d]) ?_ (fun _ _ _ => trivial) ⟨fun x hx => ?_, ⟨[], rfl, rfl, by simp⟩, _, _, _, _, rfl⟩
    · rintro v l ρ h ⟨hl, hh, a, b, c, d, rfl⟩
      obtain ⟨k, rfl, k0, k1⟩ := hl v (List.mem_cons_self ..)
      have hl' := fun x hx => hl x (List.mem_cons_of_mem _ hx)
      obtain ⟨cl0, ecl⟩ := cell_spec (h := h) (ns := ns) k0 k1
      rw [eg_name]
      refine es_cut (fun ρ1 h1 => HI [] (h.length + 1) h1 ∧ ∃ c d, ρ1 = [some (scriptV ns), some (.int k), some (.ref h.length), c, d]) ?_ ?_
      · simp only [en_bind, en_ok, en_bad, en_lift, en_var, en_c, en_bin, en_un, en_test, en_chain, en_andT, en_orT, en_notT, en_and, en_or, en_not, en_if, en_nil, en_cons, en_tup, en_list, en_pureL, en_newL, en_fn, en_call, en_callK, en_methS, en_oN, en_oS, en_sl, en_rng1, en_iter, en_lc, es_seq, es_skip, es_ret, es_retN, es_if, es_asg, es_par2, es_for, eg_name, eg_nil, eg_cons, eg_tup, eg_sub, vAdd_ii, vAdd_ss, vAdd_ll, vSub_ii, vMul_ii, vDiv_ii, vMod_ii, vLt_ii, vLe_ii, vGt_ii, vGe_ii, vEq_ii, vEq_ss, vNe_ii, vNe_ss, vIx_t, vIx_l, vIx_s, vIx_r, vLen_s, vLen_t, vLen_l, vLen_r, List.getElem?_cons_zero, List.getElem?_cons_succ, List.set_cons_zero, List.set_cons_succ, Option.some.injEq, AV.int.injEq, AV.bl.injEq, AV.str.injEq, AV.ref.injEq, AV.tup.injEq, AV.lst.injEq, AO.list.injEq, List.cons.injEq, exists_eq_left', exists_eq_left, exists_and_left, List.map_cons, List.map_nil, List.replicate, List.cons_append, List.nil_append, and_true, true_and, if_true, Nat.sub_self, ite_true, List.length_cons, List.length_nil, Nat.zero_add, Nat.reduceAdd, Nat.reduceSub, List.length_set, ecl]
        refine purse_spec.mono ?_
        rintro v h1 ⟨rfl, pa, pd, pt, rfl, hd⟩
        refine ⟨?_, rfl, _, rfl⟩
        obtain ⟨hp, e, hlen, hq⟩ := hh
        refine ⟨h ++ [.list [.int pa, .int pd, .int pt]], by simp, by simp, fun o ho => ?_⟩
        rw [List.append_nil] at e
        rcases List.mem_append.mp ho with z | z
        · rw [e] at z; exact hq o z
        · exact ⟨pa, pd, pt, List.mem_singleton.mp z, hd⟩
      rintro ρ1 h1 ⟨hh1, c, d, rfl⟩
      have len1 : h1.length = h.length + 1 := by have := hh1.len; simpa using this
      simp only [es_for, en_bind, en_ok, en_bad, en_lift, en_var, en_c, en_bin, en_un, en_test, en_chain, en_andT, en_orT, en_notT, en_and, en_or, en_not, en_if, en_nil, en_cons, en_tup, en_list, en_pureL, en_newL, en_fn, en_call, en_callK, en_methS, en_oN, en_oS, en_sl, en_rng1, en_iter, en_lc, es_seq, es_skip, es_ret, es_retN, es_if, es_asg, es_par2, es_for, eg_name, eg_nil, eg_cons, eg_tup, eg_sub, vAdd_ii, vAdd_ss, vAdd_ll, vSub_ii, vMul_ii, vDiv_ii, vMod_ii, vLt_ii, vLe_ii, vGt_ii, vGe_ii, vEq_ii, vEq_ss, vNe_ii, vNe_ss, vIx_t, vIx_l, vIx_s, vIx_r, vLen_s, vLen_t, vLen_l, vLen_r, List.getElem?_cons_zero, List.getElem?_cons_succ, List.set_cons_zero, List.set_cons_succ, Option.some.injEq, AV.int.injEq, AV.bl.injEq, AV.str.injEq, AV.ref.injEq, AV.tup.injEq, AV.lst.injEq, AO.list.injEq, List.cons.injEq, exists_eq_left', exists_eq_left, exists_and_left, List.map_cons, List.map_nil, List.replicate, List.cons_append, List.nil_append, and_true, true_and, if_true, Nat.sub_self, ite_true, List.length_cons, List.length_nil, Nat.zero_add, Nat.reduceAdd, Nat.reduceSub, List.length_set, r20]
      refine es_loop (fun l ρ h2 => HI [] (h.length + 1) h2 ∧ ∃ c d, ρ = [some (scriptV ns), some (.int k), some (.ref h.length), c, d]) ?_ ?_ ⟨hh1, _, _, rfl⟩
      · rintro v r ρ h2 ⟨hh2, c, d, rfl⟩
        rw [eg_name]
        have hn : h.length < h.length + 1 := Nat.lt_succ_self _
        have sz3 : ∀ x y z : AV, szOk [x, y, z] = true := fun _ _ _ => rfl
        simp only [en_bind, en_ok, en_bad, en_lift, en_var, en_c, en_bin, en_un, en_test, en_chain, en_andT, en_orT, en_notT, en_and, en_or, en_not, en_if, en_nil, en_cons, en_tup, en_list, en_pureL, en_newL, en_fn, en_call, en_callK, en_methS, en_oN, en_oS, en_sl, en_rng1, en_iter, en_lc, es_seq, es_skip, es_ret, es_retN, es_if, es_asg, es_par2, es_for, eg_name, eg_nil, eg_cons, eg_tup, eg_sub, vAdd_ii, vAdd_ss, vAdd_ll, vSub_ii, vMul_ii, vDiv_ii, vMod_ii, vLt_ii, vLe_ii, vGt_ii, vGe_ii, vEq_ii, vEq_ss, vNe_ii, vNe_ss, vIx_t, vIx_l, vIx_s, vIx_r, vLen_s, vLen_t, vLen_l, vLen_r, List.getElem?_cons_zero, List.getElem?_cons_succ, List.set_cons_zero, List.set_cons_succ, Option.some.injEq, AV.int.injEq, AV.bl.injEq, AV.str.injEq, AV.ref.injEq, AV.tup.injEq, AV.lst.injEq, AO.list.injEq, List.cons.injEq, exists_eq_left', exists_eq_left, exists_and_left, List.map_cons, List.map_nil, List.replicate, List.cons_append, List.nil_append, and_true, true_and, if_true, Nat.sub_self, ite_true, List.length_cons, List.length_nil, Nat.zero_add, Nat.reduceAdd, Nat.reduceSub, List.length_set, sz3]
        refine (word_spec hh2 hn).mono ?_
        rintro v1 h3 ⟨w1, hh3, l3⟩
        refine (triple_spec hh3 hn).mono ?_
        rintro v2 h4 ⟨w2, hh4, l4⟩
        refine (value_spec hh4 hn).mono ?_
        rintro v3 h5 ⟨w3, hh5, l5⟩
        refine (draw_spec hh5 hn (by decide) (by decide)).mono ?_
        rintro v4 h6 ⟨⟨i, rfl, i0, i1⟩, hh6, l6⟩
        obtain ⟨x, ex, mx⟩ := atI_nat' (l := [v1, v2, v3]) i0 (by simpa using i1)
        have it : It x := by
          simp only [List.mem_cons, List.not_mem_nil, or_false] at mx
          rcases mx with rfl | rfl | rfl
          · exact .inl (.inr w1)
          · exact w2
          · exact .inl w3
        obtain ⟨va, r, hr⟩ := it_ok it
        refine ⟨x, ex, ?_⟩
        rw [right_spec va hr]
        simp only [en_ok, List.getElem?_cons_zero, List.getElem?_cons_succ, List.set_cons_zero, List.set_cons_succ, Option.some.injEq, AV.int.injEq, AV.bl.injEq, AV.str.injEq, AV.ref.injEq, AV.tup.injEq, AV.lst.injEq, AO.list.injEq, List.cons.injEq, exists_eq_left', exists_eq_left, exists_and_left, List.map_cons, List.map_nil, List.replicate, List.cons_append, List.nil_append, and_true, true_and, if_true, Nat.sub_self, ite_true, List.length_cons, List.length_nil, Nat.zero_add, Nat.reduceAdd, Nat.reduceSub, List.length_set]
        exact ⟨hh6, _, rfl⟩
      · rintro ρ h2 ⟨hh2, c, d, rfl⟩
        have len2 : h2.length = h.length + 1 := by have := hh2.len; simpa using this
        refine ⟨hl', by rw [len2]; exact hh2, _, _, _, _, rfl⟩
    · unfold iInts at hx
      obtain ⟨k, hk, rfl⟩ := List.mem_map.mp hx
      have := List.mem_range.mp hk
      exact ⟨_, rfl, by omega, by omega⟩
  · intro ρ1 h1 _
    simp only [en_bind, en_ok, en_bad, en_lift, en_var, en_c, en_bin, en_un, en_test, en_chain, en_andT, en_orT, en_notT, en_and, en_or, en_not, en_if, en_nil, en_cons, en_tup, en_list, en_pureL, en_newL, en_fn, en_call, en_callK, en_methS, en_oN, en_oS, en_sl, en_rng1, en_iter, en_lc, es_seq, es_skip, es_ret, es_retN, es_if, es_asg, es_par2, es_for, eg_name, eg_nil, eg_cons, eg_tup, eg_sub]
    exact gcT h1
end AIL
open PySem PySem.W PySem.Calls PyProof.Rows
theorem PySem.Challenge.cw_capruns_k01_names_variables_claims_holds : PySem.Challenge.rw_capruns_k01_names_variables_claims.Holds := by
  w_on; o_law
  refine HandSHeadRun.head_any (r := OpenLaw.row PySem.Challenge.rw_capruns_k01_names_variables_claims) (q := view (OpenLaw.row PySem.Challenge.rw_capruns_k01_names_variables_claims).prog [18]) (H := AIL.hk) (ob := AIL.ob) (M := 1000) (loose := ["LETTERS", "OPERATORS", "is_name", "is_variable", "is_claim", "_law_cell", "_law_purse", "_law_draw", "_law_word", "_law_is_name", "_law_is_variable", "_law_is_claim", "_law_value", "_law_triple", "_law_right", "_law_by_hand"]) (d := HandSHeadRun.topDef (OpenLaw.row PySem.Challenge.rw_capruns_k01_names_variables_claims).prog 18) (kwd := []) AIL.ob_eq
    (by kernel_rfl) (fun s => by kernel_rfl) AIL.run (by kernel_rfl) (by kernel_rfl) (by kernel_rfl) (by rfl) (by first | assumption | decide +kernel) (by decide +kernel) ⟨rfl, rfl, rfl, rfl, rfl, by decide +kernel⟩ ?hw ?hc
  case hw => w_witness2
  case hc =>
    refine AI.walkG (l := PySem.Challenge.rw_capruns_k01_names_variables_claims) (n := 63) (k := 6) (x := "_law_script") rfl (by decide) (by kernel_rfl) ⟨rfl, by decide, by decide⟩ ?F (fun ns _ => AIL.law_true ns)
    intro w mg fa h Y G at_
    obtain ⟨K, inK, told⟩ := Y
    have named : (HandSHeadRun.topDef (OpenLaw.row PySem.Challenge.rw_capruns_k01_names_variables_claims).prog 18).name = ("law" : PySem.Str) := by kernel_rfl
    rw [named] at at_
    obtain ⟨fd, bound, does⟩ := AIL.facts (P := (PySem.Challenge.rw_capruns_k01_names_variables_claims).prog) (w := w) inK G at_ told
    exact ⟨K, fd, inK, bound, does⟩
