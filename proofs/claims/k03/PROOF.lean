import PyProof.Rows.All
import Wide.All
import OpenK.AllK
import Wide.FinOn
import HandS.ForMost
import HandS.ForExc
import HandS.Defaults
import KE.DataEq
import HandS.IsInst
import HandS.Text
import HandS.TupAny
import HandS.Deep
import HandS.Iter
import HandS.Comp
import HandS.Dict
import HandS.SetFor
import HandS.Ends
import HandS.Head0
import HandS.Head1
import HandS.Head2
import HandS.HeadEnd
import HandS.HeadHook1
import HandS.HeadHook2
import HandS.HeadHook3
import HandS.HeadHook4
import KE.GoesEnum
import HandS.FStr
import HandS.TupMul
import HandS.Codes
import HandS.ExcInit
import HandS.ExcField
import HandS.ExcIs
import HandS.TryOnly
import HandS.HotCalls
import KE.KExcIs
import KE.KExcHand
import KE.KTryMore
import HandS.Strs
import PySem.Challenge.RW_capruns_k03_strings_that_are_no_claims
set_option Elab.async false
set_option linter.all false
set_option maxRecDepth 100000
set_option maxHeartbeats 0
set_option autoImplicit false
namespace AI
open PySem PySem.Spec PyProof.Rows
open L2

/-- the built-in types that the texts name -/
inductive Tag where
  | non | bl | int | str | tup | lst | dct | set | ve | le | re | ae
  deriving DecidableEq, Inhabited
def Tag.nm : Tag → String
  | .non => "NoneType" | .bl => "bool" | .int => "int" | .str => "str" | .tup => "tuple" | .lst => "list" | .dct => "dict" | .set => "set"
  | .ve => "ValueError" | .le => "LookupError" | .re => "RuntimeError" | .ae => "ArithmeticError"
/-- abstract values: lst, dct, obj are views of objects that nobody changes; ref n is the n-th object of the abstract heap -/
inductive AV where
  | non | bl (b : Bool) | int (i : Int) | str (s : List Nat)
  | tup (l : List AV) | lst (l : List AV)
  | dct (ks : List Key) (l : List AV)
  | ref (n : Nat) | ty (t : Tag) | gl (x : Str)
  /-- the exception that is handled: its class, its fields -/
  | exn (c : Str) (ks : List Str) (l : List AV)
  /-- an instance that nobody changes -/
  | ins (c : Str) (ks : List Str) (l : List AV)
  deriving Inhabited

inductive AO where
  | list (l : List AV)
  | set (ks : List Key)
  | dct (ks : List Key) (vs : List AV)
  deriving Inhabited

abbrev AHeap := List AO
abbrev AEnv := List (Option AV)
structure AX where
  cls : Str
  names : List Str
  vals : List AV

inductive Res (α : Type) where
  | ok (a : α) (h : AHeap)
  | exc (e : AX) (h : AHeap)
  | bad

namespace Res
def bind {α β : Type} : Res α → (α → AHeap → Res β) → Res β
  | .ok a h, k => k a h
  | .exc e h, _ => .exc e h
  | .bad, _ => .bad
end Res

/-- what is fixed of the text -/
structure Ctx where
  prog : Program
  w : World
  K : PySem.W.Frag
  mg : Str → Option Value
  /-- lists that a comprehension around is filling -/
  Z : List Addr := []
  /-- the exception that is handled -/
  hx : Option (Addr × Obj) := none

abbrev Mu := List Addr

/-- a tuple, a list outside the abstract heap -/
def TupAt (C : Ctx) (μ : Mu) (H : Hp) (a : Addr) (xs : List V) : Prop :=
  (a ∉ μ ∧ Rd H a (.tup xs)) ∨
    ∃ (o : Obj) (its : Array Value) (n : Nat), C.K.lookup a = some o ∧ o.cls = .type "tuple" ∧ o.data = .seq its n ∧ its.size ≤ sizeLine ∧ Vals xs its.toList
theorem TupAt.sq {C : Ctx} {μ : Mu} {H : Hp} {a : Addr} {xs : List V} (h : TupAt C μ H a xs) : SqT C.K H a xs := h.imp (·.2) id
def LstAt (C : Ctx) (μ : Mu) (H : Hp) (a : Addr) (xs : List V) : Prop := (a ∉ μ ∧ a ∉ C.Z ∧ Rd H a (.lst xs)) ∨
  ∃ (o : Obj) (its : Array Value) (n : Nat), C.K.lookup a = some o ∧ o.cls = .type "list" ∧ o.dict = none ∧ o.data = .seq its n ∧ its.size ≤ sizeLine ∧ Vals xs its.toList
def DctAt (C : Ctx) (μ : Mu) (H : Hp) (a : Addr) (ks : List Key) (xs : List V) : Prop := a ∉ μ ∧ a ∉ C.Z ∧ ks.length = xs.length ∧ H a = some (.dK (ks.zip xs))
theorem LstAt.sq {C : Ctx} {μ : Mu} {H : Hp} {a : Addr} {xs : List V} (h : LstAt C μ H a xs) : SqL C.K H a xs := h.imp (·.2.2) _root_.id

mutual
def RV (C : Ctx) (μ : Mu) (H : Hp) : AV → V → Prop
  | .non, x => x = .non
  | .bl b, x => x = .bl b
  | .int i, x => x = .int i
  | .str s, x => x = .str ⟨s.toArray⟩
  | .tup l, x => ∃ a xs, x = .ref a ∧ TupAt C μ H a xs ∧ RVs C μ H l xs
  | .lst l, x => ∃ a xs, x = .ref a ∧ LstAt C μ H a xs ∧ RVs C μ H l xs
  | .dct ks l, x => ∃ a xs, x = .ref a ∧ DctAt C μ H a ks xs ∧ RVs C μ H l xs
  | .ref n, x => ∃ a, x = .ref a ∧ μ[n]? = some a
  | .ty n, x => x = .ty n.nm
  | .gl y, x => ∃ a, x = .ref a ∧ C.mg y = some (.ref a)
  | .exn c ks l, x => ∃ (p : Addr × Obj) (Ca : Addr) (d : Option Addr) (xs : List V), C.hx = some p ∧ x = .ref p.1 ∧ C.mg c = some (.ref Ca) ∧ Zc (.ref Ca) d p.2 ∧ (∃ vs, p.2.data = .fields vs) ∧ RVs C μ H l xs ∧
      ((ks = [] ∧ xs = [] ∧ d = none) ∨ ∃ dx, d = some dx ∧ H dx = some (.xd (ks.zip xs)) ∧ dx ∉ μ)
  | .ins c ks l, x => ∃ (a Ca dx : Addr) (xs : List V), x = .ref a ∧ C.mg c = some (.ref Ca) ∧ a ∉ μ ∧ H a = some (.ins Ca dx (ks.zip xs)) ∧ RVs C μ H l xs
def RVs (C : Ctx) (μ : Mu) (H : Hp) : List AV → List V → Prop
  | [], xs => xs = []
  | v :: l, xs => ∃ x r, xs = x :: r ∧ RV C μ H v x ∧ RVs C μ H l r
end

/-- a set of ints and texts -/
def memK (ks : List Key) (k : Key) : Bool := ks.any fun j => decide (j = k)
def SetM (P : Program) (w : World) (a : Addr) (ks : List Key) : HO := .ext fun h => h.SetOf (mixKind P w) a (memK ks) ks.length
def OR (C : Ctx) (μ : Mu) (H : Hp) : AO → Addr → Prop
  | .list l, a => ∃ xs, H a = some (.lst xs) ∧ RVs C μ H l xs
  | .set ks, a => H a = some (SetM C.prog C.w a ks)
  | .dct ks l, a => ∃ xs, ks.length = xs.length ∧ ks.Nodup ∧ H a = some (.dK (ks.zip xs)) ∧ RVs C μ H l xs

structure RepH (C : Ctx) (μ : Mu) (h : AHeap) (H : Hp) : Prop where
  len : μ.length = h.length
  nd : μ.Nodup
  obj : ∀ (n : Nat) (o : AO) (a : Addr), h[n]? = some o → μ[n]? = some a → OR C μ H o a
  zs : ∀ a ∈ C.Z, a ∉ μ ∧ ∃ o, H a = some o

structure Ext (μ : Mu) (H : Hp) (μ' : Mu) (H' : Hp) : Prop where
  pre : ∀ (n : Nat) (a : Addr), μ[n]? = some a → μ'[n]? = some a
  new : ∀ a, a ∈ μ' → a ∈ μ ∨ H a = none
  frame : ∀ b o, b ∉ μ → H b = some o → H' b = some o

theorem Ext.refl (μ : Mu) (H : Hp) : Ext μ H μ H := ⟨fun _ _ h => h, fun _ h => .inl h, fun _ _ _ h => h⟩
theorem Ext.out {μ μ' : Mu} {H H' : Hp} (e : Ext μ H μ' H') {b : Addr} {o : HO} (hb : b ∉ μ) (ho : H b = some o) : b ∉ μ' := fun hm => by
  rcases e.new b hm with h | h
  · exact hb h
  · rw [h] at ho; cases ho
theorem Ext.free {μ μ' : Mu} {H H' : Hp} (e : Ext μ H μ' H') {p : Addr} (hp : H' p = none) (hm : p ∉ μ') : H p = none := by
  cases q : H p with
  | none => rfl
  | some o =>
    have : p ∉ μ := fun z => by
      obtain ⟨n, hn⟩ := List.getElem?_of_mem z
      exact hm (List.mem_of_getElem? (e.pre n p hn))
    rw [e.frame p o this q] at hp; cases hp
theorem Ext.trans {μ μ1 μ2 : Mu} {H H1 H2 : Hp} (a : Ext μ H μ1 H1) (b : Ext μ1 H1 μ2 H2) : Ext μ H μ2 H2 := by
  refine ⟨fun n x h => b.pre n x (a.pre n x h), fun x h => ?_, fun x o hx ho => b.frame x o (a.out hx ho) (a.frame x o hx ho)⟩
  rcases b.new x h with h | h
  · exact a.new x h
  · by_cases hx : x ∈ μ
    · exact .inl hx
    · right
      cases q : H x with
      | none => rfl
      | some o => rw [a.frame x o hx q] at h; cases h
theorem Ext.rd {μ μ' : Mu} {H H' : Hp} (e : Ext μ H μ' H') {a : Addr} {u : HO} (ha : a ∉ μ) (h : Rd H a u) : a ∉ μ' ∧ Rd H' a u := by
  rcases h with h | ⟨o, h⟩
  · exact ⟨e.out ha h, .inl (e.frame _ _ ha h)⟩
  · exact ⟨e.out ha h, .inr ⟨o, e.frame _ _ ha h⟩⟩
theorem TupAt.mono {C : Ctx} {μ μ' : Mu} {H H' : Hp} (e : Ext μ H μ' H') {a : Addr} {xs : List V} (h : TupAt C μ H a xs) : TupAt C μ' H' a xs := by
  rcases h with ⟨h1, h2⟩ | h
  · exact .inl (e.rd h1 h2)
  · exact .inr h
theorem LstAt.mono {C : Ctx} {μ μ' : Mu} {H H' : Hp} (e : Ext μ H μ' H') {a : Addr} {xs : List V} (h : LstAt C μ H a xs) : LstAt C μ' H' a xs :=
  h.imp (fun h => ⟨(e.rd h.1 h.2.2).1, h.2.1, (e.rd h.1 h.2.2).2⟩) _root_.id
theorem DctAt.mono {C : Ctx} {μ μ' : Mu} {H H' : Hp} (e : Ext μ H μ' H') {a : Addr} {ks : List Key} {xs : List V} (h : DctAt C μ H a ks xs) : DctAt C μ' H' a ks xs :=
  ⟨e.out h.1 h.2.2.2, h.2.1, h.2.2.1, e.frame _ _ h.1 h.2.2.2⟩
mutual
theorem RV.mono {C : Ctx} {μ μ' : Mu} {H H' : Hp} (e : Ext μ H μ' H') : ∀ {v : AV} {x : V}, RV C μ H v x → RV C μ' H' v x
  | .non, _, h => by simpa [RV] using h
  | .bl _, _, h => by simpa [RV] using h
  | .int _, _, h => by simpa [RV] using h
  | .str _, _, h => by simpa [RV] using h
  | .tup _, _, h => by
    simp only [RV] at h ⊢
    obtain ⟨a, xs, h1, h2, h3⟩ := h
    exact ⟨a, xs, h1, h2.mono e, RVs.mono e h3⟩
  | .lst _, _, h => by
    simp only [RV] at h ⊢
    obtain ⟨a, xs, h1, h2, h3⟩ := h
    exact ⟨a, xs, h1, h2.mono e, RVs.mono e h3⟩
  | .dct _ _, _, h => by
    simp only [RV] at h ⊢
    obtain ⟨a, xs, h1, h2, h3⟩ := h
    exact ⟨a, xs, h1, h2.mono e, RVs.mono e h3⟩
  | .ref n, _, h => by
    simp only [RV] at h ⊢
    obtain ⟨a, h1, h2⟩ := h
    exact ⟨a, h1, e.pre _ _ h2⟩
  | .ty _, _, h => by simpa [RV] using h
  | .gl _, _, h => by simpa [RV] using h
  | .exn _ _ _, _, h => by
    simp only [RV] at h ⊢
    obtain ⟨p, Ca, d, xs, h1, h2, h3, h4, h5, h6, h7⟩ := h
    exact ⟨p, Ca, d, xs, h1, h2, h3, h4, h5, RVs.mono e h6, h7.imp _root_.id fun ⟨dx, q1, q2, q3⟩ => ⟨dx, q1, e.frame _ _ q3 q2, e.out q3 q2⟩⟩
  | .ins _ _ _, _, h => by
    simp only [RV] at h ⊢
    obtain ⟨a, Ca, dx, xs, h1, h2, h3, h4, h5⟩ := h
    exact ⟨a, Ca, dx, xs, h1, h2, e.out h3 h4, e.frame _ _ h3 h4, RVs.mono e h5⟩
theorem RVs.mono {C : Ctx} {μ μ' : Mu} {H H' : Hp} (e : Ext μ H μ' H') : ∀ {l : List AV} {xs : List V}, RVs C μ H l xs → RVs C μ' H' l xs
  | [], _, h => by simpa [RVs] using h
  | v :: l, _, h => by
    simp only [RVs] at h ⊢
    obtain ⟨x, r, h1, h2, h3⟩ := h
    exact ⟨x, r, h1, RV.mono e h2, RVs.mono e h3⟩
end
theorem Rd.there {H : Hp} {a : Addr} {u : HO} (h : Rd H a u) : ∃ o, H a = some o := by
  rcases h with h | ⟨o, h⟩
  · exact ⟨_, h⟩
  · exact ⟨_, h⟩
mutual
/-- other lists are filled around -/
theorem RV.turnZ {C C' : Ctx} {μ : Mu} {H : Hp} (hK : C'.K = C.K) (hm : C'.mg = C.mg) (hh : C'.hx = C.hx) (hZ : ∀ a, (∃ o, a ∉ μ ∧ H a = some o) → a ∉ C.Z → a ∉ C'.Z) : ∀ {v : AV} {x : V}, RV C μ H v x → RV C' μ H v x
  | .non, _, h => by simpa [RV] using h
  | .bl _, _, h => by simpa [RV] using h
  | .int _, _, h => by simpa [RV] using h
  | .str _, _, h => by simpa [RV] using h
  | .tup _, _, h => by
    simp only [RV] at h ⊢
    obtain ⟨a, xs, h1, h2, h3⟩ := h
    refine ⟨a, xs, h1, ?_, RVs.turnZ hK hm hh hZ h3⟩
    unfold TupAt at h2 ⊢
    rw [hK]; exact h2
  | .lst _, _, h => by
    simp only [RV] at h ⊢
    obtain ⟨a, xs, h1, h2, h3⟩ := h
    refine ⟨a, xs, h1, ?_, RVs.turnZ hK hm hh hZ h3⟩
    unfold LstAt at h2 ⊢
    rw [hK]
    exact h2.imp (fun ⟨q1, q2, q3⟩ => ⟨q1, hZ a (let ⟨o, z⟩ := Rd.there q3; ⟨o, q1, z⟩) q2, q3⟩) _root_.id
  | .dct _ _, _, h => by
    simp only [RV] at h ⊢
    obtain ⟨a, xs, h1, ⟨q1, q2, q4, q3⟩, h3⟩ := h
    exact ⟨a, xs, h1, ⟨q1, hZ a ⟨_, q1, q3⟩ q2, q4, q3⟩, RVs.turnZ hK hm hh hZ h3⟩
  | .ref n, _, h => by simpa [RV] using h
  | .ty _, _, h => by simpa [RV] using h
  | .gl _, _, h => by simpa [RV, hm] using h
  | .exn _ _ _, _, h => by
    simp only [RV] at h ⊢
    obtain ⟨p, Ca, d, xs, h1, h2, h3, h4, h5, h6, h7⟩ := h
    exact ⟨p, Ca, d, xs, hh.trans h1, h2, by rw [hm]; exact h3, h4, h5, RVs.turnZ hK hm hh hZ h6, h7⟩
  | .ins _ _ _, _, h => by
    simp only [RV] at h ⊢
    obtain ⟨a, Ca, dx, xs, h1, h2, h3, h4, h5⟩ := h
    exact ⟨a, Ca, dx, xs, h1, by rw [hm]; exact h2, h3, h4, RVs.turnZ hK hm hh hZ h5⟩
theorem RVs.turnZ {C C' : Ctx} {μ : Mu} {H : Hp} (hK : C'.K = C.K) (hm : C'.mg = C.mg) (hh : C'.hx = C.hx) (hZ : ∀ a, (∃ o, a ∉ μ ∧ H a = some o) → a ∉ C.Z → a ∉ C'.Z) : ∀ {l : List AV} {xs : List V}, RVs C μ H l xs → RVs C' μ H l xs
  | [], _, h => by simpa [RVs] using h
  | v :: l, _, h => by
    simp only [RVs] at h ⊢
    obtain ⟨x, r, h1, h2, h3⟩ := h
    exact ⟨x, r, h1, RV.turnZ hK hm hh hZ h2, RVs.turnZ hK hm hh hZ h3⟩
end
section
variable {C : Ctx} {μ μ' : Mu} {H H' : Hp} {h : AHeap}
theorem RVs.nil : RVs C μ H [] [] := by simp [RVs]
theorem RVs.cons {v : AV} {l : List AV} {x : V} {r : List V} (a : RV C μ H v x) (b : RVs C μ H l r) : RVs C μ H (v :: l) (x :: r) := by
  simp only [RVs]; exact ⟨x, r, rfl, a, b⟩
theorem RVs.inv {v : AV} {l : List AV} {xs : List V} (h : RVs C μ H (v :: l) xs) : ∃ x r, xs = x :: r ∧ RV C μ H v x ∧ RVs C μ H l r := by simpa only [RVs] using h
theorem RVs.length : ∀ {l : List AV} {xs : List V}, RVs C μ H l xs → xs.length = l.length
  | [], _, h => by simp only [RVs] at h; subst h; rfl
  | v :: l, _, h => by
    obtain ⟨x, r, rfl, _, h3⟩ := h.inv
    simp [RVs.length h3]
theorem RVs.get : ∀ {l : List AV} {xs : List V} {i : Nat} {v : AV}, RVs C μ H l xs → l[i]? = some v → ∃ x, xs[i]? = some x ∧ RV C μ H v x
  | [], _, _, _, _, e => by simp at e
  | w :: l, _, 0, v, h, e => by
    obtain ⟨x, r, rfl, h2, _⟩ := h.inv
    simp at e; subst e
    exact ⟨x, rfl, h2⟩
  | w :: l, _, i + 1, v, h, e => by
    obtain ⟨x, r, rfl, _, h3⟩ := h.inv
    obtain ⟨y, e1, e2⟩ := RVs.get (i := i) h3 (by simpa using e)
    exact ⟨y, by simpa using e1, e2⟩
theorem RVs.append : ∀ {l m : List AV} {xs ys : List V}, RVs C μ H l xs → RVs C μ H m ys → RVs C μ H (l ++ m) (xs ++ ys)
  | [], _, _, _, h, k => by simp only [RVs] at h; subst h; exact k
  | v :: l, _, _, _, h, k => by
    obtain ⟨x, r, rfl, h2, h3⟩ := h.inv
    exact .cons h2 (RVs.append h3 k)
theorem RVs.take : ∀ {l : List AV} {xs : List V} (n : Nat), RVs C μ H l xs → RVs C μ H (l.take n) (xs.take n)
  | _, _, 0, _ => by simp [RVs]
  | [], _, n + 1, h => by simp only [RVs] at h; subst h; simp [RVs]
  | v :: l, _, n + 1, h => by
    obtain ⟨x, r, rfl, h2, h3⟩ := h.inv
    exact .cons h2 (RVs.take n h3)
theorem RVs.drop : ∀ {l : List AV} {xs : List V} (n : Nat), RVs C μ H l xs → RVs C μ H (l.drop n) (xs.drop n)
  | _, _, 0, h => h
  | [], _, n + 1, h => by simp only [RVs] at h; subst h; simp [RVs]
  | v :: l, _, n + 1, h => by
    obtain ⟨x, r, rfl, h2, h3⟩ := h.inv
    exact RVs.drop n h3
theorem RVs.set {v : AV} {x : V} (q : RV C μ H v x) : ∀ {l : List AV} {xs : List V} (n : Nat), RVs C μ H l xs → RVs C μ H (l.set n v) (xs.set n x)
  | [], _, _, h => by simp only [RVs] at h; subst h; simp [RVs]
  | w :: l, _, 0, h => by
    obtain ⟨y, r, rfl, h2, h3⟩ := h.inv
    exact .cons q h3
  | w :: l, _, n + 1, h => by
    obtain ⟨y, r, rfl, h2, h3⟩ := h.inv
    exact .cons h2 (RVs.set q n h3)

theorem OR.there {o : AO} {a : Addr} (r : OR C μ H o a) : ∃ u, H a = some u ∧ Mut (some u) := by
  cases o with
  | list l => obtain ⟨xs, e, _⟩ := r; exact ⟨_, e, trivial⟩
  | set ks => exact ⟨_, r, trivial⟩
  | dct ks l => obtain ⟨xs, _, _, e, _⟩ := r; exact ⟨_, e, trivial⟩
theorem OR.mono {o : AO} {a : Addr} (e : Ext μ H μ' H') (k : H' a = H a) (r : OR C μ H o a) : OR C μ' H' o a := by
  cases o with
  | list l => obtain ⟨xs, e1, e2⟩ := r; exact ⟨xs, k.trans e1, e2.mono e⟩
  | set ks => exact k.trans r
  | dct ks l => obtain ⟨xs, e0, en, e1, e2⟩ := r; exact ⟨xs, e0, en, k.trans e1, e2.mono e⟩
theorem RepH.there (r : RepH C μ h H) {a : Addr} (ha : a ∈ μ) : ∃ u, H a = some u ∧ Mut (some u) := by
  obtain ⟨n, hn⟩ := List.getElem?_of_mem ha
  have hl : n < h.length := by rw [← r.len]; exact (List.getElem?_eq_some_iff.mp hn).1
  exact (r.obj n h[n] a (List.getElem?_eq_getElem hl) hn).there
theorem RepH.freshZ (r : RepH C μ h H) {p : Addr} (hp : H p = none) : p ∉ C.Z := fun hm => by
  obtain ⟨_, o, e⟩ := r.zs p hm
  rw [hp] at e; cases e
theorem RepH.fresh (r : RepH C μ h H) {p : Addr} (hp : H p = none) : p ∉ μ := fun hm => by
  obtain ⟨u, e, _⟩ := r.there hm
  rw [hp] at e; cases e
/-- an object outside the abstract heap comes -/
theorem Ext.laid (μ : Mu) {p : Addr} {o : HO} (hp : H p = none) : Ext μ H μ (upd H p o) :=
  ⟨fun _ _ h => h, fun _ h => .inl h, fun b u _ hb => by rw [upd_ne (ne_of_none hb hp)]; exact hb⟩
/-- what is in the abstract heap is kept as it is -/
theorem RepH.step (r : RepH C μ h H) (e : Ext μ H μ H') (k : ∀ a ∈ μ, H' a = H a) : RepH C μ h H' :=
  ⟨r.len, r.nd, fun n o a h1 h2 => (r.obj n o a h1 h2).mono e (k a (List.mem_of_getElem? h2)), fun a ha => let ⟨n, o, q⟩ := r.zs a ha; ⟨n, o, e.frame a o n q⟩⟩
theorem RepH.laid (r : RepH C μ h H) {p : Addr} {o : HO} (hp : H p = none) : RepH C μ h (upd H p o) :=
  r.step (.laid μ hp) fun a ha => upd_ne fun z => r.fresh hp (z ▸ ha)
/-- an object becomes part of the abstract heap -/
theorem Ext.adopt {p : Addr} (hp : H p = none) (e : Ext μ H μ' H') : Ext μ H (μ' ++ [p]) H' := by
  refine ⟨fun n a h => ?_, fun a h => ?_, e.frame⟩
  · have q := e.pre n a h
    rw [List.getElem?_append_left (List.getElem?_eq_some_iff.mp q).1]; exact q
  · rcases List.mem_append.mp h with h | h
    · exact e.new a h
    · have : a = p := by simpa using h
      subst this; exact .inr hp
theorem ext_push (μ : Mu) {p : Addr} {o : HO} (hp : H p = none) : Ext μ H (μ ++ [p]) (upd H p o) := .adopt hp (.laid μ hp)
theorem RepH.push (r : RepH C μ h H) {p : Addr} {o : AO} {u : HO} (hp : H p = none) (q : OR C (μ ++ [p]) (upd H p u) o p) : RepH C (μ ++ [p]) (h ++ [o]) (upd H p u) := by
  have np := r.fresh hp
  refine ⟨by simp [r.len], ?_, fun n o' a h1 h2 => ?_, fun a ha => ?_⟩
  · exact List.nodup_append.mpr ⟨r.nd, by simp, fun a ha b hb => by
      have : b = p := by simpa using hb
      subst this; intro z; exact np (z ▸ ha)⟩
  · by_cases hn : n < h.length
    · rw [List.getElem?_append_left hn] at h1
      rw [List.getElem?_append_left (by rw [r.len]; exact hn)] at h2
      exact (r.obj n o' a h1 h2).mono (ext_push μ hp) (upd_ne fun z => np (z ▸ List.mem_of_getElem? h2))
    · have e : n = h.length := by
        have := (List.getElem?_eq_some_iff.mp h1).1
        simp at this; omega
      subst e
      simp at h1; subst h1
      rw [← r.len] at h2
      simp at h2; subst h2
      exact q
  · obtain ⟨n, u, z⟩ := r.zs a ha
    have ne : a ≠ p := fun e => by rw [e, hp] at z; cases z
    exact ⟨by simp [n, ne], u, by rw [upd_ne ne]; exact z⟩
/-- an object of the abstract heap is written -/
theorem ext_write {n : Nat} {a : Addr} {u : HO} (ha : μ[n]? = some a) : Ext μ H μ (upd H a u) :=
  ⟨fun _ _ h => h, fun _ h => .inl h, fun b o hb ho => by rw [upd_ne (show b ≠ a from fun z => hb (by rw [z]; exact List.mem_of_getElem? ha))]; exact ho⟩
theorem RepH.write (r : RepH C μ h H) {n : Nat} {a : Addr} {o : AO} {u : HO} (ha : μ[n]? = some a) (q : OR C μ (upd H a u) o a) : RepH C μ (h.set n o) (upd H a u) := by
  refine ⟨by simp [r.len], r.nd, fun m o' b h1 h2 => ?_, fun b hb => let ⟨n, u, z⟩ := r.zs b hb; ⟨n, u, by rw [upd_ne (show b ≠ a from fun e => n (by rw [e]; exact List.mem_of_getElem? ha))]; exact z⟩⟩
  by_cases hm : m = n
  · subst hm
    rw [ha] at h2; cases h2
    have hl : m < h.length := by rw [← r.len]; exact (List.getElem?_eq_some_iff.mp ha).1
    rw [List.getElem?_set_self hl] at h1; cases h1
    exact q
  · rw [List.getElem?_set_ne (Ne.symm hm)] at h1
    exact (r.obj m o' b h1 h2).mono (ext_write ha) (upd_ne fun z => hm (nodup_ix r.nd h2 (z ▸ ha)))
where
  nodup_ix {N : List Addr} (hN : N.Nodup) {i j : Nat} {x : Addr} (a : N[i]? = some x) (b : N[j]? = some x) : i = j := by
    obtain ⟨h1, e1⟩ := List.getElem?_eq_some_iff.mp a
    obtain ⟨h2, e2⟩ := List.getElem?_eq_some_iff.mp b
    exact (List.getElem_inj hN).mp (e1.trans e2.symm)
theorem RepH.at (r : RepH C μ h H) {n : Nat} {a : Addr} (ha : μ[n]? = some a) : ∃ o, h[n]? = some o ∧ OR C μ H o a := by
  have hl : n < h.length := by rw [← r.len]; exact (List.getElem?_eq_some_iff.mp ha).1
  exact ⟨h[n], List.getElem?_eq_getElem hl, r.obj n _ a (List.getElem?_eq_getElem hl) ha⟩
/-- the last objects are forgotten -/
theorem RepH.of_ix (r : RepH C μ h H) {n : Nat} {o : AO} (e : h[n]? = some o) : ∃ a, μ[n]? = some a ∧ OR C μ H o a := by
  have hl : n < μ.length := by rw [r.len]; exact (List.getElem?_eq_some_iff.mp e).1
  exact ⟨μ[n], List.getElem?_eq_getElem hl, r.obj n o _ e (List.getElem?_eq_getElem hl)⟩
end

theorem OR.turnZ {C C' : Ctx} {μ : Mu} {H : Hp} {o : AO} {a : Addr} (hK : C'.K = C.K) (hm : C'.mg = C.mg) (hh : C'.hx = C.hx) (hZ : ∀ a, (∃ o, a ∉ μ ∧ H a = some o) → a ∉ C.Z → a ∉ C'.Z) (r : OR C μ H o a) (hP : C'.prog = C.prog := by rfl) (hw : C'.w = C.w := by rfl) : OR C' μ H o a := by
  cases o with
  | list l => obtain ⟨xs, e1, e2⟩ := r; exact ⟨xs, e1, e2.turnZ hK hm hh hZ⟩
  | set ks => unfold OR at r ⊢; rw [hP, hw]; exact r
  | dct ks l => obtain ⟨xs, e0, en, e1, e2⟩ := r; exact ⟨xs, e0, en, e1, e2.turnZ hK hm hh hZ⟩
theorem RepH.turnZ {C C' : Ctx} {μ : Mu} {H : Hp} {h : AHeap} (hK : C'.K = C.K) (hm : C'.mg = C.mg) (hh : C'.hx = C.hx) (hZ : ∀ a, (∃ o, a ∉ μ ∧ H a = some o) → a ∉ C.Z → a ∉ C'.Z) (hz : ∀ a ∈ C'.Z, a ∉ μ ∧ ∃ o, H a = some o) (r : RepH C μ h H) (hP : C'.prog = C.prog := by rfl) (hw : C'.w = C.w := by rfl) : RepH C' μ h H :=
  ⟨r.len, r.nd, fun n o a h1 h2 => (r.obj n o a h1 h2).turnZ hK hm hh hZ hP hw, hz⟩

/-! ### the frame's names -/
def RepE (C : Ctx) (μ : Mu) (H : Hp) (ρ : AEnv) (σ : L2.St) : Prop := ρ.length = σ.length ∧ ∀ (i : Nat) (v : AV), ρ[i]? = some (some v) → ∃ x, σ[i]? = some (some x) ∧ RV C μ H v x
theorem RepE.mono {C : Ctx} {μ μ' : Mu} {H H' : Hp} {ρ : AEnv} {σ : L2.St} (e : Ext μ H μ' H') (r : RepE C μ H ρ σ) : RepE C μ' H' ρ σ :=
  ⟨r.1, fun i v h => let ⟨x, h1, h2⟩ := r.2 i v h; ⟨x, h1, h2.mono e⟩⟩
theorem RepE.set {C : Ctx} {μ : Mu} {H : Hp} {ρ : AEnv} {σ : L2.St} (r : RepE C μ H ρ σ) {v : AV} {x : V} (q : RV C μ H v x) (i : Nat) : RepE C μ H (ρ.set i (some v)) (σ.set i (some x)) := by
  refine ⟨by simp [r.1], fun j w h => ?_⟩
  by_cases hj : j = i
  · subst hj
    by_cases hl : j < ρ.length
    · rw [List.getElem?_set_self hl] at h; cases h
      exact ⟨x, by rw [List.getElem?_set_self (by rw [← r.1]; exact hl)], q⟩
    · rw [List.getElem?_eq_none (by simpa using hl)] at h; cases h
  · rw [List.getElem?_set_ne (Ne.symm hj)] at h
    obtain ⟨y, h1, h2⟩ := r.2 j w h
    exact ⟨y, by rw [List.getElem?_set_ne (Ne.symm hj)]; exact h1, h2⟩

theorem RepE.turnZ {C C' : Ctx} {μ : Mu} {H : Hp} {ρ : AEnv} {σ : L2.St} (hK : C'.K = C.K) (hm : C'.mg = C.mg) (hh : C'.hx = C.hx) (hZ : ∀ a, (∃ o, a ∉ μ ∧ H a = some o) → a ∉ C.Z → a ∉ C'.Z) (r : RepE C μ H ρ σ) : RepE C' μ H ρ σ :=
  ⟨r.1, fun i v h => let ⟨x, h1, h2⟩ := r.2 i v h; ⟨x, h1, h2.turnZ hK hm hh hZ⟩⟩

/-! ### exceptions -/
/-- the exception's class, its own dict -/
def RX (C : Ctx) (μ : Mu) (H : Hp) (e : AX) (cls : Value) (d : Option Addr) : Prop :=
  ∃ a, C.mg e.cls = some (.ref a) ∧ cls = .ref a ∧
    match e.names with
    | [] => e.vals = [] ∧ d = none
    | _ => ∃ dx xs, d = some dx ∧ H dx = some (.xd (e.names.zip xs)) ∧ dx ∉ μ ∧ RVs C μ H e.vals xs

/-! ### what comes of it -/
def Post {α : Type} (C : Ctx) (μ : Mu) (H : Hp) (E : XK) (R : Mu → Hp → AHeap → α → Prop) : Res α → Prop
  | .ok a h' => ∀ μ' H', Ext μ H μ' H' → RepH C μ' h' H' → R μ' H' h' a
  | .exc e h' => ∀ μ' H' cls d, Ext μ H μ' H' → RepH C μ' h' H' → RX C μ' H' e cls d → E cls d H'
  | .bad => False
theorem Post.mono {α : Type} {C : Ctx} {μ : Mu} {H : Hp} {E : XK} {R R' : Mu → Hp → AHeap → α → Prop} {r : Res α} (p : Post C μ H E R r) (k : ∀ μ' H' h' a, Ext μ H μ' H' → RepH C μ' h' H' → R μ' H' h' a → R' μ' H' h' a) : Post C μ H E R' r := by
  cases r with
  | ok a h' => exact fun μ' H' e q => k _ _ _ _ e q (p μ' H' e q)
  | exc e h' => exact p
  | bad => exact p
theorem Post.bind {α β : Type} {C : Ctx} {μ : Mu} {H : Hp} {E : XK} {R : Mu → Hp → AHeap → β → Prop} {r : Res α} {k : α → AHeap → Res β} (p : Post C μ H E R (r.bind k)) :
    Post C μ H E (fun μ1 H1 h1 a => Post C μ1 H1 E R (k a h1)) r := by
  cases r with
  | ok a h' =>
    intro μ1 H1 e1 r1
    have p : Post C μ H E R (k a h') := p
    cases q : k a h' with
    | ok b h2 => rw [q] at p; exact fun μ2 H2 e2 r2 => p μ2 H2 (e1.trans e2) r2
    | exc x h2 => rw [q] at p; exact fun μ2 H2 cls d e2 r2 => p μ2 H2 cls d (e1.trans e2) r2
    | bad => rw [q] at p; exact p
  | exc e h' => exact p
  | bad => exact p
theorem Post.ext {α : Type} {C : Ctx} {μ μ1 : Mu} {H H1 : Hp} {E : XK} {R : Mu → Hp → AHeap → α → Prop} {r : Res α} (e1 : Ext μ H μ1 H1) (p : Post C μ H E R r) : Post C μ1 H1 E R r := by
  cases r with
  | ok a h' => exact fun μ2 H2 e2 r2 => p μ2 H2 (e1.trans e2) r2
  | exc x h' => exact fun μ2 H2 cls d e2 r2 => p μ2 H2 cls d (e1.trans e2) r2
  | bad => exact p

end AI
namespace AI
open PySem PySem.Spec PyProof.Rows
open L2

abbrev AE := AEnv → AHeap → Res AV
abbrev AT := AEnv → AHeap → Res Bool
abbrev AA := AEnv → AHeap → Res (List AV)
/-- the exception that a context of code handles -/
def hxOf : Bool → List (Addr × Obj) → Option (Addr × Obj)
  | true, _ => none
  | false, pn => pn.head?
theorem hxOf_calm {b : Bool} {pn : List (Addr × Obj)} (h : b = true) : hxOf b pn = none := by subst h; rfl
abbrev cc (X : Cx) (Z : List Addr) : Ctx := ⟨X.prog, X.w, X.K, X.mg, Z, hxOf X.calm X.pn⟩
theorem cc_calm {X : Cx} {Z : List Addr} (h : X.calm = true) : cc X Z = ⟨X.prog, X.w, X.K, X.mg, Z, none⟩ := by unfold cc; rw [hxOf_calm h]

/-! ### readings of mirrors -/
abbrev RVK (C : Ctx) (Q : VK) : Mu → Hp → AHeap → AV → Prop := fun μ' H' _ v => ∀ x, RV C μ' H' v x → Q x H'
def tD (X : Cx) (W : WX) (f : AE) : TE := fun σ H Q => ∃ Z μ ρ h, RepH (cc X Z) μ h H ∧ RepE (cc X Z) μ H ρ σ ∧ Post (cc X Z) μ H (fun c d H' => W c d σ H') (RVK (cc X Z) Q) (f ρ h)
def tDT (X : Cx) (W : WX) (f : AT) : TT := fun σ H Q => ∃ Z μ ρ h, RepH (cc X Z) μ h H ∧ RepE (cc X Z) μ H ρ σ ∧ Post (cc X Z) μ H (fun c d H' => W c d σ H') (fun _ H' _ b => Q b H') (f ρ h)
def tDA (X : Cx) (W : WX) (f : AA) : TA := fun σ H Q => ∃ Z μ ρ h, RepH (cc X Z) μ h H ∧ RepE (cc X Z) μ H ρ σ ∧ Post (cc X Z) μ H (fun c d H' => W c d σ H') (fun μ' H' _ l => ∀ xs, RVs (cc X Z) μ' H' l xs → Q xs H') (f ρ h)
/-- p, a new list of l, not yet part of the abstract heap h -/
structure NewAt (C : Ctx) (H : Hp) (μ : Mu) (H' : Hp) (h : AHeap) (l : List AV) (p : Addr) (xs : List V) : Prop where
  new : H p = Option.none
  at_ : H' p = some (.lst xs)
  nm : p ∉ μ
  nz : p ∉ C.Z
  rv : RVs C μ H' l xs
  rh : RepH C (μ ++ [p]) (h ++ [.list l]) H'
abbrev NewL (C : Ctx) (H : Hp) (Q : VK) : Mu → Hp → AHeap → List AV → Prop := fun μ' H' h' l => ∀ p xs, NewAt C H μ' H' h' l p xs → Q (.ref p) H'
def tDL (X : Cx) (W : WX) (f : AA) : TE := fun σ H Q => ∃ Z μ ρ h, RepH (cc X Z) μ h H ∧ RepE (cc X Z) μ H ρ σ ∧ Post (cc X Z) μ H (fun c d H' => W c d σ H') (NewL (cc X Z) H Q) (f ρ h)

structure DE (X : Cx) (W : WX) (e : Expr) (f : AE) : Prop where
  pe : PE X e (tD X W f)
structure DT (X : Cx) (W : WX) (e : Expr) (f : AT) : Prop where
  pt : PT X e (tDT X W f)
structure DW (X : Cx) (W : WX) (e : Expr) (f : AT) : Prop where
  pw : PW X e (tDT X W f)
structure DA (X : Cx) (W : WX) (es : List Expr) (f : AA) : Prop where
  pa : PA X es (tDA X W f)
structure DL (X : Cx) (W : WX) (e : Expr) (f : AA) : Prop where
  pe : PE X e (tDL X W f)

theorem PE.wk {X : Cx} {e : Expr} {t t' : TE} (h : PE X e t) (k : ∀ σ H Q, t' σ H Q → t σ H Q) : PE X e t' := ⟨fun pins s σ H Q I hw => h.run pins s σ H Q I (k σ H Q hw)⟩
theorem PT.wk {X : Cx} {e : Expr} {t t' : TT} (h : PT X e t) (k : ∀ σ H Q, t' σ H Q → t σ H Q) : PT X e t' := ⟨fun pins s σ H Q I hw => h.run pins s σ H Q I (k σ H Q hw)⟩
theorem PW.wk {X : Cx} {e : Expr} {t t' : TT} (h : PW X e t) (k : ∀ σ H Q, t' σ H Q → t σ H Q) : PW X e t' := ⟨fun wh pins s σ H Q I hw => h.run wh pins s σ H Q I (k σ H Q hw)⟩
theorem PA.wk {X : Cx} {e : List Expr} {t t' : TA} (h : PA X e t) (k : ∀ σ H Q, t' σ H Q → t σ H Q) : PA X e t' := ⟨fun pos pins s σ H Q I hw => h.run pos pins s σ H Q I (k σ H Q hw)⟩

section
variable {X : Cx} {Z : List Addr} {W : WX} {σ : L2.St} {H : Hp} {μ : Mu} {ρ : AEnv} {h : AHeap} {β : Type} {R : Mu → Hp → AHeap → β → Prop}
/-- first f, then the rest -/
theorem tD.seq {f : AE} {k : AV → AHeap → Res β} {Y : VK} (rh : RepH (cc X Z) μ h H) (re : RepE (cc X Z) μ H ρ σ) (p : Post (cc X Z) μ H (fun c d H' => W c d σ H') R ((f ρ h).bind k))
    (hY : ∀ μ1 H1 h1 v x, Ext μ H μ1 H1 → RepH (cc X Z) μ1 h1 H1 → RepE (cc X Z) μ1 H1 ρ σ → RV (cc X Z) μ1 H1 v x → Post (cc X Z) μ1 H1 (fun c d H' => W c d σ H') R (k v h1) → Y x H1) : tD X W f σ H Y :=
  ⟨Z, μ, ρ, h, rh, re, p.bind.mono fun μ1 H1 h1 v e r q x rx => hY μ1 H1 h1 v x e r (re.mono e) rx q⟩
theorem tDT.seq {f : AT} {k : Bool → AHeap → Res β} {Y : Bool → Hp → Prop} (rh : RepH (cc X Z) μ h H) (re : RepE (cc X Z) μ H ρ σ) (p : Post (cc X Z) μ H (fun c d H' => W c d σ H') R ((f ρ h).bind k))
    (hY : ∀ μ1 H1 h1 v, Ext μ H μ1 H1 → RepH (cc X Z) μ1 h1 H1 → RepE (cc X Z) μ1 H1 ρ σ → Post (cc X Z) μ1 H1 (fun c d H' => W c d σ H') R (k v h1) → Y v H1) : tDT X W f σ H Y :=
  ⟨Z, μ, ρ, h, rh, re, p.bind.mono fun μ1 H1 h1 v e r q => hY μ1 H1 h1 v e r (re.mono e) q⟩
theorem tDA.seq {f : AA} {k : List AV → AHeap → Res β} {Y : List V → Hp → Prop} (rh : RepH (cc X Z) μ h H) (re : RepE (cc X Z) μ H ρ σ) (p : Post (cc X Z) μ H (fun c d H' => W c d σ H') R ((f ρ h).bind k))
    (hY : ∀ μ1 H1 h1 v x, Ext μ H μ1 H1 → RepH (cc X Z) μ1 h1 H1 → RepE (cc X Z) μ1 H1 ρ σ → RVs (cc X Z) μ1 H1 v x → Post (cc X Z) μ1 H1 (fun c d H' => W c d σ H') R (k v h1) → Y x H1) : tDA X W f σ H Y :=
  ⟨Z, μ, ρ, h, rh, re, p.bind.mono fun μ1 H1 h1 v e r q x rx => hY μ1 H1 h1 v x e r (re.mono e) rx q⟩
theorem tDL.seq {f : AA} {k : List AV → AHeap → Res β} {Y : VK} (rh : RepH (cc X Z) μ h H) (re : RepE (cc X Z) μ H ρ σ) (p : Post (cc X Z) μ H (fun c d H' => W c d σ H') R ((f ρ h).bind k))
    (hY : ∀ μ1 H1 h1 l p xs, Ext μ H μ1 H1 → RepH (cc X Z) μ1 h1 H1 → RepE (cc X Z) μ1 H1 ρ σ → NewAt (cc X Z) H μ1 H1 h1 l p xs → Post (cc X Z) μ1 H1 (fun c d H' => W c d σ H') R (k l h1) → Y (.ref p) H1) : tDL X W f σ H Y :=
  ⟨Z, μ, ρ, h, rh, re, p.bind.mono fun μ1 H1 h1 v e r q p xs n => hY μ1 H1 h1 v p xs e r (re.mono e) n q⟩
end
section
variable {C : Ctx} {H : Hp} {μ : Mu} {h : AHeap}
/-- at the end, nothing has changed -/
theorem Post.fin {α : Type} {E : XK} {R : Mu → Hp → AHeap → α → Prop} {a : α} (p : Post C μ H E R (.ok a h)) (rh : RepH C μ h H) : R μ H h a := p μ H (.refl μ H) rh
/-- at the end, an object outside has come -/
theorem Post.fin1 {α : Type} {E : XK} {R : Mu → Hp → AHeap → α → Prop} {a : α} (p : Post C μ H E R (.ok a h)) (rh : RepH C μ h H) {q : Addr} {o : HO} (hq : H q = none) : R μ (upd H q o) h a :=
  p μ _ (.laid μ hq) (rh.laid hq)
end

/-! ### names and constants -/
def aVar (i : Nat) : AE := fun ρ h => match ρ[i]? with
  | some (some v) => .ok v h
  | _ => .bad
def aC (v : AV) : AE := fun _ h => .ok v h
section
variable {X : Cx} {W : WX} {pos : Pos}
theorem DE.var (i : Nat) {x : Str} (hN : X.N[i]? = some x := by rfl) (hv : Vis X.env.scope x := by first | exact Or.inl rfl | exact Or.inr (Or.inl rfl) | exact Or.inr (Or.inr rfl)) (hd : (x == ("__debug__" : Str)) = false := by rfl)
    (hcd : (x == ("__classdict__" : Str)) = false := by rfl) : DE X W (.Name x pos) (aVar i) := by
  refine ⟨PE.wk (pe_var hN hv hd hcd) fun σ H Q h => ?_⟩
  obtain ⟨Z, μ, ρ, h, rh, re, p⟩ := h
  unfold aVar at p
  split at p
  · rename_i v e
    obtain ⟨x, e1, e2⟩ := re.2 i v e
    exact ⟨x, e1, p.fin rh x e2⟩
  · exact p.elim
theorem DE.int {i : Int} {j : Nat} : DE X W (.Constant (.int i) j pos) (aC (.int i)) :=
  ⟨PE.wk pe_int fun σ H Q ⟨Z, μ, ρ, h, rh, re, p⟩ => Post.fin (a := AV.int i) p rh _ (by simp [RV])⟩
theorem DE.bool {b : Bool} {j : Nat} : DE X W (.Constant (.bool b) j pos) (aC (.bl b)) :=
  ⟨PE.wk pe_bl fun σ H Q ⟨Z, μ, ρ, h, rh, re, p⟩ => Post.fin (a := AV.bl b) p rh _ (by simp [RV])⟩
theorem DE.nonE {j : Nat} : DE X W (.Constant .none j pos) (aC .non) :=
  ⟨PE.wk pe_non fun σ H Q ⟨Z, μ, ρ, h, rh, re, p⟩ => Post.fin (a := AV.non) p rh _ (by simp [RV])⟩
theorem DE.str {x : Str} {j : Nat} (l : List Nat) (e : x.cps.toList = l := by rfl) : DE X W (.Constant (.str x) j pos) (aC (.str l)) :=
  ⟨PE.wk pe_str fun σ H Q ⟨Z, μ, ρ, h, rh, re, p⟩ => Post.fin (a := AV.str l) p rh _ (by simp [RV, ← e])⟩
/-- a module's name that holds a value of the text -/
theorem DE.glob {x : Str} {v : AV} (hg : Gl X x) (hm : ∃ u, X.mg x = some u ∧ ∀ Z μ H, ∃ y, RelV y u ∧ RV (cc X Z) μ H v y) (hd : (x == ("__debug__" : Str)) = false := by rfl) : DE X W (.Name x pos) (aC v) := by
  obtain ⟨u, hm, hv⟩ := hm
  obtain ⟨y, r, _⟩ := hv [] [] (fun _ => none)
  refine ⟨PE.wk (pe_glob hg hm r hd) fun σ H Q ⟨Z, μ, ρ, h, rh, re, p⟩ => ?_⟩
  obtain ⟨y', r', q⟩ := hv Z μ H
  have : y' = y := r'.inj r
  subst this
  exact Post.fin (a := v) p rh _ q
/-- a built-in class as a value -/
theorem DE.ty {x : Str} (n : Tag) (hg : Gl X x) (hm : X.mg x = none) (hv : bootBuiltins x = some (.type n.nm)) (hn : x ≠ "__name__" := by decide) (hd : (x == ("__debug__" : Str)) = false := by rfl) : DE X W (.Name x pos) (aC (.ty n)) :=
  ⟨PE.wk (pe_bltn (v := .ty n.nm) hg hm hv rfl hn hd) fun σ H Q ⟨Z, μ, ρ, h, rh, re, p⟩ => Post.fin (a := AV.ty n) p rh _ (by simp [RV])⟩

/-! ### operators by values: what comes is outside the abstract heap -/
abbrev POp2 := AHeap → AV → AV → Option AV
abbrev POp1 := AHeap → AV → Option AV
def lift1 (o : Option AV) (h : AHeap) : Res AV := match o with
  | some v => .ok v h
  | none => .bad
def Out (C : Ctx) (μ : Mu) (H : Hp) (h : AHeap) (v : AV) (Q : VK) : Prop := ∀ H' z, Ext μ H μ H' → RepH C μ h H' → RV C μ H' v z → Q z H'
theorem Out.of {C : Ctx} {μ : Mu} {H : Hp} {h : AHeap} {o : Option AV} {E : XK} {Q : VK} (p : Post C μ H E (RVK C Q) (lift1 o h)) : ∃ v, o = some v ∧ Out C μ H h v Q := by
  cases o with
  | none => exact (show False from p).elim
  | some v => exact ⟨v, rfl, fun H' z e r q => p μ H' e r z q⟩
/-- the answer is a plain value -/
theorem Out.val {C : Ctx} {μ : Mu} {H : Hp} {h : AHeap} {v : AV} {Q : VK} (o : Out C μ H h v Q) (rh : RepH C μ h H) {x : V} (r : RV C μ H v x) : Q x H := o H x (.refl μ H) rh r
theorem Out.new {C : Ctx} {μ : Mu} {H : Hp} {h : AHeap} {v : AV} {Q : VK} (o : Out C μ H h v Q) (rh : RepH C μ h H) {p : Addr} {u : HO} (hp : H p = none) (r : RV C μ (upd H p u) v (.ref p)) : Q (.ref p) (upd H p u) :=
  o _ _ (.laid μ hp) (rh.laid hp) r
def rA (X : Cx) (op : POp2) : R2 := fun x y H Q => ∃ Z μ h a b v, RepH (cc X Z) μ h H ∧ RV (cc X Z) μ H a x ∧ RV (cc X Z) μ H b y ∧ op h a b = some v ∧ Out (cc X Z) μ H h v Q
def VOp (X : Cx) (f : Value → Value → Sem Value) (op : POp2) : Prop := OpR X f (rA X op)
def rA1 (X : Cx) (op : POp1) : V → Hp → VK → Prop := fun x H Q => ∃ Z μ h a v, RepH (cc X Z) μ h H ∧ RV (cc X Z) μ H a x ∧ op h a = some v ∧ Out (cc X Z) μ H h v Q
def VUn (X : Cx) (f : Value → Sem Value) (op : POp1) : Prop := UnR X f (rA1 X op)

def aBin (op : POp2) (fa fb : AE) : AE := fun ρ h => (fa ρ h).bind fun a h1 => (fb ρ h1).bind fun b h2 => lift1 (op h2 a b) h2
def aUn (op : POp1) (fa : AE) : AE := fun ρ h => (fa ρ h).bind fun a h1 => lift1 (op h1 a) h1
theorem tOp_of {op : POp2} {fa fb : AE} {σ : L2.St} {H : Hp} {Q : VK} (h : tD X W (aBin op fa fb) σ H Q) : tOp (rA X op) (tD X W fa) (tD X W fb) σ H Q := by
  obtain ⟨Z, μ, ρ, h, rh, re, p⟩ := h
  refine tD.seq rh re p fun μ1 H1 h1 a x e1 rh1 re1 ra p1 => ?_
  refine tD.seq rh1 re1 p1 fun μ2 H2 h2 b y e2 rh2 re2 rb p2 => ?_
  obtain ⟨v, ev, o⟩ := Out.of p2
  exact ⟨Z, μ2, h2, a, b, v, rh2, ra.mono e2, rb, ev, o⟩
theorem DE.bin {o : Operator} {op : POp2} {a b : Expr} {fa fb : AE} (ho : VOp X (binaryOp o) op) (ha : DE X W a fa) (hb : DE X W b fb) : DE X W (.BinOp a o b pos) (aBin op fa fb) :=
  ⟨PE.wk (pe_op ho ha.pe hb.pe) fun σ H Q h => tOp_of h⟩
theorem DE.un {o : UnaryOp} {op : POp1} {a : Expr} {fa : AE} (ho : VUn X (unaryOp o) op) (ha : DE X W a fa) : DE X W (.UnaryOp o a pos) (aUn op fa) := by
  refine ⟨PE.wk (pe_un ho ha.pe) fun σ H Q h => ?_⟩
  obtain ⟨Z, μ, ρ, h, rh, re, p⟩ := h
  refine tD.seq rh re p fun μ1 H1 h1 a x e1 rh1 re1 ra p1 => ?_
  obtain ⟨v, ev, o⟩ := Out.of p1
  exact ⟨Z, μ1, h1, a, v, rh1, ra, ev, o⟩
/-- comparisons -/
theorem DE.cmp {o : CmpOp} {op : POp2} {a b : Expr} {fa fb : AE} (ho : VOp X (compareOp o) op) (ha : DE X W a fa) (hb : DE X W b fb) (hm : behindInMarks o b = false := by first | exact nomark _ | with_unfolding_all rfl) : DE X W (.Compare a [o] [b] pos) (aBin op fa fb) :=
  ⟨PE.wk (pe_cmpR ho ha.pe hb.pe hm) fun σ H Q h => tOp_of h⟩
def toB (v : AV) (h : AHeap) : Res Bool := match v with
  | .bl b => .ok b h
  | _ => .bad
def aTest (f : AE) : AT := fun ρ h => (f ρ h).bind toB
theorem toB_inv {C : Ctx} {μ : Mu} {H : Hp} {h : AHeap} {E : XK} {R : Mu → Hp → AHeap → Bool → Prop} {v : AV} (p : Post C μ H E R (toB v h)) : ∃ b, v = .bl b ∧ Post C μ H E R (.ok b h) := by
  cases v with
  | bl b => exact ⟨b, rfl, p⟩
  | _ => exact (show False from p).elim
theorem RV.bl_inv {C : Ctx} {μ : Mu} {H : Hp} {b : Bool} {x : V} (r : RV C μ H (.bl b) x) : x = .bl b := by simpa only [RV] using r
theorem RV.int_inv {C : Ctx} {μ : Mu} {H : Hp} {b : Int} {x : V} (r : RV C μ H (.int b) x) : x = .int b := by simpa only [RV] using r
theorem RV.str_inv {C : Ctx} {μ : Mu} {H : Hp} {b : List Nat} {x : V} (r : RV C μ H (.str b) x) : x = .str ⟨b.toArray⟩ := by simpa only [RV] using r
theorem RV.non_inv {C : Ctx} {μ : Mu} {H : Hp} {x : V} (r : RV C μ H .non x) : x = .non := by simpa only [RV] using r
theorem RV.tup_inv {C : Ctx} {μ : Mu} {H : Hp} {l : List AV} {x : V} (r : RV C μ H (.tup l) x) : ∃ a xs, x = .ref a ∧ TupAt C μ H a xs ∧ RVs C μ H l xs := by simpa only [RV] using r
theorem RV.lst_inv {C : Ctx} {μ : Mu} {H : Hp} {l : List AV} {x : V} (r : RV C μ H (.lst l) x) : ∃ a xs, x = .ref a ∧ LstAt C μ H a xs ∧ RVs C μ H l xs := by simpa only [RV] using r
theorem RV.ref_inv {C : Ctx} {μ : Mu} {H : Hp} {n : Nat} {x : V} (r : RV C μ H (.ref n) x) : ∃ a, x = .ref a ∧ μ[n]? = some a := by simpa only [RV] using r
theorem RV.dct_inv {C : Ctx} {μ : Mu} {H : Hp} {ks : List Key} {l : List AV} {x : V} (r : RV C μ H (.dct ks l) x) : ∃ a xs, x = .ref a ∧ DctAt C μ H a ks xs ∧ RVs C μ H l xs := by simpa only [RV] using r
theorem RV.dct {C : Ctx} {μ : Mu} {H : Hp} {ks : List Key} {l : List AV} {a : Addr} {xs : List V} (h : DctAt C μ H a ks xs) (r : RVs C μ H l xs) : RV C μ H (.dct ks l) (.ref a) := by simp only [RV]; exact ⟨a, xs, rfl, h, r⟩
theorem RV.ty_inv {C : Ctx} {μ : Mu} {H : Hp} {n : Tag} {x : V} (r : RV C μ H (.ty n) x) : x = .ty n.nm := by simpa only [RV] using r
theorem RV.bl {C : Ctx} {μ : Mu} {H : Hp} {b : Bool} : RV C μ H (.bl b) (.bl b) := by simp [RV]
theorem RV.int {C : Ctx} {μ : Mu} {H : Hp} {b : Int} : RV C μ H (.int b) (.int b) := by simp [RV]
theorem RV.non {C : Ctx} {μ : Mu} {H : Hp} : RV C μ H .non .non := by simp [RV]
theorem RV.str {C : Ctx} {μ : Mu} {H : Hp} {b : List Nat} : RV C μ H (.str b) (.str ⟨b.toArray⟩) := by simp [RV]
theorem RV.tup {C : Ctx} {μ : Mu} {H : Hp} {l : List AV} {a : Addr} {xs : List V} (h : TupAt C μ H a xs) (r : RVs C μ H l xs) : RV C μ H (.tup l) (.ref a) := by simp only [RV]; exact ⟨a, xs, rfl, h, r⟩
theorem RV.lst {C : Ctx} {μ : Mu} {H : Hp} {l : List AV} {a : Addr} {xs : List V} (h : LstAt C μ H a xs) (r : RVs C μ H l xs) : RV C μ H (.lst l) (.ref a) := by simp only [RV]; exact ⟨a, xs, rfl, h, r⟩
theorem RV.ref {C : Ctx} {μ : Mu} {H : Hp} {n : Nat} {a : Addr} (h : μ[n]? = some a) : RV C μ H (.ref n) (.ref a) := by simp only [RV]; exact ⟨a, rfl, h⟩
theorem tTest_of {f : AE} {σ : L2.St} {H : Hp} {Q : Bool → Hp → Prop} (h : tDT X W (aTest f) σ H Q) : tTest (tD X W f) σ H Q := by
  obtain ⟨Z, μ, ρ, h, rh, re, p⟩ := h
  refine tD.seq rh re p fun μ1 H1 h1 v x e1 rh1 re1 rv p1 => ?_
  obtain ⟨b, rfl, p2⟩ := toB_inv p1
  exact ⟨b, rv.bl_inv, p2.fin rh1⟩
theorem DT.cmp {o : CmpOp} {op : POp2} {a b : Expr} {fa fb : AE} (ho : VOp X (compareOp o) op) (ha : DE X W a fa) (hb : DE X W b fb) (hm : behindInMarks o b = false := by first | exact nomark _ | with_unfolding_all rfl) : DT X W (.Compare a [o] [b] pos) (aTest (aBin op fa fb)) := by
  refine ⟨PT.wk (pt_cmpR ho ha.pe hb.pe hm) fun σ H Q h => ?_⟩
  obtain ⟨Z, μ, ρ, h, rh, re, p⟩ := tTest_of h
  exact tOp_of ⟨Z, μ, ρ, h, rh, re, p⟩
/-- a op1 b op2 c -/
def aChain (op op' : POp2) (fa fb fc : AE) : AE := fun ρ h => (fa ρ h).bind fun a h1 => (fb ρ h1).bind fun b h2 => (lift1 (op h2 a b) h2).bind fun r h3 => (toB r h3).bind fun k h4 =>
  if k = true then (fc ρ h4).bind fun c h5 => lift1 (op' h5 b c) h5 else .ok (.bl false) h4
theorem chain_of {op op' : POp2} {fa fb fc : AE} {σ : L2.St} {H : Hp} {Q : VK} (h : tD X W (aChain op op' fa fb fc) σ H Q) : tChain (rA X op) (rA X op') (tD X W fa) (tD X W fb) (tD X W fc) σ H Q := by
  obtain ⟨Z, μ, ρ, h, rh, re, p⟩ := h
  refine tD.seq rh re p fun μ1 H1 h1 a x e1 rh1 re1 ra p1 => ?_
  refine tD.seq rh1 re1 p1 fun μ2 H2 h2 b y e2 rh2 re2 rb p2 => ?_
  cases ev : op h2 a b with
  | none => rw [ev] at p2; exact (show False from p2).elim
  | some v =>
    rw [ev] at p2
    refine ⟨Z, μ2, h2, a, b, v, rh2, ra.mono e2, rb, ev, fun H3 z e3 rh3 rz => ?_⟩
    obtain ⟨k, rfl, p3⟩ := toB_inv (Post.bind (r := toB v h2) p2)
    refine ⟨k, rz.bl_inv, ?_⟩
    have p4 := (p3.fin rh2).ext e3
    cases k with
    | true =>
      rw [if_pos rfl] at p4 ⊢
      refine tD.seq rh3 (re2.mono e3) p4 fun μ4 H4 h4 c w e4 rh4 re4 rc p5 => ?_
      obtain ⟨v5, ev5, o5⟩ := Out.of p5
      exact ⟨Z, μ4, h4, b, c, v5, rh4, (rb.mono e3).mono e4, rc, ev5, o5⟩
    | false =>
      rw [if_neg Bool.false_ne_true] at p4 ⊢
      exact p4.fin rh3 _ .bl
theorem DE.chain {o o' : CmpOp} {op op' : POp2} {a b c : Expr} {fa fb fc : AE} (ho : VOp X (compareOp o) op) (ho' : VOp X (compareOp o') op') (ha : DE X W a fa) (hb : DE X W b fb) (hc : DE X W c fc)
    (hm : lastMarks [o, o'] [b, c] = false := by with_unfolding_all rfl) : DE X W (.Compare a [o, o'] [b, c] pos) (aChain op op' fa fb fc) :=
  ⟨PE.wk (pe_chain ho ho' ha.pe hb.pe hc.pe hm) fun σ H Q h => chain_of h⟩
theorem DT.chain {o o' : CmpOp} {op op' : POp2} {a b c : Expr} {fa fb fc : AE} (ho : VOp X (compareOp o) op) (ho' : VOp X (compareOp o') op') (ha : DE X W a fa) (hb : DE X W b fb) (hc : DE X W c fc)
    (hm : lastMarks [o, o'] [b, c] = false := by with_unfolding_all rfl) : DT X W (.Compare a [o, o'] [b, c] pos) (aTest (aChain op op' fa fb fc)) := by
  refine ⟨PT.wk (pt_chain ho ho' ha.pe hb.pe hc.pe hm) fun σ H Q h => ?_⟩
  obtain ⟨Z, μ, ρ, h, rh, re, p⟩ := tTest_of h
  exact chain_of ⟨Z, μ, ρ, h, rh, re, p⟩

/-! ### and, or, not -/
def aAndT (f g : AT) : AT := fun ρ h => (f ρ h).bind fun b h1 => if b = true then g ρ h1 else .ok false h1
def aOrT (f g : AT) : AT := fun ρ h => (f ρ h).bind fun b h1 => if b = true then .ok true h1 else g ρ h1
def aNotT (f : AT) : AT := fun ρ h => (f ρ h).bind fun b h1 => .ok (!b) h1
theorem DW.dt {e : Expr} {f : AT} (h : DW X W e f) : DT X W e f := ⟨h.pw.pt⟩
variable {a b c : Expr} {rest : List Expr} {fa fb fc : AE} {ta tb tc : AT}
theorem DW.and1 (ha : DT X W a ta) : DW X W (.BoolOp .And [a] pos) ta := ⟨pw_and1 ha.pt⟩
theorem DW.or1 (ha : DT X W a ta) : DW X W (.BoolOp .Or [a] pos) ta := ⟨pw_or1 ha.pt⟩
theorem DW.and (ha : DT X W a ta) (hb : DW X W (.BoolOp .And (b :: rest) pos) tb) : DW X W (.BoolOp .And (a :: b :: rest) pos) (aAndT ta tb) := by
  refine ⟨PW.wk (pw_and ha.pt hb.pw) fun σ H Q h => ?_⟩
  obtain ⟨Z, μ, ρ, h, rh, re, p⟩ := h
  refine tDT.seq rh re p fun μ1 H1 h1 v e1 rh1 re1 p1 => ?_
  cases v with
  | true => rw [if_pos rfl] at p1 ⊢; exact ⟨Z, μ1, ρ, h1, rh1, re1, p1⟩
  | false => rw [if_neg Bool.false_ne_true] at p1 ⊢; exact p1.fin rh1
theorem DW.or (ha : DT X W a ta) (hb : DW X W (.BoolOp .Or (b :: rest) pos) tb) : DW X W (.BoolOp .Or (a :: b :: rest) pos) (aOrT ta tb) := by
  refine ⟨PW.wk (pw_or ha.pt hb.pw) fun σ H Q h => ?_⟩
  obtain ⟨Z, μ, ρ, h, rh, re, p⟩ := h
  refine tDT.seq rh re p fun μ1 H1 h1 v e1 rh1 re1 p1 => ?_
  cases v with
  | true => rw [if_pos rfl] at p1 ⊢; exact p1.fin rh1
  | false => rw [if_neg Bool.false_ne_true] at p1 ⊢; exact ⟨Z, μ1, ρ, h1, rh1, re1, p1⟩
theorem DT.not (ha : DT X W a ta) : DT X W (.UnaryOp .Not a pos) (aNotT ta) := by
  refine ⟨PT.wk (pt_not ha.pt) fun σ H Q h => ?_⟩
  obtain ⟨Z, μ, ρ, h, rh, re, p⟩ := h
  exact tDT.seq rh re p fun μ1 H1 h1 v e1 rh1 re1 p1 => p1.fin rh1
/-- .. as values, of bools -/
def aAnd (f g : AE) : AE := fun ρ h => (f ρ h).bind fun v h1 => (toB v h1).bind fun b h2 => if b = true then g ρ h2 else .ok (.bl false) h2
def aOr (f g : AE) : AE := fun ρ h => (f ρ h).bind fun v h1 => (toB v h1).bind fun b h2 => if b = true then .ok (.bl true) h2 else g ρ h2
def aNot (f : AE) : AE := fun ρ h => (f ρ h).bind fun v h1 => (toB v h1).bind fun b h2 => .ok (.bl (!b)) h2
theorem DE.one {op : BoolOp} {f : AE} (ha : DE X W a f) : DE X W (.BoolOp op [a] pos) f := ⟨pe_one ha.pe⟩
theorem DE.and (ha : DE X W a fa) (hb : DE X W (.BoolOp .And (b :: rest) pos) fb) : DE X W (.BoolOp .And (a :: b :: rest) pos) (aAnd fa fb) := by
  refine ⟨PE.wk (pe_and ha.pe hb.pe) fun σ H Q h => ?_⟩
  obtain ⟨Z, μ, ρ, h, rh, re, p⟩ := h
  refine tD.seq rh re p fun μ1 H1 h1 v x e1 rh1 re1 rv p1 => ?_
  obtain ⟨k, rfl, p2⟩ := toB_inv (Post.bind (r := toB v h1) p1)
  have p3 := p2.fin rh1
  refine ⟨k, rv.bl_inv, ?_⟩
  cases k with
  | true => rw [if_pos rfl] at p3 ⊢; exact ⟨Z, μ1, ρ, h1, rh1, re1, p3⟩
  | false => rw [if_neg Bool.false_ne_true] at p3 ⊢; exact p3.fin rh1 _ .bl
theorem DE.or (ha : DE X W a fa) (hb : DE X W (.BoolOp .Or (b :: rest) pos) fb) : DE X W (.BoolOp .Or (a :: b :: rest) pos) (aOr fa fb) := by
  refine ⟨PE.wk (pe_or ha.pe hb.pe) fun σ H Q h => ?_⟩
  obtain ⟨Z, μ, ρ, h, rh, re, p⟩ := h
  refine tD.seq rh re p fun μ1 H1 h1 v x e1 rh1 re1 rv p1 => ?_
  obtain ⟨k, rfl, p2⟩ := toB_inv (Post.bind (r := toB v h1) p1)
  have p3 := p2.fin rh1
  refine ⟨k, rv.bl_inv, ?_⟩
  cases k with
  | true => rw [if_pos rfl] at p3 ⊢; exact p3.fin rh1 _ .bl
  | false => rw [if_neg Bool.false_ne_true] at p3 ⊢; exact ⟨Z, μ1, ρ, h1, rh1, re1, p3⟩
theorem DE.not (ha : DE X W a fa) : DE X W (.UnaryOp .Not a pos) (aNot fa) := by
  refine ⟨PE.wk (pe_not ha.pe) fun σ H Q h => ?_⟩
  obtain ⟨Z, μ, ρ, h, rh, re, p⟩ := h
  refine tD.seq rh re p fun μ1 H1 h1 v x e1 rh1 re1 rv p1 => ?_
  obtain ⟨k, rfl, p2⟩ := toB_inv (Post.bind (r := toB v h1) p1)
  exact ⟨k, rv.bl_inv, (p2.fin rh1).fin rh1 _ .bl⟩
/-- a test by an expression that is a bool -/
theorem DT.val {e : Expr} {f : AE} (h : DE X W e f) (he : ∀ whole, isTrue e X.env whole = (do let v ← whole; standAt e.pos; holding [v] (truthy v)) := by intro _; rfl) : DT X W e (aTest f) :=
  ⟨PT.wk (pt_val h.pe he) fun σ H Q h => by
    obtain ⟨Z, μ, ρ, h, rh, re, p⟩ := h
    refine tD.seq rh re p fun μ1 H1 h1 v x e1 rh1 re1 rv p1 => ?_
    obtain ⟨b, rfl, p2⟩ := toB_inv p1
    exact ⟨b, rv.bl_inv, p2.fin rh1⟩⟩
/-- a if c else b -/
def aIf (t : AT) (f g : AE) : AE := fun ρ h => (t ρ h).bind fun b h1 => if b = true then f ρ h1 else g ρ h1
theorem DE.ifExp (hc : DT X W c tc) (ha : DE X W a fa) (hb : DE X W b fb) : DE X W (.IfExp c a b pos) (aIf tc fa fb) := by
  refine ⟨PE.wk (pe_ifExp hc.pt ha.pe hb.pe) fun σ H Q h => ?_⟩
  obtain ⟨Z, μ, ρ, h, rh, re, p⟩ := h
  refine tDT.seq rh re p fun μ1 H1 h1 v e1 rh1 re1 p1 => ?_
  cases v with
  | true => rw [if_pos rfl] at p1 ⊢; exact ⟨Z, μ1, ρ, h1, rh1, re1, p1⟩
  | false => rw [if_neg Bool.false_ne_true] at p1 ⊢; exact ⟨Z, μ1, ρ, h1, rh1, re1, p1⟩

/-! ### argument lists, displays -/
def aNil : AA := fun _ h => .ok [] h
def aCons (f : AE) (g : AA) : AA := fun ρ h => (f ρ h).bind fun v h1 => (g ρ h1).bind fun l h2 => .ok (v :: l) h2
theorem DA.nil : DA X W [] aNil := ⟨PA.wk pa_nil fun σ H Q ⟨Z, μ, ρ, h, rh, re, p⟩ => Post.fin (a := ([] : List AV)) p rh _ .nil⟩
theorem DA.cons {e : Expr} {es : List Expr} {f : AE} {g : AA} (ha : DE X W e f) (hr : DA X W es g) (hs : starEach (e :: es) X.env = (false, eval e X.env) :: starEach es X.env := by rfl) : DA X W (e :: es) (aCons f g) := by
  refine ⟨PA.wk (pa_cons ha.pe hr.pa hs) fun σ H Q h => ?_⟩
  obtain ⟨Z, μ, ρ, h, rh, re, p⟩ := h
  refine tD.seq rh re p fun μ1 H1 h1 v x e1 rh1 re1 rv p1 => ?_
  refine tDA.seq rh1 re1 p1 fun μ2 H2 h2 l xs e2 rh2 re2 rl p2 => ?_
  exact p2.fin rh2 _ (.cons (rv.mono e2) rl)
def szOk {α : Type} (l : List α) : Bool := decide (l.length ≤ sizeLine)
def aTup (g : AA) : AE := fun ρ h => (g ρ h).bind fun l h1 => if szOk l = true then .ok (.tup l) h1 else .bad
def aList (g : AA) : AA := fun ρ h => (g ρ h).bind fun l h1 => if szOk l = true then .ok l h1 else .bad
theorem sz_inv {α : Type} {C : Ctx} {μ : Mu} {H : Hp} {E : XK} {R : Mu → Hp → AHeap → α → Prop} {l : List AV} {r : Res α} (p : Post C μ H E R (if szOk l = true then r else .bad)) : l.length ≤ sizeLine ∧ Post C μ H E R r := by
  by_cases h : szOk l = true
  · rw [if_pos h] at p; exact ⟨of_decide_eq_true h, p⟩
  · rw [if_neg h] at p; exact p.elim
theorem TupAt.new {C : Ctx} {μ : Mu} {H : Hp} {p : Addr} {xs : List V} (np : p ∉ μ) : TupAt C μ (upd H p (.tup xs)) p xs := .inl ⟨np, .inl upd_same⟩
theorem LstAt.new {C : Ctx} {μ : Mu} {H : Hp} {p : Addr} {xs : List V} (np : p ∉ μ) (nz : p ∉ C.Z) : LstAt C μ (upd H p (.lst xs)) p xs := .inl ⟨np, nz, .inl upd_same⟩
theorem DE.tup {es : List Expr} {g : AA} {x1 : Nat} (h : DA X W es g) : DE X W (.Tuple es x1 pos) (aTup g) := by
  refine ⟨PE.wk (pe_tup h.pa) fun σ H Q h => ?_⟩
  obtain ⟨Z, μ, ρ, h, rh, re, p⟩ := h
  refine tDA.seq rh re p fun μ1 H1 h1 l xs e1 rh1 re1 rl p1 => ?_
  obtain ⟨hz, p2⟩ := sz_inv p1
  refine ⟨by rw [rl.length]; exact hz, fun q hq => p2.fin1 rh1 hq _ (.tup (.new (rh1.fresh hq)) (rl.mono (.laid μ1 hq)))⟩
theorem NewAt.laid {C : Ctx} {μ μ1 : Mu} {H H1 : Hp} {h1 : AHeap} {l : List AV} {xs : List V} (e1 : Ext μ H μ1 H1) (rh1 : RepH C μ1 h1 H1) (rl : RVs C μ1 H1 l xs) {q : Addr} (hq : H1 q = none) : NewAt C H μ1 (upd H1 q (.lst xs)) h1 l q xs :=
  ⟨e1.free hq (rh1.fresh hq), upd_same, rh1.fresh hq, rh1.freshZ hq, rl.mono (.laid μ1 hq), rh1.push hq ⟨xs, upd_same, rl.mono (ext_push μ1 hq)⟩⟩
theorem DL.list {es : List Expr} {g : AA} (h : DA X W es g) : DL X W (.List es pos) (aList g) := by
  refine ⟨PE.wk (pe_lst h.pa) fun σ H Q h => ?_⟩
  obtain ⟨Z, μ, ρ, h, rh, re, p⟩ := h
  refine tDA.seq rh re p fun μ1 H1 h1 l xs e1 rh1 re1 rl p1 => ?_
  obtain ⟨hz, p2⟩ := sz_inv p1
  refine ⟨by rw [rl.length]; exact hz, fun q hq => p2.fin1 rh1 hq q xs (.laid e1 rh1 rl hq)⟩
/-- a new list that nobody will change -/
def pureL (g : AA) : AE := fun ρ h => (g ρ h).bind fun l h1 => .ok (.lst l) h1
/-- a new list of the abstract heap -/
def newL (g : AA) : AE := fun ρ h => (g ρ h).bind fun l h1 => .ok (.ref h1.length) (h1 ++ [.list l])
theorem DL.pure {e : Expr} {g : AA} (h : DL X W e g) : DE X W e (pureL g) := by
  refine ⟨PE.wk h.pe fun σ H Q h => ?_⟩
  obtain ⟨Z, μ, ρ, h, rh, re, p⟩ := h
  exact tDL.seq rh re p fun μ1 H1 h1 l q xs e1 rh1 re1 n p1 => p1.fin rh1 _ (.lst (.inl ⟨n.nm, n.nz, .inl n.at_⟩) n.rv)
theorem DL.new {e : Expr} {g : AA} (h : DL X W e g) : DE X W e (newL g) := by
  refine ⟨PE.wk h.pe fun σ H Q h => ?_⟩
  obtain ⟨Z, μ, ρ, h, rh, re, p⟩ := h
  refine ⟨Z, μ, ρ, h, rh, re, ?_⟩
  unfold newL at p
  cases hg : g ρ h with
  | ok l h1 =>
    rw [hg] at p
    intro μ1 H1 e1 rh1 q xs n
    refine p (μ1 ++ [q]) H1 (.adopt n.new e1) n.rh (.ref q) (.ref ?_)
    rw [← rh1.len]; simp
  | exc x h1 => rw [hg] at p; exact p
  | bad => rw [hg] at p; exact p
end
end AI
namespace AI
open PySem PySem.Spec PyProof.Rows
open L2

/-! ### statements -/
inductive SRes where
  | nx (ρ : AEnv) (h : AHeap)
  | rt (v : AV) (h : AHeap)
  | bk (ρ : AEnv) (h : AHeap)
  | ct (ρ : AEnv) (h : AHeap)
  | exc (e : AX) (ρ : AEnv) (h : AHeap)
  | bad
abbrev AS := AEnv → AHeap → SRes
def PostS (C : Ctx) (μ : Mu) (H : Hp) (W : WX) (D : Ends) : SRes → Prop
  | .nx ρ' h' => ∀ μ' H' σ', Ext μ H μ' H' → RepH C μ' h' H' → RepE C μ' H' ρ' σ' → D.nx σ' H'
  | .rt v h' => ∀ μ' H' x, Ext μ H μ' H' → RepH C μ' h' H' → RV C μ' H' v x → D.rt x H'
  | .bk ρ' h' => ∀ μ' H' σ', Ext μ H μ' H' → RepH C μ' h' H' → RepE C μ' H' ρ' σ' → D.bk σ' H'
  | .ct ρ' h' => ∀ μ' H' σ', Ext μ H μ' H' → RepH C μ' h' H' → RepE C μ' H' ρ' σ' → D.ct σ' H'
  | .exc e ρ' h' => ∀ μ' H' σ' cls d, Ext μ H μ' H' → RepH C μ' h' H' → RepE C μ' H' ρ' σ' → RX C μ' H' e cls d → W cls d σ' H'
  | .bad => False
theorem PostS.ext {C : Ctx} {μ μ1 : Mu} {H H1 : Hp} {W : WX} {D : Ends} {r : SRes} (e1 : Ext μ H μ1 H1) (p : PostS C μ H W D r) : PostS C μ1 H1 W D r := by
  cases r with
  | nx _ _ => exact fun μ2 H2 s e2 => p μ2 H2 s (e1.trans e2)
  | rt _ _ => exact fun μ2 H2 s e2 => p μ2 H2 s (e1.trans e2)
  | bk _ _ => exact fun μ2 H2 s e2 => p μ2 H2 s (e1.trans e2)
  | ct _ _ => exact fun μ2 H2 s e2 => p μ2 H2 s (e1.trans e2)
  | exc _ _ _ => exact fun μ2 H2 s c d e2 => p μ2 H2 s c d (e1.trans e2)
  | bad => exact p
theorem PostS.mono {C : Ctx} {μ : Mu} {H : Hp} {W : WX} {D D' : Ends} {r : SRes} (p : PostS C μ H W D r) (h1 : ∀ σ H, D.nx σ H → D'.nx σ H) (h2 : ∀ x H, D.rt x H → D'.rt x H) (h3 : ∀ σ H, D.bk σ H → D'.bk σ H) (h4 : ∀ σ H, D.ct σ H → D'.ct σ H) : PostS C μ H W D' r := by
  cases r with
  | nx _ _ => exact fun μ2 H2 s e2 a b => h1 _ _ (p μ2 H2 s e2 a b)
  | rt _ _ => exact fun μ2 H2 s e2 a b => h2 _ _ (p μ2 H2 s e2 a b)
  | bk _ _ => exact fun μ2 H2 s e2 a b => h3 _ _ (p μ2 H2 s e2 a b)
  | ct _ _ => exact fun μ2 H2 s e2 a b => h4 _ _ (p μ2 H2 s e2 a b)
  | exc _ _ _ => exact p
  | bad => exact p

def tDS (X : Cx) (W : WX) (f : AS) : TS := fun D σ H => ∃ Z μ ρ h, RepH (cc X Z) μ h H ∧ RepE (cc X Z) μ H ρ σ ∧ PostS (cc X Z) μ H W D (f ρ h)
structure DS (X : Cx) (W : WX) (st : Stmt) (f : AS) : Prop where
  ps : PS X st (tDS X W f)
structure DSs (X : Cx) (W : WX) (st : List Stmt) (f : AS) : Prop where
  pss : PSs X st (tDS X W f)
theorem PS.wk {X : Cx} {st : Stmt} {t t' : TS} (h : PS X st t) (k : ∀ D σ H, t' D σ H → t D σ H) : PS X st t' := ⟨fun pins s σ H D I hw => h.run pins s σ H D I (k D σ H hw)⟩
theorem PSs.wk {X : Cx} {st : List Stmt} {t t' : TS} (h : PSs X st t) (k : ∀ D σ H, t' D σ H → t D σ H) : PSs X st t' := ⟨fun pins s σ H D I hw => h.run pins s σ H D I (k D σ H hw)⟩

def SRes.ofRes {α : Type} (ρ : AEnv) (r : Res α) (k : α → AHeap → SRes) : SRes := match r with
  | .ok a h => k a h
  | .exc e h => .exc e ρ h
  | .bad => .bad
theorem PostS.of {α : Type} {C : Ctx} {μ : Mu} {H : Hp} {W : WX} {D : Ends} {ρ : AEnv} {σ : L2.St} {r : Res α} {k : α → AHeap → SRes} (re : RepE C μ H ρ σ) (p : PostS C μ H W D (.ofRes ρ r k)) :
    Post C μ H (fun c d H' => W c d σ H') (fun μ1 H1 h1 a => PostS C μ1 H1 W D (k a h1)) r := by
  cases r with
  | ok a h' => exact fun μ1 H1 e1 r1 => PostS.ext e1 p
  | exc e h' => exact fun μ1 H1 cls d e1 r1 x => p μ1 H1 σ cls d e1 r1 (re.mono e1) x
  | bad => exact p

def aSeq (f g : AS) : AS := fun ρ h => match f ρ h with
  | .nx ρ' h' => g ρ' h'
  | r => r
def aSkip : AS := fun ρ h => .nx ρ h
def aBreak : AS := fun ρ h => .bk ρ h
def aCont : AS := fun ρ h => .ct ρ h
section
variable {X : Cx} {W : WX} {pos : Pos} {st : Stmt} {rest : List Stmt} {f g : AS}
theorem DSs.nil : DSs X W [] aSkip := ⟨PSs.wk pss_nil fun D σ H ⟨Z, μ, ρ, h, rh, re, p⟩ => p μ H σ (.refl μ H) rh re⟩
theorem DSs.one (h1 : DS X W st f) : DSs X W [st] f := ⟨PSs.wk (pss_one h1.ps) fun D σ H h => h⟩
theorem DSs.cons (h1 : DS X W st f) (h2 : DSs X W rest g) : DSs X W (st :: rest) (aSeq f g) := by
  refine ⟨PSs.wk (pss_cons h1.ps h2.pss) fun D σ H h => ?_⟩
  obtain ⟨Z, μ, ρ, h, rh, re, p⟩ := h
  refine ⟨Z, μ, ρ, h, rh, re, ?_⟩
  unfold aSeq at p
  cases e : f ρ h with
  | nx ρ' h' =>
    rw [e] at p
    exact fun μ1 H1 σ1 e1 rh1 re1 => ⟨Z, μ1, ρ', h', rh1, re1, PostS.ext e1 p⟩
  | rt v h' => rw [e] at p; exact p
  | bk v h' => rw [e] at p; exact p
  | ct v h' => rw [e] at p; exact p
  | exc x v h' => rw [e] at p; exact p
  | bad => rw [e] at p; exact p
theorem DS.pass : DS X W (.Pass pos) aSkip := ⟨PS.wk ps_pass fun D σ H ⟨Z, μ, ρ, h, rh, re, p⟩ => p μ H σ (.refl μ H) rh re⟩
theorem DS.break_ : DS X W (.Break pos) aBreak := ⟨PS.wk ps_break fun D σ H ⟨Z, μ, ρ, h, rh, re, p⟩ => p μ H σ (.refl μ H) rh re⟩
theorem DS.continue_ : DS X W (.Continue pos) aCont := ⟨PS.wk ps_continue fun D σ H ⟨Z, μ, ρ, h, rh, re, p⟩ => p μ H σ (.refl μ H) rh re⟩
theorem DS.doc {x : Str} {j : Nat} {pos' : Pos} : DS X W (.Expr (.Constant (.str x) j pos) pos') aSkip := ⟨PS.wk ps_doc fun D σ H ⟨Z, μ, ρ, h, rh, re, p⟩ => p μ H σ (.refl μ H) rh re⟩
variable {e c : Expr} {fe : AE} {tc : AT} {a b : List Stmt}
/-- first an expression -/
theorem tD.seqS {Z : List Addr} {μ : Mu} {H : Hp} {h : AHeap} {ρ : AEnv} {σ : L2.St} {k : AV → AHeap → SRes} {Y : VK} {D : Ends} (rh : RepH (cc X Z) μ h H) (re : RepE (cc X Z) μ H ρ σ) (p : PostS (cc X Z) μ H W D (.ofRes ρ (fe ρ h) k))
    (hY : ∀ μ1 H1 h1 v x, Ext μ H μ1 H1 → RepH (cc X Z) μ1 h1 H1 → RepE (cc X Z) μ1 H1 ρ σ → RV (cc X Z) μ1 H1 v x → PostS (cc X Z) μ1 H1 W D (k v h1) → Y x H1) : tD X W fe σ H Y :=
  ⟨Z, μ, ρ, h, rh, re, (PostS.of re p).mono fun μ1 H1 h1 v e r q x rx => hY μ1 H1 h1 v x e r (re.mono e) rx q⟩
def aDrop (fe : AE) : AS := fun ρ h => .ofRes ρ (fe ρ h) fun _ h1 => .nx ρ h1
theorem DS.expr (he : DE X W e fe) (hs : swapsWith e none pos.line X.env = pure false := by rfl) : DS X W (.Expr e pos) (aDrop fe) := by
  refine ⟨PS.wk (ps_expr he.pe hs) fun D σ H h => ?_⟩
  obtain ⟨Z, μ, ρ, h, rh, re, p⟩ := h
  exact tD.seqS rh re p fun μ1 H1 h1 v x e1 rh1 re1 rv p1 => p1 μ1 H1 σ (.refl _ _) rh1 re1
def aRet (fe : AE) : AS := fun ρ h => .ofRes ρ (fe ρ h) fun v h1 => .rt v h1
theorem DS.ret (he : DE X W e fe) : DS X W (.Return (some e) pos) (aRet fe) := by
  refine ⟨PS.wk (ps_ret he.pe) fun D σ H h => ?_⟩
  obtain ⟨Z, μ, ρ, h, rh, re, p⟩ := h
  exact tD.seqS rh re p fun μ1 H1 h1 v x e1 rh1 re1 rv p1 => p1 μ1 H1 x (.refl _ _) rh1 rv
def aRetN : AS := fun _ h => .rt .non h
theorem DS.retN : DS X W (.Return none pos) aRetN := ⟨PS.wk ps_retN fun D σ H ⟨Z, μ, ρ, h, rh, re, p⟩ => p μ H .non (.refl μ H) rh .non⟩
def aIfS (t : AT) (f g : AS) : AS := fun ρ h => .ofRes ρ (t ρ h) fun b h1 => if b = true then f ρ h1 else g ρ h1
theorem DS.ite (hc : DT X W c tc) (ha : DSs X W a f) (hb : DSs X W b g) : DS X W (.If c a b pos) (aIfS tc f g) := by
  refine ⟨PS.wk (ps_if hc.pt ha.pss hb.pss) fun D σ H h => ?_⟩
  obtain ⟨Z, μ, ρ, h, rh, re, p⟩ := h
  refine ⟨Z, μ, ρ, h, rh, re, (PostS.of re p).mono fun μ1 H1 h1 v e1 rh1 q => ?_⟩
  cases v with
  | true => rw [if_pos rfl] at q ⊢; exact ⟨Z, μ1, ρ, h1, rh1, re.mono e1, q⟩
  | false => rw [if_neg Bool.false_ne_true] at q ⊢; exact ⟨Z, μ1, ρ, h1, rh1, re.mono e1, q⟩

/-! ### targets -/
abbrev AG := AV → AEnv → AHeap → Option (AEnv × AHeap)
abbrev AGs := List AV → AEnv → AHeap → Option (AEnv × AHeap)
def GoodG (C : Ctx) (μ : Mu) (H : Hp) (o : Option (AEnv × AHeap)) (Q : L2.St → Hp → Prop) : Prop := ∃ ρ' h', o = some (ρ', h') ∧ ∀ μ' H' σ', Ext μ H μ' H' → RepH C μ' h' H' → RepE C μ' H' ρ' σ' → Q σ' H'
def tDG (X : Cx) (g : AG) : TG := fun x σ H Q => ∃ Z μ ρ h v, RepH (cc X Z) μ h H ∧ RepE (cc X Z) μ H ρ σ ∧ RV (cc X Z) μ H v x ∧ GoodG (cc X Z) μ H (g v ρ h) Q
def tDGs (X : Cx) (g : AGs) : TGs := fun xs σ H Q => ∃ Z μ ρ h l, RepH (cc X Z) μ h H ∧ RepE (cc X Z) μ H ρ σ ∧ RVs (cc X Z) μ H l xs ∧ GoodG (cc X Z) μ H (g l ρ h) Q
structure DG (X : Cx) (tg : Expr) (g : AG) : Prop where
  pg : PG X tg (tDG X g)
structure DGs (X : Cx) (ts : List Expr) (g : AGs) : Prop where
  pgs : PGs X ts (tDGs X g)
theorem PG.wk {X : Cx} {tg : Expr} {t t' : TG} (h : PG X tg t) (k : ∀ x σ H Q, t' x σ H Q → t x σ H Q) : PG X tg t' := ⟨fun pins s σ H v u Q I r hw => h.run pins s σ H v u Q I r (k v σ H Q hw)⟩
theorem PGs.wk {X : Cx} {tg : List Expr} {t t' : TGs} (h : PGs X tg t) (k : ∀ x σ H Q, t' x σ H Q → t x σ H Q) : PGs X tg t' := ⟨fun pins s σ H v u Q I r hw => h.run pins s σ H v u Q I r (k v σ H Q hw)⟩
def agName (i : Nat) : AG := fun v ρ h => some (ρ.set i (some v), h)
def agNil : AGs := fun l ρ h => match l with
  | [] => some (ρ, h)
  | _ => none
def agCons (g : AG) (gs : AGs) : AGs := fun l ρ h => match l with
  | v :: r => (g v ρ h).bind fun (ρ', h') => gs r ρ' h'
  | [] => none
def agTup (n : Nat) (gs : AGs) : AG := fun v ρ h => match v with
  | .tup l => if l.length = n then gs l ρ h else none
  | _ => none
theorem DG.name (i : Nat) {x : Str} (hN : X.N.Nodup) (hi : X.N[i]? = some x := by rfl) (hx : Loc X.env.scope x := by first | exact Or.inl rfl | exact Or.inr rfl) (hf : X.fn x = true ∨ X.env.scope.names.lookup x = some .local := by first | exact .inl rfl | exact .inr rfl | assumption) : DG X (.Name x pos) (agName i) := by
  refine ⟨PG.wk (pg_name (i := i) hN hi hx hf) fun x σ H Q h => ?_⟩
  obtain ⟨Z, μ, ρ, h, v, rh, re, rv, ρ', h', e, k⟩ := h
  cases e
  exact k μ H _ (.refl _ _) rh (re.set rv i)
theorem DGs.nil : DGs X [] agNil := by
  refine ⟨PGs.wk pgs_nil fun xs σ H Q h => ?_⟩
  obtain ⟨Z, μ, ρ, h, l, rh, re, rl, ρ', h', e, k⟩ := h
  cases l with
  | nil => cases e; simp only [RVs] at rl; exact ⟨rl, k μ H _ (.refl _ _) rh re⟩
  | cons _ _ => cases e
theorem DGs.cons {t : Expr} {ts : List Expr} {g : AG} {gs : AGs} (h1 : DG X t g) (h2 : DGs X ts gs) (hs : (assignEach (t :: ts) X.env).map (·.2) = assign t X.env :: (assignEach ts X.env).map (·.2) := by rfl) : DGs X (t :: ts) (agCons g gs) := by
  refine ⟨PGs.wk (pgs_cons h1.pg h2.pgs hs) fun xs σ H Q h => ?_⟩
  obtain ⟨Z, μ, ρ, h, l, rh, re, rl, ρ', h', e, k⟩ := h
  cases l with
  | nil => cases e
  | cons v l =>
    obtain ⟨x, r, rfl, rv, rr⟩ := rl.inv
    unfold agCons at e
    dsimp only at e
    cases eg : g v ρ h with
    | none => rw [eg] at e; cases e
    | some q =>
      obtain ⟨ρ1, h1⟩ := q
      rw [eg] at e
      refine ⟨x, r, rfl, Z, μ, ρ, h, v, rh, re, rv, ρ1, h1, eg, fun μ1 H1 σ1 e1 rh1 re1 => ?_⟩
      exact ⟨Z, μ1, ρ1, h1, l, rh1, re1, rr.mono e1, ρ', h', e, fun μ2 H2 σ2 e2 => k μ2 H2 σ2 (e1.trans e2)⟩
theorem DG.tup {ts : List Expr} {k n : Nat} {gs : AGs} (hc : X.calm = true) (h : DGs X ts gs) (hn : (assignEach ts X.env).length = n := by rfl) (hst : (assignEach ts X.env).findIdx? (·.1) = none := by rfl) : DG X (.Tuple ts k pos) (agTup n gs) := by
  refine ⟨PG.wk (pg_tup hc h.pgs hn hst) fun x σ H Q h => ?_⟩
  obtain ⟨Z, μ, ρ, h, v, rh, re, rv, ρ', h', e, k⟩ := h
  unfold agTup at e
  split at e
  · rename_i l
    split at e
    · rename_i hl
      obtain ⟨a, xs, rfl, ta, rl⟩ := rv.tup_inv
      exact ⟨a, xs, rfl, ta.sq, by rw [rl.length]; exact hl, Z, μ, ρ, h, l, rh, re, rl, ρ', h', e, k⟩
    · cases e
  · cases e
/-- target = value -/
def aAsg (fe : AE) (g : AG) : AS := fun ρ h => .ofRes ρ (fe ρ h) fun v h1 => match g v ρ h1 with
  | some (ρ', h') => .nx ρ' h'
  | none => .bad
theorem asg_of {g : AG} {D : Ends} {σ : L2.St} {H : Hp} (h : tDS X W (aAsg fe g) D σ H) : tAsg (tD X W fe) (tDG X g) D σ H := by
  obtain ⟨Z, μ, ρ, h, rh, re, p⟩ := h
  refine tD.seqS rh re p fun μ1 H1 h1 v x e1 rh1 re1 rv p1 => ?_
  refine ⟨Z, μ1, ρ, h1, v, rh1, re1, rv, ?_⟩
  cases eg : g v ρ h1 with
  | none => rw [eg] at p1; exact (show False from p1).elim
  | some q =>
    obtain ⟨ρ2, h2⟩ := q
    rw [eg] at p1
    exact ⟨ρ2, h2, rfl, p1⟩
theorem DS.asg {tg : Expr} {g : AG} (he : DE X W e fe) (hg : DG X tg g) (hs : swapsWithSole [tg] e pos.line X.env = pure false := by rfl) (hw : swappedStores [tg] e X.env = pure none := by rfl)
    (h1 : (assignEach [tg] X.env).map (·.2) = [assign tg X.env] := by rfl) : DS X W (.Assign [tg] e pos) (aAsg fe g) :=
  ⟨PS.wk (ps_asg he.pe hg.pg hs hw h1) fun D σ H h => asg_of h⟩
theorem gName_of {i : Nat} {x : V} {σ : L2.St} {H : Hp} {Q : L2.St → Hp → Prop} (h : tDG X (agName i) x σ H Q) : gName i x σ H Q := by
  obtain ⟨Z, μ, ρ, h, v, rh, re, rv, ρ', h', e, k⟩ := h
  cases e
  exact k μ H _ (.refl _ _) rh (re.set rv i)
theorem tD.mono {fe : AE} {σ : L2.St} {H : Hp} {Q Q' : VK} (h : tD X W fe σ H Q) (k : ∀ x H, Q x H → Q' x H) : tD X W fe σ H Q' := by
  obtain ⟨Z, μ, ρ, h, rh, re, p⟩ := h
  exact ⟨Z, μ, ρ, h, rh, re, p.mono fun _ _ _ _ _ _ q x r => k _ _ (q x r)⟩
theorem DS.set (i : Nat) {x : Str} {pos' : Pos} (hN : X.N.Nodup) (he : DE X W e fe) (hi : X.N[i]? = some x := by rfl) (hx : Loc X.env.scope x := by first | exact Or.inl rfl | exact Or.inr rfl) (hs : swapsWith e (some (.Name x pos')) pos.line X.env = pure false := by rfl)
    (hf : X.fn x = true ∨ X.env.scope.names.lookup x = some .local := by first | exact .inl rfl | exact .inr rfl | assumption) : DS X W (.Assign [.Name x pos'] e pos) (aAsg fe (agName i)) :=
  ⟨PS.wk (ps_set (i := i) hN hi hx he.pe hs hf) fun D σ H h => (asg_of h).mono fun x H q => gName_of q⟩

/-! ### for -/
structure ItemsOf (C : Ctx) (μ : Mu) (H : Hp) (J : It) (l : List AV) : Prop where
  go : ∀ i μ' H', Ext μ H μ' H' → i < l.length → J.go i H'
  stop : ∀ μ' H', Ext μ H μ' H' → J.stop l.length H'
  yld : ∀ i μ' h' H' x H'' v Z', (∀ a ∈ Z', a ∈ C.Z ∨ H a = none) → Ext μ H μ' H' → RepH ⟨C.prog, C.w, C.K, C.mg, Z', C.hx⟩ μ' h' H' → l[i]? = some v → J.yld i H' x H'' → Ext μ' H' μ' H'' ∧ RepH ⟨C.prog, C.w, C.K, C.mg, Z', C.hx⟩ μ' h' H'' ∧ RV ⟨C.prog, C.w, C.K, C.mg, Z', C.hx⟩ μ' H'' v x
def tDI (X : Cx) (W : WX) (f : AA) : TI := fun σ H R => ∃ Z μ ρ h, RepH (cc X Z) μ h H ∧ RepE (cc X Z) μ H ρ σ ∧ Post (cc X Z) μ H (fun c d H' => W c d σ H') (fun μ' H' _ l => ∀ J, ItemsOf (cc X Z) μ' H' J l → R J H') (f ρ h)
structure DI (X : Cx) (W : WX) (tg iter : Expr) (f : AA) : Prop where
  pi : PI X tg iter (tDI X W f)
theorem PI.wk {X : Cx} {tg iter : Expr} {t t' : TI} (h : PI X tg iter t) (k : ∀ σ H Q, t' σ H Q → t σ H Q) : PI X tg iter t' := ⟨fun pins s σ H Q I hw => h.run pins s σ H Q I (k σ H Q hw)⟩
def loopS (g : AG) (body : AS) : List AV → AEnv → AHeap → SRes
  | [], ρ, h => .nx ρ h
  | v :: r, ρ, h => match g v ρ h with
    | none => .bad
    | some (ρ1, h1) => match body ρ1 h1 with
      | .nx ρ2 h2 => loopS g body r ρ2 h2
      | .ct ρ2 h2 => loopS g body r ρ2 h2
      | .bk ρ2 h2 => .nx ρ2 h2
      | .rt v h2 => .rt v h2
      | .exc e ρ2 h2 => .exc e ρ2 h2
      | .bad => .bad
def aFor (f : AA) (g : AG) (body : AS) : AS := fun ρ h => .ofRes ρ (f ρ h) fun l h1 => loopS g body l ρ h1
theorem for_of {tg : Expr} {f : AA} {g : AG} {body : AS} {D : Ends} {σ : L2.St} {H : Hp} (h : tDS X W (aFor f g body) D σ H) : tFor (tDI X W f) (tDG X g) (tDS X W body) D σ H := by
  obtain ⟨Z, μ, ρ, h, rh, re, p⟩ := h
  refine ⟨Z, μ, ρ, h, rh, re, (PostS.of re p).mono fun μ1 H1 h1 l e1 rh1 p1 J it => ?_⟩
  refine ⟨fun i m σ' H' => m = l.length - i ∧ i ≤ l.length ∧ ∃ μ' ρ' h', Ext μ1 H1 μ' H' ∧ RepH (cc X Z) μ' h' H' ∧ RepE (cc X Z) μ' H' ρ' σ' ∧ PostS (cc X Z) μ' H' W D (loopS g body (l.drop i) ρ' h'),
    ⟨l.length, by simp, Nat.zero_le _, μ1, ρ, h1, .refl _ _, rh1, re.mono e1, p1⟩, ?_⟩
  rintro i m σ' H' ⟨rfl, hi, μ', ρ', h', e', rh', re', p'⟩
  by_cases hlt : i < l.length
  · refine .inr ⟨it.go i μ' H' e' hlt, fun σ2 H2 => ∃ μ2 ρ2 h2, Ext μ1 H1 μ2 H2 ∧ RepH (cc X Z) μ2 h2 H2 ∧ RepE (cc X Z) μ2 H2 ρ2 σ2 ∧ PostS (cc X Z) μ2 H2 W D (loopS g body (l.drop (i + 1)) ρ2 h2),
      fun σ2 H2 q => ⟨l.length - (i + 1), by omega, rfl, hlt, q⟩, fun x H'' hy => ?_⟩
    have hv : l[i]? = some l[i] := List.getElem?_eq_getElem hlt
    obtain ⟨e2, rh2, rv⟩ := it.yld i μ' h' H' x H'' _ Z (fun a ha => .inl ha) e' rh' hv hy
    rw [List.drop_eq_getElem_cons hlt] at p'
    unfold loopS at p'
    have p2 := PostS.ext e2 p'
    refine ⟨Z, μ', ρ', h', l[i], rh2, re'.mono e2, rv, ?_⟩
    cases eg : g l[i] ρ' h' with
    | none => rw [eg] at p2; exact (show False from p2).elim
    | some q =>
      obtain ⟨ρ3, h3⟩ := q
      rw [eg] at p2
      refine ⟨ρ3, h3, rfl, fun μ3 H3 σ3 e3 rh3 re3 => ⟨Z, μ3, ρ3, h3, rh3, re3, ?_⟩⟩
      have p3 := PostS.ext e3 p2
      dsimp only at p3
      cases eb : body ρ3 h3 with
      | nx ρ4 h4 =>
        rw [eb] at p3
        exact fun μ4 H4 σ4 e4 rh4 re4 => ⟨μ4, ρ4, h4, ((e'.trans e2).trans e3).trans e4, rh4, re4, PostS.ext e4 p3⟩
      | ct ρ4 h4 =>
        rw [eb] at p3
        exact fun μ4 H4 σ4 e4 rh4 re4 => ⟨μ4, ρ4, h4, ((e'.trans e2).trans e3).trans e4, rh4, re4, PostS.ext e4 p3⟩
      | bk ρ4 h4 => rw [eb] at p3; exact p3
      | rt v h4 => rw [eb] at p3; exact p3
      | exc x ρ4 h4 => rw [eb] at p3; exact p3
      | bad => rw [eb] at p3; exact p3
  · have e : i = l.length := by omega
    subst e
    rw [List.drop_length] at p'
    exact .inl ⟨it.stop μ' H' e', p' μ' H' σ' (.refl _ _) rh' re'⟩
theorem DS.for_ {tg iter : Expr} {body : List Stmt} {fi : AA} {g : AG} {fb : AS} (hp : PassesOwn (model X.prog X.w) X.A X.env X.xe) (hc : X.calm = true) (hi : DI X W tg iter fi) (hg : DG X tg g) (hb : DSs X W body fb)
    (hs : ∀ x, foldedSetIterable iter X.env x = pure x := by intro _; rfl) : DS X W (.For tg iter body [] pos) (aFor fi g fb) :=
  ⟨PS.wk (ps_for hp hc hi.pi hg.pg hb.pss hs) fun D σ H h => for_of (tg := tg) h⟩

/-! ### while -/
def loopW (c : AT) (body : AS) : Nat → AEnv → AHeap → SRes
  | 0, _, _ => .bad
  | n + 1, ρ, h => .ofRes ρ (c ρ h) fun b h1 => if b = true then (match body ρ h1 with
      | .nx ρ2 h2 => loopW c body n ρ2 h2
      | .ct ρ2 h2 => loopW c body n ρ2 h2
      | .bk ρ2 h2 => .nx ρ2 h2
      | .rt v h2 => .rt v h2
      | .exc e ρ2 h2 => .exc e ρ2 h2
      | .bad => .bad) else .nx ρ h1
theorem DS.while_ (n : Nat) {body : List Stmt} {fb : AS} (hp : PassesOwn (model X.prog X.w) X.A X.env X.xe) (hc : DT X W c tc) (hb : DSs X W body fb) : DS X W (.While c body [] pos) (loopW tc fb n) := by
  refine ⟨PS.wk (ps_while hp hc.pt hb.pss) fun D σ H h => ?_⟩
  obtain ⟨Z, μ, ρ, h, rh, re, p⟩ := h
  refine ⟨fun m σ' H' => ∃ μ' ρ' h', RepH (cc X Z) μ' h' H' ∧ RepE (cc X Z) μ' H' ρ' σ' ∧ PostS (cc X Z) μ' H' W D (loopW tc fb m ρ' h'), ⟨n, μ, ρ, h, rh, re, p⟩, ?_⟩
  rintro m σ' H' ⟨μ', ρ', h', rh', re', p'⟩
  cases m with
  | zero => exact (show False from p').elim
  | succ m =>
    unfold loopW at p'
    refine ⟨Z, μ', ρ', h', rh', re', (PostS.of re' p').mono fun μ1 H1 h1 b e1 rh1 p1 => ?_⟩
    cases b with
    | false =>
      rw [if_neg Bool.false_ne_true] at p1 ⊢
      exact p1 μ1 H1 σ' (.refl _ _) rh1 (re'.mono e1)
    | true =>
      rw [if_pos rfl] at p1 ⊢
      refine ⟨fun σ2 H2 => ∃ μ' ρ' h', RepH (cc X Z) μ' h' H2 ∧ RepE (cc X Z) μ' H2 ρ' σ2 ∧ PostS (cc X Z) μ' H2 W D (loopW tc fb m ρ' h'), fun σ2 H2 q => ⟨m, Nat.lt_succ_self m, q⟩, ?_⟩
      refine ⟨Z, μ1, ρ', h1, rh1, re'.mono e1, ?_⟩
      cases eb : fb ρ' h1 with
      | nx ρ4 h4 => rw [eb] at p1; exact fun μ4 H4 σ4 e4 rh4 re4 => ⟨μ4, ρ4, h4, rh4, re4, PostS.ext e4 p1⟩
      | ct ρ4 h4 => rw [eb] at p1; exact fun μ4 H4 σ4 e4 rh4 re4 => ⟨μ4, ρ4, h4, rh4, re4, PostS.ext e4 p1⟩
      | bk ρ4 h4 => rw [eb] at p1; exact p1
      | rt v h4 => rw [eb] at p1; exact p1
      | exc x ρ4 h4 => rw [eb] at p1; exact p1
      | bad => rw [eb] at p1; exact p1
end
end AI
namespace AI
open PySem PySem.Spec PyProof.Rows
open L2

abbrev MF := List AV → AHeap → Res AV

/-! ### the objects that a def leaves behind are forgotten -/
mutual
def AV.closed (b : Nat) : AV → Bool
  | .ref n => decide (n < b)
  | .tup l => AV.closeds b l
  | .lst l => AV.closeds b l
  | .dct _ l => AV.closeds b l
  | .non => true
  | .bl _ => true
  | .int _ => true
  | .str _ => true
  | .ty _ => true
  | .gl _ => true
  | .exn _ _ l => AV.closeds b l
  | .ins _ _ l => AV.closeds b l
def AV.closeds (b : Nat) : List AV → Bool
  | [] => true
  | v :: l => AV.closed b v && AV.closeds b l
end
def AO.closed (b : Nat) : AO → Bool
  | .list l => AV.closeds b l
  | .set _ => true
  | .dct _ l => AV.closeds b l
def convOne (h : AHeap) (b : Nat) (v : AV) : Option AV := match v with
  | .ref n => if n < b then some (.ref n) else match h[n]? with
    | some (.list l) => if AV.closeds b l = true then some (.lst l) else none
    | _ => none
  | v => if v.closed b = true then some v else none
def convAll (h : AHeap) (b : Nat) : List AV → Option (List AV)
  | [] => some []
  | v :: l => (convOne h b v).bind fun v' => (convAll h b l).map (v' :: ·)
def convV (h : AHeap) (b : Nat) (v : AV) : Option AV := match convOne h b v with
  | some v' => some v'
  | none => match v with
    | .tup l => (convAll h b l).map .tup
    | _ => none
def gcRes (b : Nat) : Res AV → Res AV
  | .ok v h => if h.length ≤ b then .ok v h else match convV h b v with
    | some v' => if (h.take b).all (AO.closed b) = true then .ok v' (h.take b) else .ok v h
    | none => .ok v h
  | .exc e h => if h.length ≤ b then .exc e h else if AV.closeds b e.vals = true ∧ (h.take b).all (AO.closed b) = true then .exc e (h.take b) else .exc e h
  | .bad => .bad

section
variable {C : Ctx} {μ : Mu} {H : Hp} {h : AHeap} {b : Nat}
theorem notin_take {a : Addr} (hn : a ∉ μ) : a ∉ μ.take b := fun hm => hn (List.mem_of_mem_take hm)
theorem TupAt.cut {a : Addr} {xs : List V} (t : TupAt C μ H a xs) : TupAt C (μ.take b) H a xs := t.imp (fun ⟨x, y⟩ => ⟨notin_take x, y⟩) id
theorem LstAt.cut {a : Addr} {xs : List V} (t : LstAt C μ H a xs) : LstAt C (μ.take b) H a xs := t.imp (fun t => ⟨notin_take t.1, t.2⟩) _root_.id
theorem DctAt.cut {a : Addr} {ks : List Key} {xs : List V} (t : DctAt C μ H a ks xs) : DctAt C (μ.take b) H a ks xs := ⟨notin_take t.1, t.2⟩
mutual
theorem RV.cut : ∀ {v : AV} {x : V}, v.closed b = true → RV C μ H v x → RV C (μ.take b) H v x
  | .non, _, _, r => by simpa [RV] using r
  | .bl _, _, _, r => by simpa [RV] using r
  | .int _, _, _, r => by simpa [RV] using r
  | .str _, _, _, r => by simpa [RV] using r
  | .tup l, _, c, r => by
    obtain ⟨a, xs, rfl, t, q⟩ := r.tup_inv
    exact .tup t.cut (RVs.cut (by simpa [AV.closed] using c) q)
  | .lst l, _, c, r => by
    obtain ⟨a, xs, rfl, t, q⟩ := r.lst_inv
    exact .lst t.cut (RVs.cut (by simpa [AV.closed] using c) q)
  | .dct ks l, _, c, r => by
    obtain ⟨a, xs, rfl, t, q⟩ := r.dct_inv
    exact .dct t.cut (RVs.cut (by simpa [AV.closed] using c) q)
  | .ref n, _, c, r => by
    obtain ⟨a, rfl, e⟩ := r.ref_inv
    have hn : n < b := by simpa [AV.closed] using c
    exact .ref (by rw [List.getElem?_take_of_lt hn]; exact e)
  | .ty _, _, _, r => by simpa [RV] using r
  | .gl _, _, _, r => by simpa [RV] using r
  | .exn _ _ _, _, c, r => by
    simp only [RV] at r ⊢
    obtain ⟨p, Ca, d, xs, h1, h2, h3, h4, h5, h6, h7⟩ := r
    exact ⟨p, Ca, d, xs, h1, h2, h3, h4, h5, RVs.cut (by simpa [AV.closed] using c) h6, h7.imp _root_.id fun ⟨dx, q1, q2, q3⟩ => ⟨dx, q1, q2, notin_take q3⟩⟩
  | .ins _ _ _, _, c, r => by
    simp only [RV] at r ⊢
    obtain ⟨a, Ca, dx, xs, h1, h2, h3, h4, h5⟩ := r
    exact ⟨a, Ca, dx, xs, h1, h2, notin_take h3, h4, RVs.cut (by simpa [AV.closed] using c) h5⟩
theorem RVs.cut : ∀ {l : List AV} {xs : List V}, AV.closeds b l = true → RVs C μ H l xs → RVs C (μ.take b) H l xs
  | [], _, _, r => by simpa [RVs] using r
  | v :: l, _, c, r => by
    obtain ⟨x, q, rfl, r1, r2⟩ := r.inv
    have c' : v.closed b = true ∧ AV.closeds b l = true := by simpa [AV.closeds] using c
    exact .cons (RV.cut c'.1 r1) (RVs.cut c'.2 r2)
end
theorem OR.cut {o : AO} {a : Addr} (c : o.closed b = true) (r : OR C μ H o a) : OR C (μ.take b) H o a := by
  cases o with
  | list l => obtain ⟨xs, e, q⟩ := r; exact ⟨xs, e, q.cut c⟩
  | set ks => exact r
  | dct ks l => obtain ⟨xs, e0, en, e, q⟩ := r; exact ⟨xs, e0, en, e, q.cut c⟩
theorem RepH.cut (r : RepH C μ h H) (c : (h.take b).all (AO.closed b) = true) : RepH C (μ.take b) (h.take b) H := by
  refine ⟨by simp [r.len], r.nd.sublist (List.take_sublist _ _), fun n o a h1 h2 => ?_, fun a ha => let ⟨z1, z2⟩ := r.zs a ha; ⟨notin_take z1, z2⟩⟩
  have hc : o.closed b = true := List.all_eq_true.mp c o (List.mem_of_getElem? h1)
  have hn : n < b := by
    have := (List.getElem?_eq_some_iff.mp h1).1
    simp at this; omega
  rw [List.getElem?_take_of_lt hn] at h1 h2
  exact (r.obj n o a h1 h2).cut hc
theorem convOne_ok (r : RepH C μ h H) {v v' : AV} {x : V} (e : convOne h b v = some v') (q : RV C μ H v x) : RV C (μ.take b) H v' x := by
  have plain : ∀ {v : AV}, v.closed b = true → RV C μ H v x → RV C (μ.take b) H v x := fun c q => RV.cut c q
  cases v with
  | ref n =>
    unfold convOne at e
    dsimp only at e
    by_cases hn : n < b
    · rw [if_pos hn] at e; cases e
      exact plain (by simpa [AV.closed] using hn) q
    · rw [if_neg hn] at e
      obtain ⟨a, rfl, ea⟩ := q.ref_inv
      cases ho : h[n]? with
      | none => rw [ho] at e; cases e
      | some o =>
        rw [ho] at e
        cases o with
        | list l =>
          dsimp only at e
          by_cases hc : AV.closeds b l = true
          · rw [if_pos hc] at e; cases e
            obtain ⟨xs, e1, e2⟩ := r.obj n _ a ho ea
            have ham : a ∈ μ := List.mem_of_getElem? ea
            refine .lst (.inl ⟨fun hm => ?_, fun hz => (r.zs a hz).1 ham, .inl e1⟩) (e2.cut hc)
            obtain ⟨i, hi⟩ := List.getElem?_of_mem hm
            have hib : i < b := by
              have := (List.getElem?_eq_some_iff.mp hi).1
              simp at this; omega
            rw [List.getElem?_take_of_lt hib] at hi
            have : i = n := RepH.write.nodup_ix r.nd hi ea
            omega
          · rw [if_neg hc] at e; cases e
        | set _ => cases e
        | dct _ _ => cases e
  | _ =>
    unfold convOne at e
    dsimp only at e
    split at e
    · rename_i hc
      cases e
      exact plain hc q
    · cases e
theorem convAll_ok (r : RepH C μ h H) : ∀ {l l' : List AV} {xs : List V}, convAll h b l = some l' → RVs C μ H l xs → RVs C (μ.take b) H l' xs
  | [], _, _, e, q => by cases e; simpa [RVs] using q
  | v :: l, l', _, e, q => by
    obtain ⟨x, t, rfl, q1, q2⟩ := q.inv
    unfold convAll at e
    cases e1 : convOne h b v with
    | none => rw [e1] at e; cases e
    | some v' =>
      rw [e1] at e
      cases e2 : convAll h b l with
      | none => rw [e2] at e; cases e
      | some m =>
        rw [e2] at e; cases e
        exact .cons (convOne_ok r e1 q1) (convAll_ok r e2 q2)
theorem convV_ok (r : RepH C μ h H) {v v' : AV} {x : V} (e : convV h b v = some v') (q : RV C μ H v x) : RV C (μ.take b) H v' x := by
  unfold convV at e
  cases e1 : convOne h b v with
  | some w => rw [e1] at e; cases e; exact convOne_ok r e1 q
  | none =>
    rw [e1] at e
    dsimp only at e
    split at e
    · rename_i l
      cases e2 : convAll h b l with
      | none => rw [e2] at e; cases e
      | some m =>
        rw [e2] at e; cases e
        obtain ⟨a, xs, rfl, t, q'⟩ := q.tup_inv
        exact .tup t.cut (convAll_ok r e2 q')
    · cases e
theorem gc_post {E : XK} {Q : VK} {r : Res AV} (rh : RepH C μ h H) (p : Post C μ H E (RVK C Q) (gcRes h.length r)) : Post C μ H E (RVK C Q) r := by
  have cutE : ∀ {μ' : Mu} {H' : Hp}, Ext μ H μ' H' → Ext μ H (μ'.take h.length) H' := fun e =>
    ⟨fun n a hn => by
      have hl : n < h.length := by rw [← rh.len]; exact (List.getElem?_eq_some_iff.mp hn).1
      rw [List.getElem?_take_of_lt hl]; exact e.pre n a hn, fun a ha => e.new a (List.mem_of_mem_take ha), e.frame⟩
  cases r with
  | bad => exact p
  | ok v h' =>
    unfold gcRes at p
    dsimp only at p
    split at p
    · exact p
    · split at p
      · rename_i v' ev
        split at p
        · rename_i hc
          intro μ' H' e rh' x rv
          exact p (μ'.take h.length) H' (cutE e) (rh'.cut hc) x (convV_ok rh' ev rv)
        · exact p
      · exact p
  | exc x h' =>
    unfold gcRes at p
    dsimp only at p
    split at p
    · exact p
    · split at p
      · rename_i hc
        intro μ' H' cls d e rh' rx
        refine p (μ'.take h.length) H' cls d (cutE e) (rh'.cut hc.2) ?_
        obtain ⟨a, q1, q2, q3⟩ := rx
        refine ⟨a, q1, q2, ?_⟩
        cases hn : x.names with
        | nil => rw [hn] at q3; exact q3
        | cons y r =>
          rw [hn] at q3
          obtain ⟨dx, xs, z1, z2, z3, z4⟩ := q3
          exact ⟨dx, xs, z1, z2, notin_take z3, z4.cut hc.1⟩
      · exact p
end

/-! ### defs -/
def gcIf (gc : Bool) (b : Nat) (r : Res AV) : Res AV := if gc = true then gcRes b r else r
theorem gcIf_post {C : Ctx} {μ : Mu} {H : Hp} {h : AHeap} {gc : Bool} {E : XK} {Q : VK} {r : Res AV} (rh : RepH C μ h H) (p : Post C μ H E (RVK C Q) (gcIf gc h.length r)) : Post C μ H E (RVK C Q) r := by
  cases gc with
  | true => exact gc_post rh p
  | false => exact p
def aDef (gc : Bool) (np nl : Nat) (body : AS) : MF := fun as h => if as.length = np then gcIf gc h.length (match body (as.map some ++ List.replicate (nl - np) none) h with
  | .rt v h' => .ok v h'
  | .nx _ h' => .ok .non h'
  | .exc e _ h' => .exc e h'
  | .bk _ _ => .bad
  | .ct _ _ => .bad
  | .bad => .bad) else .bad
theorem aDef_len {gc : Bool} {np nl : Nat} {body : AS} (l : List AV) (h : AHeap) (hl : l.length ≠ np) : aDef gc np nl body l h = .bad := if_neg hl
def spD (P : Program) (w : World) (K : PySem.W.Frag) (mg : Str → Option Value) (n : Nat) (m : MF) (vs : List V) (H : Hp) (Q : VK) (E : XK) : Prop :=
  vs.length = n ∧ ∃ Z μ h as, RepH ⟨P, w, K, mg, Z, none⟩ μ h H ∧ RVs ⟨P, w, K, mg, Z, none⟩ μ H as vs ∧ Post ⟨P, w, K, mg, Z, none⟩ μ H E (RVK ⟨P, w, K, mg, Z, none⟩ Q) (m as h)
/-- the def at f does what m says, called where no repr is running -/
structure FG (P : Program) (w : World) (K : PySem.W.Frag) (mg : Str → Option Value) (base : Heap) (k : Nat) (f : Addr) (fd : FuncData) (ps : List Str) (m : MF) : Prop where
  run : ∀ (A : Around) (outer : List Env) (s : Shared) (H : Hp) (args : Args) (us : List Value) (vs : List V) (Q : VK) (E : XK), Room k A → A.guards = some [] → Env0 P w K mg base A outer s H → BindsTo s fd args (ps.zip us) →
    Vals vs us → spD P w K mg ps.length m vs H Q E → codeAny (model P w) A (.call (.ref f) args) (CR (L2.CX P w) outer P w H s Q E) s

section
variable {P : Program} {w : World} {K : PySem.W.Frag} {mg : Str → Option Value} {base : Heap}
theorem FG.mono {j k : Nat} {f : Addr} {fd : FuncData} {ps : List Str} {m : MF} (F : FG P w K mg base j f fd ps m) (h : j ≤ k) : FG P w K mg base k f fd ps m :=
  ⟨fun A outer s H args us vs Q E hr hg => F.run A outer s H args us vs Q E (hr.mono h) hg⟩
theorem repE_start {C : Ctx} {μ : Mu} {H : Hp} {as : List AV} {vs : List V} {N : List Str} (r : RVs C μ H as vs) : RepE C μ H (as.map some ++ List.replicate (N.length - as.length) none) (L2.start N vs) := by
  have hl := r.length
  unfold L2.start
  refine ⟨by simp [hl], fun i v e => ?_⟩
  by_cases hi : i < as.length
  · rw [List.getElem?_append_left (by simpa using hi), List.getElem?_map] at e
    cases ev : as[i]? with
    | none => rw [ev] at e; cases e
    | some a =>
      rw [ev] at e; cases e
      obtain ⟨x, e1, e2⟩ := r.get ev
      refine ⟨x, ?_, e2⟩
      rw [List.getElem?_append_left (by simp [hl, hi]), List.getElem?_map, e1]; rfl
  · rw [List.getElem?_append_right (by simpa using hi), List.getElem?_replicate] at e
    split at e <;> cases e
theorem FG.of {k : Nat} {f : Addr} {fd : FuncData} {x qual : Str} {params : Arguments} {body : List Stmt} {scope : Scope} {dvs : List V} {kws : List (Str × V)} {N ps : List Str} {fb : AS} (gc : Bool)
    (F : FunD K x qual params body scope dvs kws f fd) (S : FnScope N ps scope)
    (hbody : ∀ (cdv : Value) (A : Around) (outer : List Env) (s : Shared) (H : Hp) (E : XK), Room k (A.deeper (envOfC qual scope s.heap.objs.size f cdv)) → A.guards = some [] →
      DSs (cxOf (L2.CX P w) P w K mg base N qual scope f cdv A outer s H E) (fun cls d _ H' => E cls d H') body fb) : FG P w K mg base (k + 1) f fd ps (aDef gc ps.length N.length fb) := by
  obtain ⟨oc, od, dV, kV, doc, pm, an, cdv, ct, osl, rfl, lookup_, code_, _, _⟩ := F.ex
  refine ⟨fun A outer s H args us vs Q E room quiet e0 binding vals spec => ?_⟩
  obtain ⟨len_, Z, μ, h, as, rh, ra, post⟩ := spec
  have inK : K.In s.heap := e0.mod.kin.keeps fun b o e => (e0.bs b o e).1
  have noLim : s.heap.NoLimit := e0.mod.nolimit.keeps fun b o e => (e0.bs b o e).1
  refine codeAny_call_function room.depth (inK _ _ lookup_) rfl S.co S.gen rfl (PySem.W.codeRec_of inK code_) (binding _ _ _ _ ?_)
  refine wpAny_newFunctionEnv_cells S.kind (fun ⟨nm, vl⟩ hy => ?_) fun env henv s1 started => ?_
  · rcases S.par nm (List.of_mem_zip hy).1 with q | q
    · exact .inl q
    · exact .inr ⟨q, PySem.W.cellsFrom_some _ _ _ (.inl q)⟩
  · subst henv
    refine ⟨noLim.keeps started.toInCall.keep, codeAny_func ?_⟩
    have I := inv_start (CX := L2.CX P w) (N := N) (E := E) (cd := cdv) (f := f) (qual := qual) S room.hd e0 len_ vals started
    have hal : as.length = ps.length := by rw [← ra.length]; exact len_
    unfold aDef at post
    rw [if_pos hal] at post
    have p1 := gcIf_post rh post
    have run := (hbody cdv A outer s H E (room.deeper _) quiet).pss.run [] s1 (L2.start N vs) H { nx := fun _ H' => Q .non H', rt := Q } I ⟨Z, μ, _, h, rh, repE_start (N := N) ra, by
      rw [hal]
      cases eb : fb (as.map some ++ List.replicate (N.length - ps.length) none) h with
      | rt v h' => rw [eb] at p1; exact fun μ' H' x e' r' rx => p1 μ' H' e' r' x rx
      | nx ρ' h' => rw [eb] at p1; exact fun μ' H' σ' e' r' _ => p1 μ' H' e' r' .non .non
      | exc x ρ' h' => rw [eb] at p1; exact fun μ' H' σ' cls d e' r' _ rx => p1 μ' H' cls d e' r' rx
      | bk ρ' h' => rw [eb] at p1; exact p1.elim
      | ct ρ' h' => rw [eb] at p1; exact p1.elim
      | bad => rw [eb] at p1; exact p1⟩
    refine wpAny_mono run (fun fl s' hs => ?_) fun e s' hs => hs
    cases fl with
    | ret u => obtain ⟨v, σ', H', J, rv, q⟩ := hs; exact ⟨v, H', J.os, J.bare, J.base, J.hok, rv, q⟩
    | next => obtain ⟨σ', H', J, q⟩ := hs; exact ⟨V.non, H', J.os, J.bare, J.base, J.hok, rfl, q⟩
    | brk => obtain ⟨_, _, _, q⟩ := hs; exact q.elim
    | cont => obtain ⟨_, _, _, q⟩ := hs; exact q.elim

/-- the text's def x does what m says: called by the arguments in order -/
structure Fn (P : Program) (w : World) (K : PySem.W.Frag) (mg : Str → Option Value) (base : Heap) (k : Nat) (x : Str) (m : MF) : Prop where
  ex : ∃ f fd ps, mg x = some (.ref f) ∧ PySem.W.keepIn K (.ref f) = true ∧ Binds K fd ps [] ∧ (∀ l h, l.length ≠ ps.length → m l h = .bad) ∧ FG P w K mg base k f fd ps m
/-- .. by n arguments in order and the keywords ks; arr puts them in the parameters' order -/
structure FnK (P : Program) (w : World) (K : PySem.W.Frag) (mg : Str → Option Value) (base : Heap) (k : Nat) (x : Str) (n : Nat) (ks : List Str) (arr : List AV → List AV → List AV) (m : MF) : Prop where
  ex : ∃ f fd ps g gV, mg x = some (.ref f) ∧ (∃ o, K.lookup f = some o ∧ o.data = .func fd) ∧ (∀ l h, l.length ≠ ps.length → m l h = .bad) ∧ KBn K fd ps n ks g gV ∧
    (∀ {C : Ctx} {μ : Mu} {H : Hp} {as bs : List AV} {xs ys : List V}, as.length = n → bs.length = ks.length → RVs C μ H as xs → RVs C μ H bs ys → RVs C μ H (arr as bs) (gV xs ys)) ∧ FG P w K mg base k f fd ps m
end

section
variable {X : Cx} {W : WX} {pins : List (Addr × Obj)} {σ : L2.St} {H : Hp} {s : Shared} {k : Nat} {f : Addr} {fd : FuncData} {ps : List Str} {m : MF}
theorem run_fg {Q : VK} {us bs : List Value} {kw : List (Str × Value)} {vs : List V} (F : FG X.prog X.w X.K X.mg X.base k f fd ps m) (hr : Room k X.A) (hg : X.A.guards = some []) (tk : Takes X W) (I : Inv X pins σ H s) (r : Vals vs bs)
    (bt : BindsTo s fd ⟨us, kw⟩ (ps.zip bs)) (h : spD X.prog X.w X.K X.mg ps.length m vs H Q (fun c d H' => W c d σ H')) : wpAny (model X.prog X.w) X.A (call (.ref f) us kw) (EP X pins σ Q) X.xe s := by
  refine wpAny_call (codeAny_mono (F.run X.A X.stack s H ⟨us, kw⟩ bs vs Q _ hr hg I.env0 bt r h) fun res s' back => ?_)
  cases res with
  | error e => exact tk e s' (XE.of_call I (fun _ _ _ z => z) back)
  | ok fl =>
    cases fl with
    | ret u => exact I.after back
    | next => exact back.elim
    | brk => exact back.elim
    | cont => exact back.elim
end

def aCall (m : MF) (fa : AA) : AE := fun ρ h => (fa ρ h).bind fun l h1 => m l h1
def aCallK (m : MF) (n nk : Nat) (arr : List AV → List AV → List AV) (fa fk : AA) : AE := fun ρ h => (fa ρ h).bind fun l h1 => (fk ρ h1).bind fun r h2 => if l.length = n ∧ r.length = nk then m (arr l r) h2 else .bad
/-- the keywords' values -/
structure DK (X : Cx) (W : WX) (kws : List Keyword) (f : AA) : Prop where
  pk : PK X kws (tDA X W f)
section
variable {X : Cx} {W : WX} {pos p : Pos} {x : Str} {k : Nat} {m : MF} {e : Expr} {es : List Expr} {fa fk : AA} {fe : AE}
theorem PK.wk {kws : List Keyword} {t t' : TA} (h : PK X kws t) (q : ∀ σ H Q, t' σ H Q → t σ H Q) : PK X kws t' := ⟨fun pos pins s σ H Q I hw => h.run pos pins s σ H Q I (q σ H Q hw)⟩
theorem DK.nil : DK X W [] aNil := ⟨PK.wk pk_nil fun σ H Q ⟨Z, μ, ρ, h, rh, re, p⟩ => Post.fin (a := ([] : List AV)) p rh _ .nil⟩
theorem DK.cons {nm : Option Str} {kpos : Pos} {kws : List Keyword} (ha : DE X W e fe) (hr : DK X W kws fk) : DK X W (⟨nm, e, kpos⟩ :: kws) (aCons fe fk) := by
  refine ⟨PK.wk (pk_cons ha.pe hr.pk) fun σ H Q h => ?_⟩
  obtain ⟨Z, μ, ρ, h, rh, re, p⟩ := h
  refine tD.seq rh re p fun μ1 H1 h1 v x e1 rh1 re1 rv p1 => ?_
  refine tDA.seq rh1 re1 p1 fun μ2 H2 h2 l xs e2 rh2 re2 rl p2 => ?_
  exact p2.fin rh2 _ (.cons (rv.mono e2) rl)
/-- f(e, ..) -/
theorem DE.call (F : Fn X.prog X.w X.K X.mg X.base k x m) (hr : Room k X.A) (hg : X.A.guards = some []) (hc : X.calm = true) (tk : Takes X W) (ha : DA X W (e :: es) fa) (hgl : Gl X x := by rfl) (hdb : (x == ("__debug__" : Str)) = false := by rfl)
    (he : starEach (e :: es) X.env = (false, eval e X.env) :: starEach es X.env := by rfl) (hpl : (backTo pos (starEach es X.env)).any (·.1) = false := by rfl) : DE X W (.Call (.Name x p) (e :: es) [] pos) (aCall m fa) := by
  obtain ⟨f, fd, ps, hm, hk, hb, hlen, FF⟩ := F.ex
  refine ⟨⟨fun pins s σ H Q I h => ?_⟩⟩
  refine wpAny_Call_Name_kw (ld_glob I hgl hm ?_ hdb)
  obtain ⟨Z, μ, ρ, h, rh, re, pp⟩ := h
  have go : tDA X W fa σ H fun xs H1 => spD X.prog X.w X.K X.mg ps.length m xs H1 Q (fun c d H' => W c d σ H') := by
    refine tDA.seq rh re pp fun μ1 H1 h1 l xs e1 rh1 re1 rl p1 => ?_
    by_cases hl : l.length = ps.length
    · rw [cc_calm hc] at rh1 rl p1; exact ⟨rl.length.trans hl, Z, μ1, h1, l, rh1, rl, p1⟩
    · rw [hlen l h1 hl] at p1; exact p1.elim
  refine PySem.W.callWith_K (h₀ := X.base) I.ok.mod.kin hk (thn (ha.pa.run pos pins s σ H _ I go) fun us s1 ⟨vs, H1, I1, r, q⟩ => ⟨I1.kIn, ?_⟩) he hpl
  have bt := hb s1 us I1.kIn (by rw [List.append_nil, ← r.length]; exact q.1)
  rw [List.append_nil] at bt
  exact run_fg FF hr hg tk I1 r bt q
/-- f() -/
theorem DE.call0 (F : Fn X.prog X.w X.K X.mg X.base k x m) (hr : Room k X.A) (hg : X.A.guards = some []) (hc : X.calm = true) (tk : Takes X W) (hgl : Gl X x := by rfl) (hdb : (x == ("__debug__" : Str)) = false := by rfl) : DE X W (.Call (.Name x p) [] [] pos) (aCall m aNil) := by
  obtain ⟨f, fd, ps, hm, hk, hb, hlen, FF⟩ := F.ex
  refine ⟨⟨fun pins s σ H Q I h => ?_⟩⟩
  refine wpAny_Call_Name_kw (ld_glob I hgl hm ?_ hdb)
  obtain ⟨Z, μ, ρ, h, rh, re, pp⟩ := h
  have pp : Post (cc X Z) μ H (fun c d H' => W c d σ H') (RVK (cc X Z) Q) (m [] h) := pp
  rw [cc_calm hc] at rh pp
  by_cases hl : ([] : List AV).length = ps.length
  · have bt := hb s [] I.kIn (by simpa using hl)
    exact PySem.W.callWith_K0 I.kIn hk (run_fg (vs := []) FF hr hg tk I .nil bt ⟨hl, Z, μ, h, [], rh, .nil, pp⟩)
  · rw [hlen [] h hl] at pp; exact pp.elim
/-- what a call with keywords wants behind its arguments -/
theorem run_fk {n : Nat} {ks ps : List Str} {arr : List AV → List AV → List AV} {f : Addr} {fd : FuncData} {g : List Value → List Value → List Value} {gV : List V → List V → List V} {pins : List (Addr × Obj)} {σ : L2.St} {H : Hp} {s : Shared} {Q : VK} {us ws : List Value} {vs zs : List V}
    (hlen : ∀ l h, l.length ≠ ps.length → m l h = .bad) (hb : KBn X.K fd ps n ks g gV)
    (harr : ∀ {C : Ctx} {μ : Mu} {H : Hp} {as bs : List AV} {xs ys : List V}, as.length = n → bs.length = ks.length → RVs C μ H as xs → RVs C μ H bs ys → RVs C μ H (arr as bs) (gV xs ys)) (FF : FG X.prog X.w X.K X.mg X.base k f fd ps m)
    (hr : Room k X.A) (hg : X.A.guards = some []) (hc : X.calm = true) (tk : Takes X W) (I : Inv X pins σ H s) (r : Vals vs us) (rz : Vals zs ws)
    (h : ∃ Z μ h l q, RepH (cc X Z) μ h H ∧ RVs (cc X Z) μ H l vs ∧ RVs (cc X Z) μ H q zs ∧ Post (cc X Z) μ H (fun c d H' => W c d σ H') (RVK (cc X Z) Q) (if l.length = n ∧ q.length = ks.length then m (arr l q) h else .bad)) :
    wpAny (model X.prog X.w) X.A (call (.ref f) us (ks.zip ws)) (EP X pins σ Q) X.xe s := by
  obtain ⟨Z, μ, h, l, q, rh, rl, rq, p⟩ := h
  by_cases hl : l.length = n ∧ q.length = ks.length
  · rw [if_pos hl] at p
    have ra := harr hl.1 hl.2 rl rq
    rw [cc_calm hc] at rh ra p
    have bt := hb.to s us ws I.kIn (by rw [← r.length, rl.length]; exact hl.1) (by rw [← rz.length, rq.length]; exact hl.2)
    by_cases hp : (arr l q).length = ps.length
    · exact run_fg FF hr hg tk I (hb.rel r rz) bt ⟨ra.length.trans hp, Z, μ, h, _, rh, ra, p⟩
    · rw [hlen _ h hp] at p; exact p.elim
  · rw [if_neg hl] at p; exact p.elim
/-- f(k = v, ..) -/
theorem DE.callK0 {ks : List Str} {arr : List AV → List AV → List AV} {kws : List Keyword} (F : FnK X.prog X.w X.K X.mg X.base k x 0 ks arr m) (hr : Room k X.A) (hg : X.A.guards = some []) (hc : X.calm = true) (tk : Takes X W) (hkw : DK X W kws fk) (hgl : Gl X x := by rfl)
    (hall : (backToKw pos (keywordEach kws X.env)).all (·.1.isSome) = true := by rfl) (hks : (backToKw pos (keywordEach kws X.env)).filterMap (·.1) = ks := by rfl) (hdb : (x == ("__debug__" : Str)) = false := by rfl) :
    DE X W (.Call (.Name x p) [] kws pos) (aCallK m 0 ks.length arr aNil fk) := by
  obtain ⟨f, fd, ps, g, gV, hm, ⟨o, lo, od⟩, hlen, hb, harr, FF⟩ := F.ex
  refine ⟨⟨fun pins s σ H Q I h => ?_⟩⟩
  refine wpAny_Call_Name_kw (ld_glob I hgl hm ?_ hdb)
  obtain ⟨Z, μ, ρ, h, rh, re, pp⟩ := h
  have go : tDA X W fk σ H fun zs H1 => ∃ Z μ h l q, RepH (cc X Z) μ h H1 ∧ RVs (cc X Z) μ H1 l [] ∧ RVs (cc X Z) μ H1 q zs ∧ Post (cc X Z) μ H1 (fun c d H' => W c d σ H') (RVK (cc X Z) Q) (if l.length = 0 ∧ q.length = ks.length then m (arr l q) h else .bad) :=
    tDA.seq (k := fun q h2 => if ([] : List AV).length = 0 ∧ q.length = ks.length then m (arr [] q) h2 else .bad) rh re pp fun μ1 H1 h1 q xs e1 rh1 re1 rq p1 => ⟨Z, μ1, h1, [], q, rh1, .nil, rq, p1⟩
  refine callWith_function_kw (evalArgs_kw_nil hall (thn (hkw.pk.run pos pins s σ H _ I go) fun ws s2 ⟨zs, H2, I2, rz, q2⟩ => ⟨⟨I2.kIn f o lo, od⟩, ?_⟩))
  rw [hks]
  exact run_fk hlen hb harr FF hr hg hc tk I2 .nil rz q2
/-- f(e, .., k = v, ..) -/
theorem DE.callK {n : Nat} {ks : List Str} {arr : List AV → List AV → List AV} {kws : List Keyword} (F : FnK X.prog X.w X.K X.mg X.base k x n ks arr m) (hr : Room k X.A) (hg : X.A.guards = some []) (hc : X.calm = true) (tk : Takes X W) (ha : DA X W (e :: es) fa) (hkw : DK X W kws fk) (hgl : Gl X x := by rfl)
    (hall : (backToKw pos (keywordEach kws X.env)).all (·.1.isSome) = true := by rfl) (hks : (backToKw pos (keywordEach kws X.env)).filterMap (·.1) = ks := by rfl) (hdb : (x == ("__debug__" : Str)) = false := by rfl)
    (he : starEach (e :: es) X.env = (false, eval e X.env) :: starEach es X.env := by rfl) : DE X W (.Call (.Name x p) (e :: es) kws pos) (aCallK m n ks.length arr fa fk) := by
  obtain ⟨f, fd, ps, g, gV, hm, ⟨o, lo, od⟩, hlen, hb, harr, FF⟩ := F.ex
  refine ⟨⟨fun pins s σ H Q I h => ?_⟩⟩
  refine wpAny_Call_Name_kw (ld_glob I hgl hm ?_ hdb)
  obtain ⟨Z, μ, ρ, h, rh, re, pp⟩ := h
  have go : tDA X W fa σ H fun xs H1 => tDA X W fk σ H1 fun zs H2 => ∃ Z μ h l q, RepH (cc X Z) μ h H2 ∧ RVs (cc X Z) μ H2 l xs ∧ RVs (cc X Z) μ H2 q zs ∧ Post (cc X Z) μ H2 (fun c d H' => W c d σ H') (RVK (cc X Z) Q) (if l.length = n ∧ q.length = ks.length then m (arr l q) h else .bad) :=
    tDA.seq rh re pp fun μ1 H1 h1 l xs e1 rh1 re1 rl p1 => tDA.seq rh1 re1 p1 fun μ2 H2 h2 q zs e2 rh2 re2 rq p2 => ⟨Z, μ2, h2, l, q, rh2, rl.mono e2, rq, p2⟩
  have hA := ha.pa.run pos pins s σ H _ I go
  rw [he] at hA ⊢
  refine callWith_function_kw (evalArgs_kw hall (thn hA fun us s1 ⟨vs, H1, I1, r, q⟩ => thn (hkw.pk.run pos pins s1 σ H1 _ I1 q) fun ws s2 ⟨zs, H2, I2, rz, q2⟩ => ⟨⟨I2.kIn f o lo, od⟩, ?_⟩))
  rw [hks]
  exact run_fk hlen hb harr FF hr hg hc tk I2 r rz q2
end
end AI
namespace AI
open PySem PySem.Spec PyProof.Rows
open L2

def szM : Nat := 16777216
theorem szM_eq : szM = sizeLine := sizeLine_eq.symm
theorem le_line {n : Nat} (h : n ≤ szM) : n ≤ sizeLine := by rw [← szM_eq]; exact h

/-! ### sequences -/
def seqL (h : AHeap) : AV → Option (List AV)
  | .lst l => some l
  | .ref n => match h[n]? with
    | some (.list l) => some l
    | _ => none
  | _ => none
def seqT : AV → Option (List AV)
  | .tup l => some l
  | _ => none
section
variable {C : Ctx} {μ : Mu} {H : Hp} {h : AHeap} {v : AV} {x : V} {l : List AV}
theorem seqL_sq (rh : RepH C μ h H) (r : RV C μ H v x) (e : seqL h v = some l) : ∃ a xs, x = .ref a ∧ SqL C.K H a xs ∧ RVs C μ H l xs := by
  cases v with
  | lst m => cases e; obtain ⟨a, xs, rfl, t, q⟩ := r.lst_inv; exact ⟨a, xs, rfl, t.sq, q⟩
  | ref n =>
    obtain ⟨a, rfl, ha⟩ := r.ref_inv
    unfold seqL at e
    dsimp only at e
    split at e
    · rename_i m hm
      cases e
      obtain ⟨xs, e1, e2⟩ := rh.obj n _ a hm ha
      exact ⟨a, xs, rfl, .inl (.inl e1), e2⟩
    · cases e
  | _ => cases e
theorem seqT_sq (r : RV C μ H v x) (e : seqT v = some l) : ∃ a xs, x = .ref a ∧ SqT C.K H a xs ∧ TupAt C μ H a xs ∧ RVs C μ H l xs := by
  cases v with
  | tup m => cases e; obtain ⟨a, xs, rfl, t, q⟩ := r.tup_inv; exact ⟨a, xs, rfl, t.sq, t, q⟩
  | _ => cases e
end

/-! ### operators -/
def vOr (f g : POp2) : POp2 := fun h a b => match f h a b with
  | some v => some v
  | none => g h a b
def vInt (c : Int → Int → Bool) (g : Int → Int → AV) : POp2 := fun _ a b => match a, b with
  | .int i, .int j => if c i j = true then some (g i j) else none
  | _, _ => none
def yes2 : Int → Int → Bool := fun _ _ => true
section
variable {X : Cx} {f : Value → Value → Sem Value} {op op' : POp2}
theorem VOp.or (a : VOp X f op) (b : VOp X f op') : VOp X f (vOr op op') := by
  intro pins s σ H x y v u Q I rx ry hh
  obtain ⟨Z, μ, h, p, q, r, rh, rp, rq, ev, o⟩ := hh
  unfold vOr at ev
  cases e : op h p q with
  | some w =>
    rw [e] at ev; cases ev
    exact a pins s σ H x y v u Q I rx ry ⟨Z, μ, h, p, q, _, rh, rp, rq, e, o⟩
  | none =>
    rw [e] at ev
    exact b pins s σ H x y v u Q I rx ry ⟨Z, μ, h, p, q, r, rh, rp, rq, ev, o⟩
theorem vInt_inv {c : Int → Int → Bool} {g : Int → Int → AV} {h : AHeap} {a b r : AV} (e : vInt c g h a b = some r) : ∃ i j, a = .int i ∧ b = .int j ∧ c i j = true ∧ r = g i j := by
  unfold vInt at e
  split at e
  · rename_i i j
    split at e
    · rename_i hc
      cases e
      exact ⟨i, j, rfl, rfl, hc, rfl⟩
    · cases e
  · cases e
theorem VOp.int {P : Int → Int → Prop} {g : Int → Int → Int} (c : Int → Int → Bool) (hc : ∀ i j, c i j = true → P i j) (ho : OpR X f (rI P fun i j => .int (g i j))) : VOp X f (vInt c fun i j => .int (g i j)) := by
  intro pins s σ H x y v u Q I rx ry hh
  obtain ⟨Z, μ, h, p, q, r, rh, rp, rq, ev, o⟩ := hh
  obtain ⟨i, j, rfl, rfl, k, rfl⟩ := vInt_inv ev
  exact ho pins s σ H x y v u Q I rx ry ⟨i, j, rp.int_inv, rq.int_inv, hc i j k, o.val rh .int⟩
theorem VOp.int0 {g : Int → Int → Int} (ho : OpR X f (rI0 fun i j => .int (g i j))) : VOp X f (vInt yes2 fun i j => .int (g i j)) := by
  intro pins s σ H x y v u Q I rx ry hh
  obtain ⟨Z, μ, h, p, q, r, rh, rp, rq, ev, o⟩ := hh
  obtain ⟨i, j, rfl, rfl, k, rfl⟩ := vInt_inv ev
  exact ho pins s σ H x y v u Q I rx ry ⟨i, j, rp.int_inv, rq.int_inv, o.val rh .int⟩
theorem VOp.intB {g : Int → Int → Bool} (ho : OpR X f (rI0 fun i j => .bl (g i j))) : VOp X f (vInt yes2 fun i j => .bl (g i j)) := by
  intro pins s σ H x y v u Q I rx ry hh
  obtain ⟨Z, μ, h, p, q, r, rh, rp, rq, ev, o⟩ := hh
  obtain ⟨i, j, rfl, rfl, k, rfl⟩ := vInt_inv ev
  exact ho pins s σ H x y v u Q I rx ry ⟨i, j, rp.int_inv, rq.int_inv, o.val rh .bl⟩

def vAddStr : POp2 := fun _ a b => match a, b with
  | .str s, .str t => if decide (s.length + t.length ≤ szM) = true then some (.str (s ++ t)) else none
  | _, _ => none
theorem VOp.addStr : VOp X (binaryOp .Add) vAddStr := by
  intro pins s σ H x y v u Q I rx ry hh
  obtain ⟨Z, μ, h, p, q, r, rh, rp, rq, ev, o⟩ := hh
  unfold vAddStr at ev
  split at ev
  · rename_i a b
    split at ev
    · rename_i hc
      cases ev
      refine op_add_str pins s σ H x y v u Q I rx ry ⟨_, _, rp.str_inv, rq.str_inv, ?_, ?_⟩
      · have := le_line (of_decide_eq_true hc)
        simpa [PySem.Str.length] using this
      · refine o.val rh ?_
        have e : (⟨a.toArray⟩ ++ ⟨b.toArray⟩ : PySem.Str) = ⟨(a ++ b).toArray⟩ := by
          show PySem.Str.mk (a.toArray ++ b.toArray) = _
          simp
        rw [e]; exact .str
    · cases ev
  · cases ev
def vAddTup : POp2 := fun _ a b => match a, b with
  | .tup l, .tup m => if decide (l.length + m.length ≤ szM) = true then some (.tup (l ++ m)) else none
  | _, _ => none
theorem VOp.addTup : VOp X (binaryOp .Add) vAddTup := by
  intro pins s σ H x y v u Q I rx ry hh
  obtain ⟨Z, μ, h, p, q, r, rh, rp, rq, ev, o⟩ := hh
  unfold vAddTup at ev
  split at ev
  · rename_i l m
    split at ev
    · rename_i hc
      cases ev
      obtain ⟨a, xs, rfl, ta, ra⟩ := rp.tup_inv
      obtain ⟨b, ys, rfl, tb, rb⟩ := rq.tup_inv
      refine op_catA pins s σ H _ _ v u Q I rx ry ⟨a, b, xs, ys, rfl, rfl, ta.sq, tb.sq, ?_, ?_, ?_, ?_⟩
      · rw [ra.length, rb.length]; exact le_line (of_decide_eq_true hc)
      · intro e
        subst e
        have : l = [] := List.eq_nil_of_length_eq_zero (by rw [← ra.length]; rfl)
        subst this
        exact o.val rh (.tup tb rb)
      · intro _ e
        subst e
        have : m = [] := List.eq_nil_of_length_eq_zero (by rw [← rb.length]; rfl)
        subst this
        exact o.val rh (by rw [List.append_nil]; exact .tup ta ra)
      · intro _ _ p hp
        exact o.new rh hp (.tup (.new (rh.fresh hp)) ((ra.append rb).mono (.laid μ hp)))
    · cases ev
  · cases ev
theorem op_catL : OpR X (binaryOp .Add) (fun x y H Q => ∃ l b xs zs, x = .ref l ∧ y = .ref b ∧ SqL X.K H l xs ∧ SqL X.K H b zs ∧ xs.length + zs.length ≤ sizeLine ∧ ∀ p, H p = none → Q (.ref p) (upd H p (.lst (xs ++ zs)))) := by
  intro pins s σ H x y v u Q I rx ry h
  obtain ⟨l, b, xs, zs, rfl, rfl, hl, hb, hz, q⟩ := h
  cases rx
  cases ry
  obtain ⟨its, r1, ⟨⟨c1, d1, t1, s1⟩, n1, g1, k1, _, e1⟩, z1⟩ := I.list hl
  obtain ⟨its2, r2, ⟨⟨c2, d2, t2, s2⟩, n2, g2, k2, _, e2⟩, z2⟩ := I.list hb
  simp only at k1 e1 k2 e2
  subst k1 e1 k2 e2
  have hlen : its.length + its2.length ≤ sizeLine := by rw [← r1.length, ← r2.length]; exact hz
  refine concat_meets ⟨_, g1, rfl⟩ ⟨_, g2, rfl⟩ noFill_list_add seq_list_add PySem.F.slot_list_add PySem.F.entry_list_add (PySem.F.args_list_add_2 _ _) (list_addW l b its.toArray its2.toArray n1 n2 d1 d2 s1 s2 (by simpa using hlen)) ⟨g1, g2, ?_⟩
  rw [show its.toArray ++ its2.toArray = (its ++ its2).toArray by simp]
  exact ⟨.ref _, _, I.lnew (t' := s.toks) (r1.append r2) (by rw [List.length_append]; omega), rfl, q _ I.fresh⟩
def vAddLst : POp2 := fun h a b => match seqL h a, seqL h b with
  | some l, some m => if decide (l.length + m.length ≤ szM) = true then some (.lst (l ++ m)) else none
  | _, _ => none
theorem VOp.addLst : VOp X (binaryOp .Add) vAddLst := by
  intro pins s σ H x y v u Q I rx ry hh
  obtain ⟨Z, μ, h, p, q, r, rh, rp, rq, ev, o⟩ := hh
  unfold vAddLst at ev
  split at ev
  · rename_i l m e1 e2
    split at ev
    · rename_i hc
      cases ev
      obtain ⟨a, xs, rfl, ta, ra⟩ := seqL_sq rh rp e1
      obtain ⟨b, ys, rfl, tb, rb⟩ := seqL_sq rh rq e2
      refine op_catL pins s σ H _ _ v u Q I rx ry ⟨a, b, xs, ys, rfl, rfl, ta, tb, ?_, fun p hp => ?_⟩
      · rw [ra.length, rb.length]; exact le_line (of_decide_eq_true hc)
      · exact o.new rh hp (.lst (.new (rh.fresh hp) (rh.freshZ hp)) ((ra.append rb).mono (.laid μ hp)))
    · cases ev
  · cases ev
def iAdd : POp2 := vInt yes2 fun i j => .int (i + j)
def vAdd : POp2 := vOr iAdd (vOr vAddStr (vOr vAddTup vAddLst))
theorem VOp.add : VOp X (binaryOp .Add) vAdd := (VOp.int0 op_add).or (VOp.addStr.or (VOp.addTup.or .addLst))
def vSub : POp2 := vInt yes2 fun i j => .int (i - j)
theorem VOp.sub : VOp X (binaryOp .Sub) vSub := .int0 op_sub
def cMul (i j : Int) : Bool := decide (-(2 ^ 64) < i ∧ i < 2 ^ 64) || decide (-(2 ^ 64) < j ∧ j < 2 ^ 64)
def vMul : POp2 := vInt cMul fun i j => .int (i * j)
theorem VOp.mul : VOp X (binaryOp .Mult) vMul := .int cMul (fun i j h => by
  unfold cMul at h
  simpa [CMul] using h) op_mul
def cDiv (_ j : Int) : Bool := decide (0 < j ∧ j < 1073741824)
def vDiv : POp2 := vInt cDiv fun i j => .int (i / j)
theorem VOp.div : VOp X (binaryOp .FloorDiv) vDiv := .int cDiv (fun i j h => of_decide_eq_true h) op_fdiv
def cMod (_ j : Int) : Bool := decide (0 < j)
def vMod : POp2 := vInt cMod fun i j => .int (i % j)
theorem VOp.mod : VOp X (binaryOp .Mod) vMod := .int cMod (fun i j h => of_decide_eq_true h) op_mod
def cPow (i j : Int) : Bool := decide (0 ≤ j ∧ j ≤ 1000000 ∧ i.natAbs < 2 ^ 64)
def vPow : POp2 := vInt cPow fun i j => .int (i ^ j.toNat)
theorem VOp.pow : VOp X (binaryOp .Pow) vPow := .int cPow (fun i j h => of_decide_eq_true h) op_pow
def vLt : POp2 := vInt yes2 fun i j => .bl (decide (i < j))
def vLe : POp2 := vInt yes2 fun i j => .bl (decide (i ≤ j))
def vGt : POp2 := vInt yes2 fun i j => .bl (decide (j < i))
def vGe : POp2 := vInt yes2 fun i j => .bl (decide (j ≤ i))
theorem VOp.lt : VOp X (compareOp .Lt) vLt := .intB op_lt
theorem VOp.le : VOp X (compareOp .LtE) vLe := .intB op_le
theorem VOp.gt : VOp X (compareOp .Gt) vGt := .intB op_gt
theorem VOp.ge : VOp X (compareOp .GtE) vGe := .intB op_ge
def vNeg : POp1 := fun _ a => match a with
  | .int i => some (.int (-i))
  | _ => none
theorem VUn.neg : VUn X (unaryOp .USub) vNeg := by
  intro pins s σ H x v Q I rx hh
  obtain ⟨Z, μ, h, p, r, rh, rp, ev, o⟩ := hh
  unfold vNeg at ev
  split at ev
  · rename_i i
    cases ev
    exact un_neg pins s σ H x v Q I rx ⟨i, rp.int_inv, o.val rh .int⟩
  · cases ev

/-! ### flat values -/
def flat? : AV → Option V
  | .non => some .non
  | .bl b => some (.bl b)
  | .int i => some (.int i)
  | .str s => some (.str ⟨s.toArray⟩)
  | _ => none
theorem flat_rv {C : Ctx} {μ : Mu} {H : Hp} {v : AV} {x w : V} (r : RV C μ H v x) (e : flat? v = some w) : x = w ∧ flatV w = true := by
  cases v with
  | non => cases e; exact ⟨r.non_inv, rfl⟩
  | bl b => cases e; exact ⟨r.bl_inv, rfl⟩
  | int b => cases e; exact ⟨r.int_inv, rfl⟩
  | str b => cases e; exact ⟨r.str_inv, rfl⟩
  | _ => cases e
def flats? : List AV → Option (List V)
  | [] => some []
  | v :: l => match flat? v, flats? l with
    | some x, some r => some (x :: r)
    | _, _ => none
theorem flats_rv {C : Ctx} {μ : Mu} {H : Hp} : ∀ {l : List AV} {xs ws : List V}, RVs C μ H l xs → flats? l = some ws → xs = ws ∧ ws.all flatV = true
  | [], xs, ws, r, e => by cases e; simp only [RVs] at r; exact ⟨r, rfl⟩
  | v :: l, xs, ws, r, e => by
    obtain ⟨x, t, rfl, r1, r2⟩ := r.inv
    unfold flats? at e
    split at e
    · rename_i y u e1 e2
      cases e
      obtain ⟨rfl, f1⟩ := flat_rv r1 e1
      obtain ⟨rfl, f2⟩ := flats_rv r2 e2
      exact ⟨rfl, by simp [f1, f2]⟩
    · cases e
/-- x in a list, a tuple of flat values -/
def vInSeq (neg : Bool) : POp2 := fun h a b => match flat? a, (match seqT b with | some l => some l | none => seqL h b) with
  | some x, some l => match flats? l with
    | some xs => some (.bl (if neg = true then !inV x xs else inV x xs))
    | none => none
  | _, _ => none
theorem vInSeq_of (neg : Bool) (ho : OpR X f (rIn X.K neg)) : VOp X f (vInSeq neg) := by
  intro pins s σ H x y v u Q I rx ry hh
  obtain ⟨Z, μ, h, p, q, r, rh, rp, rq, ev, o⟩ := hh
  unfold vInSeq at ev
  split at ev
  · rename_i w l e1 e2
    split at ev
    · rename_i ws e3
      cases ev
      obtain ⟨rfl, fx⟩ := flat_rv rp e1
      cases et : seqT q with
      | some m =>
        rw [et] at e2; cases e2
        obtain ⟨a, xs, rfl, ta, _, ra⟩ := seqT_sq rq et
        obtain ⟨rfl, fs⟩ := flats_rv ra e3
        exact ho pins s σ H _ _ v u Q I rx ry ⟨a, xs, rfl, .inr ta, fx, fs, o.val rh .bl⟩
      | none =>
        rw [et] at e2
        obtain ⟨a, xs, rfl, ta, ra⟩ := seqL_sq rh rq e2
        obtain ⟨rfl, fs⟩ := flats_rv ra e3
        exact ho pins s σ H _ _ v u Q I rx ry ⟨a, xs, rfl, .inl ta, fx, fs, o.val rh .bl⟩
    · cases ev
  · cases ev
/-- one sign in a text -/
def vInSign (neg : Bool) : POp2 := fun _ a b => match a, b with
  | .str [c], .str t => some (.bl (if neg = true then !decide (c ∈ t) else decide (c ∈ t)))
  | _, _ => none
theorem VOp.inSign : VOp X (compareOp .In) (vInSign false) := by
  intro pins s σ H x y v u Q I rx ry hh
  obtain ⟨Z, μ, h, p, q, r, rh, rp, rq, ev, o⟩ := hh
  unfold vInSign at ev
  split at ev
  · rename_i c t
    cases ev
    exact op_in_sign pins s σ H _ _ v u Q I rx ry ⟨c, _, rp.str_inv, rq.str_inv, o.val rh (by simp [RV])⟩
  · cases ev
theorem VOp.notInSign : VOp X (compareOp .NotIn) (vInSign true) := by
  intro pins s σ H x y v u Q I rx ry hh
  obtain ⟨Z, μ, h, p, q, r, rh, rp, rq, ev, o⟩ := hh
  unfold vInSign at ev
  split at ev
  · rename_i c t
    cases ev
    exact op_notIn_sign pins s σ H _ _ v u Q I rx ry ⟨c, _, rp.str_inv, rq.str_inv, o.val rh (by simp [RV])⟩
  · cases ev

/-! ### data -/
mutual
def AV.data : AV → Option PyData
  | .non => some .none
  | .bl b => some (.bool b)
  | .int i => some (.int i)
  | .str s => some (.str ⟨s.toArray⟩)
  | .tup l => (AV.datas l).map .tuple
  | .lst l => (AV.datas l).map .list
  | _ => none
def AV.datas : List AV → Option (List PyData)
  | [] => some []
  | v :: l => match AV.data v, AV.datas l with
    | some d, some r => some (d :: r)
    | _, _ => none
end
def dataH (h : AHeap) (v : AV) : Option PyData := match v.data with
  | some d => some d
  | none => match seqL h v with
    | some l => (AV.datas l).map .list
    | none => none
mutual
theorem data_dp {C : Ctx} {μ : Mu} {H : Hp} : ∀ {v : AV} {x : V} {d : PyData}, RV C μ H v x → v.data = some d → Dp C.K H x d
  | .non, x, d, r, e => by cases e; rw [r.non_inv]; exact .non
  | .bl b, x, d, r, e => by cases e; rw [r.bl_inv]; exact .bl b
  | .int b, x, d, r, e => by cases e; rw [r.int_inv]; exact .int b
  | .str b, x, d, r, e => by cases e; rw [r.str_inv]; exact .str _
  | .tup l, x, d, r, e => by
    obtain ⟨a, xs, rfl, t, q⟩ := r.tup_inv
    unfold AV.data at e
    cases ed : AV.datas l with
    | none => rw [ed] at e; cases e
    | some ds => rw [ed] at e; cases e; exact .tup t.sq (datas_dp q ed)
  | .lst l, x, d, r, e => by
    obtain ⟨a, xs, rfl, t, q⟩ := r.lst_inv
    unfold AV.data at e
    cases ed : AV.datas l with
    | none => rw [ed] at e; cases e
    | some ds => rw [ed] at e; cases e; exact .lst t.sq (datas_dp q ed)
  | .dct _ _, _, _, _, e => by simp [AV.data] at e
  | .ref _, _, _, _, e => by simp [AV.data] at e
  | .ty _, _, _, _, e => by simp [AV.data] at e
  | .gl _, _, _, _, e => by simp [AV.data] at e
  | .exn _ _ _, _, _, _, e => by simp [AV.data] at e
  | .ins _ _ _, _, _, _, e => by simp [AV.data] at e
theorem datas_dp {C : Ctx} {μ : Mu} {H : Hp} : ∀ {l : List AV} {xs : List V} {ds : List PyData}, RVs C μ H l xs → AV.datas l = some ds → DpAll C.K H xs ds
  | [], xs, ds, r, e => by
    simp only [RVs] at r; subst r
    simp only [AV.datas, Option.some.injEq] at e; subst e; exact .nil
  | v :: l, xs, ds, r, e => by
    obtain ⟨x, t, rfl, r1, r2⟩ := r.inv
    unfold AV.datas at e
    split at e
    · rename_i d ds' e1 e2
      cases e
      exact .cons (data_dp r1 e1) (datas_dp r2 e2)
    · cases e
end
theorem dataH_dp {C : Ctx} {μ : Mu} {H : Hp} {h : AHeap} {v : AV} {x : V} {d : PyData} (rh : RepH C μ h H) (r : RV C μ H v x) (e : dataH h v = some d) : Dp C.K H x d := by
  unfold dataH at e
  split at e
  · rename_i d' e1
    cases e
    exact data_dp r e1
  · split at e
    · rename_i l e2
      obtain ⟨a, xs, rfl, t, q⟩ := seqL_sq rh r e2
      cases ed : AV.datas l with
      | none => rw [ed] at e; cases e
      | some ds => rw [ed] at e; cases e; exact .lst t (datas_dp q ed)
    · cases e
def vEqFlat (neg : Bool) : POp2 := fun _ a b => match flat? a, flat? b with
  | some x, some y => if scal x y = true then some (.bl (if neg = true then !decide (x = y) else decide (x = y))) else none
  | _, _ => none
def plB (d : PyData) : Bool := d.plain && decide (d.depth ≤ 64)
def vEqData (neg : Bool) : POp2 := fun h a b => match dataH h a, dataH h b with
  | some d, some e => if (plB d && plB e) = true then some (.bl (if neg = true then !PyData.eqv d e else PyData.eqv d e)) else none
  | _, _ => none
theorem VOp.eqFlat : VOp X (compareOp .Eq) (vEqFlat false) := by
  intro pins s σ H x y v u Q I rx ry hh
  obtain ⟨Z, μ, h, p, q, r, rh, rp, rq, ev, o⟩ := hh
  unfold vEqFlat at ev
  split at ev
  · rename_i a b e1 e2
    obtain ⟨rfl, _⟩ := flat_rv rp e1
    obtain ⟨rfl, _⟩ := flat_rv rq e2
    split at ev
    · rename_i hc
      cases ev
      exact op_eq pins s σ H _ _ v u Q I rx ry ⟨hc, o.val rh .bl⟩
    · cases ev
  · cases ev
theorem VOp.neFlat : VOp X (compareOp .NotEq) (vEqFlat true) := by
  intro pins s σ H x y v u Q I rx ry hh
  obtain ⟨Z, μ, h, p, q, r, rh, rp, rq, ev, o⟩ := hh
  unfold vEqFlat at ev
  split at ev
  · rename_i a b e1 e2
    obtain ⟨rfl, _⟩ := flat_rv rp e1
    obtain ⟨rfl, _⟩ := flat_rv rq e2
    split at ev
    · rename_i hc
      cases ev
      exact op_ne pins s σ H _ _ v u Q I rx ry ⟨hc, o.val rh .bl⟩
    · cases ev
  · cases ev
theorem VOp.eqData (hu : X.A.units + 64 < cLine) : VOp X (compareOp .Eq) (vEqData false) := by
  intro pins s σ H x y v u Q I rx ry hh
  obtain ⟨Z, μ, h, p, q, r, rh, rp, rq, ev, o⟩ := hh
  unfold vEqData at ev
  split at ev
  · rename_i a b e1 e2
    split at ev
    · rename_i hc
      cases ev
      have hc := Bool.and_eq_true_iff.mp hc
      obtain ⟨as, r1⟩ := Dp.reads I a x v (dataH_dp rh rp e1) rx
      obtain ⟨bs, r2⟩ := Dp.reads I b y u (dataH_dp rh rq e2) ry
      have p1 := Bool.and_eq_true_iff.mp hc.1
      have p2 := Bool.and_eq_true_iff.mp hc.2
      have d1 := of_decide_eq_true p1.2
      have mn := Nat.min_le_left a.depth b.depth
      exact SeqAt.eq_plain r1 r2 p1.1 p2.1 (by omega) ⟨.bl _, H, I, rfl, o.val rh .bl⟩
    · cases ev
  · cases ev
theorem VOp.neData (hu : X.A.units + 64 < cLine) : VOp X (compareOp .NotEq) (vEqData true) := by
  intro pins s σ H x y v u Q I rx ry hh
  obtain ⟨Z, μ, h, p, q, r, rh, rp, rq, ev, o⟩ := hh
  unfold vEqData at ev
  split at ev
  · rename_i a b e1 e2
    split at ev
    · rename_i hc
      cases ev
      have hc := Bool.and_eq_true_iff.mp hc
      obtain ⟨as, r1⟩ := Dp.reads I a x v (dataH_dp rh rp e1) rx
      obtain ⟨bs, r2⟩ := Dp.reads I b y u (dataH_dp rh rq e2) ry
      have p1 := Bool.and_eq_true_iff.mp hc.1
      have p2 := Bool.and_eq_true_iff.mp hc.2
      have d1 := of_decide_eq_true p1.2
      have mn := Nat.min_le_left a.depth b.depth
      exact SeqAt.ne_plain r1 r2 p1.1 p2.1 (by omega) ⟨.bl _, H, I, rfl, o.val rh .bl⟩
    · cases ev
  · cases ev
/-- x in a list, by data -/
def vInData (neg : Bool) : POp2 := fun h a b => match dataH h a, dataH h b with
  | some d, some (.list ds) => if (SeqAt.shaped d && SeqAt.shaped (.list ds)) = true then some (.bl (if neg = true then !ds.any fun z => PyData.eqv z d else ds.any fun z => PyData.eqv z d)) else none
  | _, _ => none
theorem VOp.inData (hu : X.A.units + 65 < cLine) : VOp X (compareOp .In) (vInData false) := by
  intro pins s σ H x y v u Q I rx ry hh
  obtain ⟨Z, μ, h, p, q, r, rh, rp, rq, ev, o⟩ := hh
  unfold vInData at ev
  split at ev
  · rename_i a b e1 e2
    split at ev
    · rename_i hc
      cases ev
      have hc := Bool.and_eq_true_iff.mp hc
      exact op_inD hu pins s σ H _ _ v u Q I rx ry ⟨a, b, dataH_dp rh rp e1, dataH_dp rh rq e2, hc.1, hc.2, o.val rh .bl⟩
    · cases ev
  · cases ev
theorem VOp.notInData (hu : X.A.units + 65 < cLine) : VOp X (compareOp .NotIn) (vInData true) := by
  intro pins s σ H x y v u Q I rx ry hh
  obtain ⟨Z, μ, h, p, q, r, rh, rp, rq, ev, o⟩ := hh
  unfold vInData at ev
  split at ev
  · rename_i a b e1 e2
    split at ev
    · rename_i hc
      cases ev
      have hc := Bool.and_eq_true_iff.mp hc
      exact op_notInD hu pins s σ H _ _ v u Q I rx ry ⟨a, b, dataH_dp rh rp e1, dataH_dp rh rq e2, hc.1, hc.2, o.val rh .bl⟩
    · cases ev
  · cases ev
def vEq : POp2 := vOr (vEqFlat false) (vEqData false)
def vNe : POp2 := vOr (vEqFlat true) (vEqData true)
def vIn : POp2 := vOr (vInSeq false) (vOr (vInSign false) (vInData false))
def vNotIn : POp2 := vOr (vInSeq true) (vOr (vInSign true) (vInData true))
theorem VOp.eq (hu : X.A.units + 64 < cLine) : VOp X (compareOp .Eq) vEq := VOp.eqFlat.or (.eqData hu)
theorem VOp.ne (hu : X.A.units + 64 < cLine) : VOp X (compareOp .NotEq) vNe := VOp.neFlat.or (.neData hu)
theorem VOp.in_ (hu : X.A.units + 65 < cLine) : VOp X (compareOp .In) vIn := (vInSeq_of false op_in_seq).or (VOp.inSign.or (.inData hu))
theorem VOp.notIn (hu : X.A.units + 65 < cLine) : VOp X (compareOp .NotIn) vNotIn := (vInSeq_of true op_notIn_seq).or (VOp.notInSign.or (.notInData hu))
def vIs (neg : Bool) : POp2 := fun _ a b => match b with
  | .non => match a with
    | .non => some (.bl (!neg))
    | .ty _ => none
    | .gl _ => none
    | _ => some (.bl neg)
  | _ => none
theorem vIs_rv {C : Ctx} {μ : Mu} {H : Hp} {h : AHeap} {p q r : AV} {x y : V} {neg : Bool} (rp : RV C μ H p x) (rq : RV C μ H q y) (e : vIs neg h p q = some r) : y = .non ∧ r = .bl (if neg = true then !decide (x = .non) else decide (x = .non)) := by
  cases q with
  | non =>
    refine ⟨rq.non_inv, ?_⟩
    cases p with
    | non => rw [rp.non_inv]; cases e; cases neg <;> simp
    | bl _ => rw [rp.bl_inv]; cases e; cases neg <;> simp
    | int _ => rw [rp.int_inv]; cases e; cases neg <;> simp
    | str _ => rw [rp.str_inv]; cases e; cases neg <;> simp
    | tup _ => obtain ⟨_, _, rfl, _⟩ := rp.tup_inv; cases e; cases neg <;> simp
    | lst _ => obtain ⟨_, _, rfl, _⟩ := rp.lst_inv; cases e; cases neg <;> simp
    | dct _ _ => obtain ⟨_, _, rfl, _⟩ := rp.dct_inv; cases e; cases neg <;> simp
    | ref _ => obtain ⟨_, rfl, _⟩ := rp.ref_inv; cases e; cases neg <;> simp
    | ty _ => cases e
    | gl _ => cases e
    | exn _ _ _ => simp only [RV] at rp; obtain ⟨_, _, _, _, _, rfl, _⟩ := rp; cases e; cases neg <;> simp
    | ins _ _ _ => simp only [RV] at rp; obtain ⟨_, _, _, _, rfl, _⟩ := rp; cases e; cases neg <;> simp
  | _ => cases e
theorem VOp.is_ : VOp X (compareOp .Is) (vIs false) := by
  intro pins s σ H x y v u Q I rx ry hh
  obtain ⟨Z, μ, h, p, q, r, rh, rp, rq, ev, o⟩ := hh
  obtain ⟨rfl, rfl⟩ := vIs_rv rp rq ev
  exact op_isN pins s σ H _ _ v u Q I rx ry ⟨rfl, o.val rh .bl⟩
theorem VOp.isNot : VOp X (compareOp .IsNot) (vIs true) := by
  intro pins s σ H x y v u Q I rx ry hh
  obtain ⟨Z, μ, h, p, q, r, rh, rp, rq, ev, o⟩ := hh
  obtain ⟨rfl, rfl⟩ := vIs_rv rp rq ev
  exact op_notN pins s σ H _ _ v u Q I rx ry ⟨rfl, o.val rh .bl⟩
end
end AI
namespace AI
open PySem PySem.Spec PyProof.Rows
open L2

/-! ### calls of built-ins: what comes is outside the abstract heap -/
abbrev PFn := AHeap → List AV → Option AV
def rAC (X : Cx) (op : PFn) : List V → Hp → VK → Prop := fun xs H Q => ∃ Z μ h l v, RepH (cc X Z) μ h H ∧ RVs (cc X Z) μ H l xs ∧ op h l = some v ∧ Out (cc X Z) μ H h v Q
def VCall (X : Cx) (f : Value) (op : PFn) : Prop := CallR X f (rAC X op)
def aFn (op : PFn) (fa : AA) : AE := fun ρ h => (fa ρ h).bind fun l h1 => lift1 (op h1 l) h1
section
variable {X : Cx} {W : WX} {pos p : Pos} {x : Str} {e : Expr} {es : List Expr} {fa : AA} {fe fb : AE} {op op' : PFn} {id T : String} {f : Value}
theorem fn_of {σ : L2.St} {H : Hp} {Q : VK} (h : tD X W (aFn op fa) σ H Q) : tCB (rAC X op) (tDA X W fa) σ H Q := by
  obtain ⟨Z, μ, ρ, h, rh, re, pp⟩ := h
  refine tDA.seq rh re pp fun μ1 H1 h1 l xs e1 rh1 re1 rl p1 => ?_
  obtain ⟨v, ev, o⟩ := Out.of p1
  exact ⟨Z, μ1, h1, l, v, rh1, rl, ev, o⟩
theorem DE.fnB (hc : VCall X (.builtin id) op) (hg : Gl X x) (hm : X.mg x = none) (hv : bootBuiltins x = some (.builtin id)) (ha : DA X W (e :: es) fa) (hn : x ≠ "__name__" := by decide) (hdb : (x == ("__debug__" : Str)) = false := by decide)
    (he : starEach (e :: es) X.env = (false, eval e X.env) :: starEach es X.env := by rfl) (hpl : (backTo pos (starEach es X.env)).any (·.1) = false := by rfl) : DE X W (.Call (.Name x p) (e :: es) [] pos) (aFn op fa) :=
  ⟨PE.wk (pe_callB hc hg hm hv ha.pa hn hdb he hpl) fun σ H Q h => fn_of h⟩
theorem DE.fnT (hc : VCall X (.type T) op) (hg : Gl X x) (hm : X.mg x = none) (hv : bootBuiltins x = some (.type T)) (ha : DA X W (e :: es) fa) (hn : x ≠ "__name__" := by decide) (hdb : (x == ("__debug__" : Str)) = false := by decide)
    (he : starEach (e :: es) X.env = (false, eval e X.env) :: starEach es X.env := by rfl) (hpl : (backTo pos (starEach es X.env)).any (·.1) = false := by rfl) : DE X W (.Call (.Name x p) (e :: es) [] pos) (aFn op fa) :=
  ⟨PE.wk (pe_callTy hc hg hm hv ha.pa hn hdb he hpl) fun σ H Q h => fn_of h⟩
def cOr (f g : PFn) : PFn := fun h a => match f h a with
  | some v => some v
  | none => g h a
theorem VCall.or (a : VCall X f op) (b : VCall X f op') : VCall X f (cOr op op') := by
  intro pins s σ H xs us Q I r hh
  obtain ⟨Z, μ, h, l, v, rh, rl, ev, o⟩ := hh
  unfold cOr at ev
  cases e : op h l with
  | some w =>
    rw [e] at ev; cases ev
    exact a pins s σ H xs us Q I r ⟨Z, μ, h, l, _, rh, rl, e, o⟩
  | none =>
    rw [e] at ev
    exact b pins s σ H xs us Q I r ⟨Z, μ, h, l, v, rh, rl, ev, o⟩
theorem RVs.one {C : Ctx} {μ : Mu} {H : Hp} {a : AV} {xs : List V} (r : RVs C μ H [a] xs) : ∃ x, xs = [x] ∧ RV C μ H a x := by
  obtain ⟨x, t, rfl, r1, r2⟩ := r.inv
  simp only [RVs] at r2; subst r2
  exact ⟨x, rfl, r1⟩
theorem RVs.two {C : Ctx} {μ : Mu} {H : Hp} {a b : AV} {xs : List V} (r : RVs C μ H [a, b] xs) : ∃ x y, xs = [x, y] ∧ RV C μ H a x ∧ RV C μ H b y := by
  obtain ⟨x, t, rfl, r1, r2⟩ := r.inv
  obtain ⟨y, rfl, r3⟩ := r2.one
  exact ⟨x, y, rfl, r1, r3⟩
/-- len -/
def vLen : PFn := fun h l => match l with
  | [.str s] => if decide (s.length ≤ szM) = true then some (.int s.length) else none
  | [.tup m] => some (.int m.length)
  | [v] => match seqL h v with
    | some m => some (.int m.length)
    | none => none
  | _ => none
theorem VCall.len : VCall X (.builtin "len") vLen := by
  intro pins s σ H xs us Q I r hh
  obtain ⟨Z, μ, h, l, v, rh, rl, ev, o⟩ := hh
  unfold vLen at ev
  split at ev
  · rename_i t
    obtain ⟨x, rfl, rx⟩ := rl.one
    split at ev
    · rename_i hc
      cases ev
      have hc := le_line (of_decide_eq_true hc)
      refine call_len pins s σ H _ us Q I r ⟨x, t.length, rfl, ?_, o.val rh .int⟩
      rw [rx.str_inv]
      exact ⟨by simpa [PySem.Str.length] using hc, by simp [PySem.Str.length]⟩
    · cases ev
  · rename_i m
    cases ev
    obtain ⟨x, rfl, rx⟩ := rl.one
    obtain ⟨a, ys, rfl, t, q⟩ := rx.tup_inv
    exact call_len pins s σ H _ us Q I r ⟨_, m.length, rfl, .inr ⟨ys, t.sq, q.length.symm⟩, o.val rh .int⟩
  · rename_i v' _ _
    obtain ⟨x, rfl, rx⟩ := rl.one
    split at ev
    · rename_i m em
      cases ev
      obtain ⟨a, ys, rfl, t, q⟩ := seqL_sq rh rx em
      exact call_len pins s σ H _ us Q I r ⟨_, m.length, rfl, .inl ⟨ys, t, q.length.symm⟩, o.val rh .int⟩
    · cases ev
  · cases ev
def vAbs : PFn := fun _ l => match l with
  | [.int i] => some (.int (if i < 0 then -i else i))
  | _ => none
theorem VCall.abs : VCall X (.builtin "abs") vAbs := by
  intro pins s σ H xs us Q I r hh
  obtain ⟨Z, μ, h, l, v, rh, rl, ev, o⟩ := hh
  unfold vAbs at ev
  split at ev
  · rename_i i
    cases ev
    obtain ⟨x, rfl, rx⟩ := rl.one
    exact call_abs pins s σ H _ us Q I r ⟨i, by rw [rx.int_inv], o.val rh .int⟩
  · cases ev
def vMax : PFn := fun _ l => match l with
  | [.int i, .int j] => some (.int (if j > i then j else i))
  | _ => none
def vMin : PFn := fun _ l => match l with
  | [.int i, .int j] => some (.int (if j < i then j else i))
  | _ => none
theorem VCall.max (hc : X.calm = true) : VCall X (.builtin "max") vMax := by
  intro pins s σ H xs us Q I r hh
  obtain ⟨Z, μ, h, l, v, rh, rl, ev, o⟩ := hh
  unfold vMax at ev
  split at ev
  · rename_i i j
    cases ev
    obtain ⟨x, y, rfl, rx, ry⟩ := rl.two
    exact call_max2 hc pins s σ H _ us Q I r ⟨i, j, by rw [rx.int_inv, ry.int_inv], o.val rh .int⟩
  · cases ev
theorem VCall.min (hc : X.calm = true) : VCall X (.builtin "min") vMin := by
  intro pins s σ H xs us Q I r hh
  obtain ⟨Z, μ, h, l, v, rh, rl, ev, o⟩ := hh
  unfold vMin at ev
  split at ev
  · rename_i i j
    cases ev
    obtain ⟨x, y, rfl, rx, ry⟩ := rl.two
    exact call_min2 hc pins s σ H _ us Q I r ⟨i, j, by rw [rx.int_inv, ry.int_inv], o.val rh .int⟩
  · cases ev
def vDivmod : PFn := fun _ l => match l with
  | [.int i, .int j] => if cDiv i j = true then some (.tup [.int (i / j), .int (i % j)]) else none
  | _ => none
theorem VCall.divmod : VCall X (.builtin "divmod") vDivmod := by
  intro pins s σ H xs us Q I r hh
  obtain ⟨Z, μ, h, l, v, rh, rl, ev, o⟩ := hh
  unfold vDivmod at ev
  split at ev
  · rename_i i j
    split at ev
    · rename_i hc
      cases ev
      obtain ⟨x, y, rfl, rx, ry⟩ := rl.two
      refine call_divmod pins s σ H _ us Q I r ⟨i, j, by rw [rx.int_inv, ry.int_inv], (by unfold cDiv at hc; simpa [CDiv] using hc), fun p hp => ?_⟩
      exact o.new rh hp (.tup (.new (rh.fresh hp)) (.cons .int (.cons .int .nil)))
    · cases ev
  · cases ev
def vTuple : PFn := fun h l => match l with
  | [.tup m] => some (.tup m)
  | [v] => match seqL h v with
    | some m => some (.tup m)
    | none => none
  | _ => none
theorem VCall.tuple : VCall X (.type "tuple") vTuple := by
  intro pins s σ H xs us Q I r hh
  obtain ⟨Z, μ, h, l, v, rh, rl, ev, o⟩ := hh
  unfold vTuple at ev
  split at ev
  · rename_i m
    cases ev
    obtain ⟨x, rfl, rx⟩ := rl.one
    obtain ⟨a, ys, rfl, t, q⟩ := rx.tup_inv
    exact call_tuple_of pins s σ H _ us Q I r ⟨a, ys, rfl, .inr ⟨t.sq, o.val rh (.tup t q)⟩⟩
  · obtain ⟨x, rfl, rx⟩ := rl.one
    split at ev
    · rename_i m em
      cases ev
      obtain ⟨a, ys, rfl, t, q⟩ := seqL_sq rh rx em
      exact call_tuple_of pins s σ H _ us Q I r ⟨a, ys, rfl, .inl ⟨t, fun p hp => o.new rh hp (.tup (.new (rh.fresh hp)) (q.mono (.laid μ hp)))⟩⟩
    · cases ev
  · cases ev
def bools? : List AV → Option (List Bool)
  | [] => some []
  | .bl b :: l => (bools? l).map (b :: ·)
  | _ => none
theorem bools_rv {C : Ctx} {μ : Mu} {H : Hp} : ∀ {l : List AV} {xs : List V} {bs : List Bool}, RVs C μ H l xs → bools? l = some bs → xs = bs.map V.bl
  | [], xs, bs, r, e => by cases e; simp only [RVs] at r; rw [r]; rfl
  | v :: l, xs, bs, r, e => by
    obtain ⟨x, t, rfl, r1, r2⟩ := r.inv
    cases v with
    | bl b =>
      unfold bools? at e
      cases eb : bools? l with
      | none => rw [eb] at e; cases e
      | some q => rw [eb] at e; cases e; rw [bools_rv r2 eb, r1.bl_inv]; rfl
    | _ => cases e
def vAll : PFn := fun h l => match l with
  | [v] => match seqL h v with
    | some m => (bools? m).map fun bs => .bl (bs.all _root_.id)
    | none => none
  | _ => none
def vAny : PFn := fun h l => match l with
  | [v] => match seqL h v with
    | some m => (bools? m).map fun bs => .bl (bs.any _root_.id)
    | none => none
  | _ => none
theorem VCall.all (hc : X.calm = true) : VCall X (.builtin "all") vAll := by
  intro pins s σ H xs us Q I r hh
  obtain ⟨Z, μ, h, l, v, rh, rl, ev, o⟩ := hh
  unfold vAll at ev
  split at ev
  · obtain ⟨x, rfl, rx⟩ := rl.one
    split at ev
    · rename_i m em
      obtain ⟨a, ys, rfl, t, q⟩ := seqL_sq rh rx em
      cases eb : bools? m with
      | none => rw [eb] at ev; cases ev
      | some bs =>
        rw [eb] at ev; cases ev
        have := bools_rv q eb
        subst this
        exact cr_all hc pins s σ H _ us Q I r ⟨a, bs, rfl, t, o.val rh .bl⟩
    · cases ev
  · cases ev
theorem VCall.any (hc : X.calm = true) : VCall X (.builtin "any") vAny := by
  intro pins s σ H xs us Q I r hh
  obtain ⟨Z, μ, h, l, v, rh, rl, ev, o⟩ := hh
  unfold vAny at ev
  split at ev
  · obtain ⟨x, rfl, rx⟩ := rl.one
    split at ev
    · rename_i m em
      obtain ⟨a, ys, rfl, t, q⟩ := seqL_sq rh rx em
      cases eb : bools? m with
      | none => rw [eb] at ev; cases ev
      | some bs =>
        rw [eb] at ev; cases ev
        have := bools_rv q eb
        subst this
        exact cr_any hc pins s σ H _ us Q I r ⟨a, bs, rfl, t, o.val rh .bl⟩
    · cases ev
  · cases ev

/-! ### isinstance -/
def isT (a b : Tag) : Bool := decide (a = b) || (decide (a = .bl) && decide (b = .int))
theorem isT_ok (a b : Tag) (hb : b ≠ .non) : kitB a.nm b.nm = some (isT a b) := by
  cases b <;> first | exact absurd rfl hb | (cases a <;> decide +kernel)
def tagOf (h : AHeap) : AV → Option Tag
  | .non => some .non
  | .bl _ => some .bl
  | .int _ => some .int
  | .str _ => some .str
  | .tup _ => some .tup
  | .lst _ => some .lst
  | .dct _ _ => some .dct
  | .ref n => match h[n]? with
    | some (.list _) => some .lst
    | some (.dct _ _) => some .dct
    | _ => none
  | _ => none
theorem Rd.tyL {K : PySem.W.Frag} {H : Hp} {a : Addr} {xs : List V} (h : Rd H a (.lst xs)) : TyX K H (.ref a) (.type "list") := by
  rcases h with h | ⟨o, h⟩
  · exact .base (.lst h)
  · exact .base (.frz h)
theorem tag_ty {C : Ctx} {μ : Mu} {H : Hp} {h : AHeap} {v : AV} {x : V} {t : Tag} (rh : RepH C μ h H) (r : RV C μ H v x) (e : tagOf h v = some t) : TyX C.K H x (.type t.nm) := by
  cases v with
  | non => cases e; rw [r.non_inv]; exact .base .non
  | bl b => cases e; rw [r.bl_inv]; exact .base (.bl b)
  | int b => cases e; rw [r.int_inv]; exact .base (.int b)
  | str b => cases e; rw [r.str_inv]; exact .base (.str _)
  | tup l =>
    cases e
    obtain ⟨a, xs, rfl, t, q⟩ := r.tup_inv
    rcases t with ⟨_, h1 | ⟨o, h1⟩⟩ | ⟨o, its, n, h1, h2, _⟩
    · exact .base (.tup h1)
    · exact .fTuple h1
    · exact .kTuple h1 h2
  | lst l =>
    cases e
    obtain ⟨a, xs, rfl, t, q⟩ := r.lst_inv
    rcases t with t | ⟨o, its, n, h1, h2, _⟩
    · exact Rd.tyL t.2.2
    · exact .kList h1 h2
  | dct ks l =>
    cases e
    obtain ⟨a, xs, rfl, t, q⟩ := r.dct_inv
    exact .base (.dK t.2.2.2)
  | ref n =>
    obtain ⟨a, rfl, ha⟩ := r.ref_inv
    unfold tagOf at e
    dsimp only at e
    split at e
    · rename_i l hl
      cases e
      obtain ⟨xs, e1, _⟩ := rh.obj n _ a hl ha
      exact .base (.lst e1)
    · rename_i ks l hl
      cases e
      obtain ⟨xs, _, _, e1, _⟩ := rh.obj n _ a hl ha
      exact .base (.dK e1)
    · cases e
  | _ => cases e
def vIsi : PFn := fun h l => match l with
  | [v, .ty t] => if t = .non then none else match tagOf h v with
    | some a => some (.bl (isT a t))
    | none => none
  | _ => none
theorem VCall.isi : VCall X (.builtin "isinstance") vIsi := by
  intro pins s σ H xs us Q I r hh
  obtain ⟨Z, μ, h, l, v, rh, rl, ev, o⟩ := hh
  unfold vIsi at ev
  split at ev
  · rename_i w t
    obtain ⟨x, y, rfl, rx, ry⟩ := rl.two
    split at ev
    · cases ev
    · rename_i ht
      split at ev
      · rename_i a ea
        cases ev
        refine call_isi pins s σ H _ us Q I r ⟨x, _, _, _, isT a t, rfl, ?_, tag_ty rh rx ea, kit_ty (isT_ok a t ht), o.val rh .bl⟩
        rw [ry.ty_inv]
        exact .ty _
      · cases ev
  · cases ev

/-! ### subscripts -/
theorem atI_rv {C : Ctx} {μ : Mu} {H : Hp} {l : List AV} {xs : List V} {i : Int} {v : AV} (r : RVs C μ H l xs) (e : atI l i = some v) : ∃ x, atI xs i = some x ∧ RV C μ H v x := by
  unfold atI at e ⊢
  rw [r.length]
  cases q : ixN l.length i with
  | none => rw [q] at e; cases e
  | some j =>
    rw [q] at e
    exact r.get e
def vIx : POp2 := fun h a b => match b with
  | .int i => match a with
    | .tup l => atI l i
    | .str s => if decide (s.length ≤ szM) = true then (atI s i).map fun c => .str [c] else none
    | v => match seqL h v with
      | some l => atI l i
      | none => none
  | _ => none
def VIx (X : Cx) (op : POp2) : Prop := IxR X (rA X op)
theorem VIx.seq : VIx X vIx := by
  intro value slice pins s σ H x y v u Q I rx ry hh hs
  obtain ⟨Z, μ, h, p, q, r, rh, rp, rq, ev, o⟩ := hh
  refine ix_seq value slice pins s σ H x y v u Q I rx ry ?_ hs
  unfold vIx at ev
  split at ev
  · rename_i i
    split at ev
    · rename_i l
      obtain ⟨a, xs, rfl, t, rl⟩ := rp.tup_inv
      obtain ⟨z, e1, rz⟩ := atI_rv rl ev
      exact .inr (.inl ⟨a, xs, i, z, rfl, rq.int_inv, t.sq, e1, o.val rh rz⟩)
    · rename_i t
      split at ev
      · rename_i hc
        cases ec : atI t i with
        | none => rw [ec] at ev; cases ev
        | some c =>
          rw [ec] at ev; cases ev
          have hc := le_line (of_decide_eq_true hc)
          refine .inr (.inr ⟨_, i, c, rp.str_inv, rq.int_inv, by simpa [PySem.Str.length] using hc, by simpa using ec, o.val rh (by simp [RV])⟩)
      · cases ev
    · split at ev
      · rename_i l el
        obtain ⟨a, xs, rfl, t, rl⟩ := seqL_sq rh rp el
        obtain ⟨z, e1, rz⟩ := atI_rv rl ev
        exact .inl ⟨a, xs, i, z, rfl, rq.int_inv, t, e1, o.val rh rz⟩
      · cases ev
  · cases ev
theorem DE.ix {a b : Expr} {f g : AE} (ha : DE X W a f) (hb : DE X W b g) (hs : PlainIx b := by intro _ _; rfl) : DE X W (.Subscript a b pos) (aBin vIx f g) :=
  ⟨PE.wk (pe_ix VIx.seq ha.pe hb.pe hs) fun σ H Q h => tOp_of h⟩
abbrev AO1 := AEnv → AHeap → Res (Option Int)
def tDO (X : Cx) (W : WX) (f : AO1) : TO := fun σ H Q => ∃ Z μ ρ h, RepH (cc X Z) μ h H ∧ RepE (cc X Z) μ H ρ σ ∧ Post (cc X Z) μ H (fun c d H' => W c d σ H') (fun _ H' _ b => Q b H') (f ρ h)
structure DO (X : Cx) (W : WX) (e : Option Expr) (f : AO1) : Prop where
  po : PO X e (tDO X W f)
def aoN : AO1 := fun _ h => .ok none h
def aoS (f : AE) : AO1 := fun ρ h => (f ρ h).bind fun v h1 => match v with
  | .int i => .ok (some i) h1
  | _ => .bad
theorem PO.wk {e : Option Expr} {t t' : TO} (h : PO X e t) (k : ∀ σ H Q, t' σ H Q → t σ H Q) : PO X e t' := ⟨fun pins s σ H Q I hw => h.run pins s σ H Q I (k σ H Q hw)⟩
theorem DO.none : DO X W none aoN := ⟨PO.wk po_none fun σ H Q ⟨Z, μ, ρ, h, rh, re, p⟩ => Post.fin (a := (Option.none : Option Int)) p rh⟩
theorem DO.some {e : Expr} {f : AE} (h : DE X W e f) : DO X W (some e) (aoS f) := by
  refine ⟨PO.wk (po_some h.pe) fun σ H Q h => ?_⟩
  obtain ⟨Z, μ, ρ, h, rh, re, p⟩ := h
  refine tD.seq rh re p fun μ1 H1 h1 v x e1 rh1 re1 rv p1 => ?_
  cases v with
  | int i => exact ⟨i, rv.int_inv, p1.fin rh1⟩
  | _ => exact (show False from p1).elim
theorem tDO.seq {Z : List Addr} {σ : L2.St} {H : Hp} {μ : Mu} {ρ : AEnv} {h : AHeap} {β : Type} {R : Mu → Hp → AHeap → β → Prop} {f : AO1} {k : Option Int → AHeap → Res β} {Y : Option Int → Hp → Prop} (rh : RepH (cc X Z) μ h H) (re : RepE (cc X Z) μ H ρ σ) (p : Post (cc X Z) μ H (fun c d H' => W c d σ H') R ((f ρ h).bind k))
    (hY : ∀ μ1 H1 h1 v, Ext μ H μ1 H1 → RepH (cc X Z) μ1 h1 H1 → RepE (cc X Z) μ1 H1 ρ σ → Post (cc X Z) μ1 H1 (fun c d H' => W c d σ H') R (k v h1) → Y v H1) : tDO X W f σ H Y :=
  ⟨Z, μ, ρ, h, rh, re, p.bind.mono fun μ1 H1 h1 v e r q => hY μ1 H1 h1 v e r (re.mono e) q⟩
def cutL {α : Type} (l : List α) (lo hi : Option Int) : List α := (l.drop (HT.sIx l.length 0 lo)).take (HT.sIx l.length l.length hi - HT.sIx l.length 0 lo)
theorem cutL_rv {C : Ctx} {μ : Mu} {H : Hp} {l : List AV} {xs : List V} (r : RVs C μ H l xs) (lo hi : Option Int) : RVs C μ H (cutL l lo hi) (cutV xs lo hi) := by
  unfold cutL cutV
  rw [r.length]
  exact (r.drop _).take _
def vSl (h : AHeap) (a : AV) (lo hi : Option Int) : Option AV := match a with
  | .str s => if decide (s.length ≤ szM) = true then some (.str (cutL s lo hi)) else none
  | .tup l => some (.tup (cutL l lo hi))
  | v => match seqL h v with
    | some l => some (.lst (cutL l lo hi))
    | none => none
def aSl (f : AE) (lo hi : AO1) : AE := fun ρ h => (f ρ h).bind fun a h1 => (lo ρ h1).bind fun l h2 => (hi ρ h2).bind fun u h3 => lift1 (vSl h3 a l u) h3
theorem cutL_all {α : Type} {l : List α} {lo hi : Option Int} (h0 : HT.sIx l.length 0 lo = 0) (h1 : HT.sIx l.length l.length hi = l.length) : cutL l lo hi = l := by
  unfold cutL; rw [h0, h1]; simp
theorem DE.slice {e : Expr} {lo hi : Option Expr} {p2 : Pos} {f : AE} {fl fh : AO1} (he : DE X W e f) (hl : DO X W lo fl) (hh : DO X W hi fh) : DE X W (.Subscript e (.Slice lo hi none p2) pos) (aSl f fl fh) := by
  refine ⟨PE.wk (pe_slice (sl_str.or ((sl_tupA (X := X)).or sl_list)) he.pe hl.po hh.po) fun σ H Q h => ?_⟩
  obtain ⟨Z, μ, ρ, h, rh, re, p⟩ := h
  refine tD.seq rh re p fun μ1 H1 h1 a x e1 rh1 re1 ra p1 => ?_
  refine tDO.seq rh1 re1 p1 fun μ2 H2 h2 l e2 rh2 re2 p2 => ?_
  refine tDO.seq rh2 re2 p2 fun μ3 H3 h3 u e3 rh3 re3 p3 => ?_
  have rb := (ra.mono e2).mono e3
  clear ra
  obtain ⟨v, ev, o⟩ := Out.of p3
  unfold vSl at ev
  split at ev
  · rename_i t
    split at ev
    · rename_i hc
      cases ev
      have hc := le_line (of_decide_eq_true hc)
      refine .inl ⟨_, rb.str_inv, by simpa [PySem.Str.length] using hc, o.val rh3 ?_⟩
      have e : cutS ⟨t.toArray⟩ l u = ⟨(cutL t l u).toArray⟩ := by
        unfold cutS cutL
        simp [PySem.Str.length]
      rw [e]; exact .str
    · cases ev
  · rename_i m
    cases ev
    obtain ⟨a, xs, rfl, t, q⟩ := rb.tup_inv
    refine .inr (.inl ⟨a, xs, rfl, t.sq, fun ⟨z1, z2⟩ => o.val rh3 ?_, fun _ p hp => o.new rh3 hp (.tup (.new (rh3.fresh hp)) ((cutL_rv q l u).mono (.laid μ3 hp)))⟩)
    rw [q.length] at z1 z2
    rw [cutL_all z1 z2]
    exact .tup t q
  · split at ev
    · rename_i m em
      cases ev
      obtain ⟨a, xs, rfl, t, q⟩ := seqL_sq rh3 rb em
      exact .inr (.inr ⟨a, xs, rfl, t, fun p hp => o.new rh3 hp (.lst (.new (rh3.fresh hp) (rh3.freshZ hp)) ((cutL_rv q l u).mono (.laid μ3 hp)))⟩)
    · cases ev

/-! ### methods of texts -/
abbrev PMs := List Nat → AHeap → List AV → Option AV
def aMethS (op : PMs) (fo : AE) (fa : AA) : AE := fun ρ h => (fo ρ h).bind fun o h1 => match o with
  | .str s => (fa ρ h1).bind fun l h2 => lift1 (op s h2 l) h2
  | _ => .bad
def rAMs (X : Cx) (op : PMs) : V → List V → Hp → VK → Prop := fun x xs H Q => ∃ Z μ h s l v, x = .str ⟨s.toArray⟩ ∧ RepH (cc X Z) μ h H ∧ RVs (cc X Z) μ H l xs ∧ op s h l = some v ∧ Out (cc X Z) μ H h v Q
def VMs (X : Cx) (id : String) (op : PMs) : Prop := MtR X id (rAMs X op)
theorem DE.methS {o : Expr} {name : Str} {apos : Pos} {op : PMs} {fo : AE} (slot : Slot "str" name id) (hty : typeOf (.builtin id) = pure (.type "method_descriptor")) (hm : VMs X id op) (ho : DE X W o fo) (ha : DA X W (e :: es) fa)
    (hbase : attributeBase o name X.env (eval o X.env) = eval o X.env := by rfl)
    (hfew : ((backTo pos (starEach (e :: es) X.env)).all (fun x => !x.1) && (backToKw pos (keywordEach [] X.env)).all (fun x => x.1.isSome)
      && decide ((e :: es).length + ([] : List Keyword).length + (if ([] : List Keyword).isEmpty then 0 else 1) < 30)) = true := by rfl)
    (hline : (apos.endLine == pos.line) = true := by rfl) (hs : starEach (e :: es) X.env = (false, eval e X.env) :: starEach es X.env := by rfl) (hplain : (backTo pos (starEach es X.env)).any (·.1) = false := by rfl) :
    DE X W (.Call (.Attribute o name apos) (e :: es) [] pos) (aMethS op fo fa) := by
  refine ⟨PE.wk (pe_bm PySem.F.plainAttrs_str slot hty hm ho.pe ha.pa hbase hfew hline hs hplain) fun σ H Q h => ?_⟩
  obtain ⟨Z, μ, ρ, h, rh, re, p⟩ := h
  refine tD.seq rh re p fun μ1 H1 h1 v x e1 rh1 re1 rv p1 => ?_
  cases v with
  | str s =>
    have := rv.str_inv
    subst this
    refine ⟨rfl, tDA.seq rh1 re1 p1 fun μ2 H2 h2 l xs e2 rh2 re2 rl p2 => ?_⟩
    obtain ⟨w, ew, ow⟩ := Out.of p2
    exact ⟨Z, μ2, h2, s, l, w, rfl, rh2, rl, ew, ow⟩
  | _ => exact (show False from p1).elim
abbrev sOf (s : List Nat) : Str := ⟨s.toArray⟩
def strs? : List AV → Option (List Str)
  | [] => some []
  | .str s :: l => (strs? l).map (sOf s :: ·)
  | _ => none
theorem strs_rv {C : Ctx} {μ : Mu} {H : Hp} : ∀ {l : List AV} {xs : List V} {bs : List Str}, RVs C μ H l xs → strs? l = some bs → xs = bs.map V.str
  | [], xs, bs, r, e => by cases e; simp only [RVs] at r; rw [r]; rfl
  | v :: l, xs, bs, r, e => by
    obtain ⟨x, t, rfl, r1, r2⟩ := r.inv
    cases v with
    | str b =>
      unfold strs? at e
      cases eb : strs? l with
      | none => rw [eb] at e; cases e
      | some q => rw [eb] at e; cases e; rw [strs_rv r2 eb, r1.str_inv]; rfl
    | _ => cases e
theorem RV.strOf {C : Ctx} {μ : Mu} {H : Hp} (x : Str) : RV C μ H (.str x.cps.toList) (.str x) := by simp [RV]
def vEnds : PMs := fun s _ l => match l with
  | [.str t] => some (.bl (Txt.endswith (sOf s) (sOf t)))
  | _ => none
theorem VMs.endswith : VMs X "str.endswith" vEnds := by
  intro pins s σ H x xs v us Q I rx rs hh
  obtain ⟨Z, μ, h, t, l, r, rfl, rh, rl, ev, o⟩ := hh
  unfold vEnds at ev
  split at ev
  · rename_i u
    cases ev
    obtain ⟨y, rfl, ry⟩ := rl.one
    exact mt_endswith pins s σ H _ _ v us Q I rx rs ⟨_, _, rfl, by rw [ry.str_inv], o.val rh .bl⟩
  · cases ev
def vJoin : PMs := fun s h l => match l with
  | [v] => match (match seqT v with | some l => some l | none => seqL h v) with
    | some m => match strs? m with
      | some ys => if decide ((ys.map (·.length)).sum + ys.length * s.length ≤ 16777216) = true then some (.str (Txt.join (sOf s) ys).cps.toList) else none
      | none => none
    | none => none
  | _ => none
theorem VMs.join : VMs X "str.join" vJoin := by
  intro pins s σ H x xs v us Q I rx rs hh
  obtain ⟨Z, μ, h, t, l, r, rfl, rh, rl, ev, o⟩ := hh
  unfold vJoin at ev
  split at ev
  · rename_i w
    obtain ⟨y, rfl, ry⟩ := rl.one
    split at ev
    · rename_i m em
      split at ev
      · rename_i ys ey
        split at ev
        · rename_i hc
          cases ev
          have hc : _ ≤ 16777216 := of_decide_eq_true hc
          have hsz : (ys.map (·.length)).sum + ys.length * (sOf t).length ≤ 16777216 := by simpa [PySem.Str.length] using hc
          cases et : seqT w with
          | some k =>
            rw [et] at em; cases em
            obtain ⟨a, zs, rfl, tq, _, q⟩ := seqT_sq ry et
            have := strs_rv q ey
            subst this
            exact mt_join pins s σ H _ _ v us Q I rx rs ⟨_, a, ys, rfl, rfl, .inr tq, hsz, o.val rh (.strOf _)⟩
          | none =>
            rw [et] at em
            obtain ⟨a, zs, rfl, tq, q⟩ := seqL_sq rh ry em
            have := strs_rv q ey
            subst this
            exact mt_join pins s σ H _ _ v us Q I rx rs ⟨_, a, ys, rfl, rfl, .inl tq, hsz, o.val rh (.strOf _)⟩
        · cases ev
      · cases ev
    · cases ev
  · cases ev

/-! ### iteration -/
def noExc {α : Type} : Res α → Res α
  | .ok a h => .ok a h
  | _ => .bad
theorem noExc_post {α : Type} {C : Ctx} {μ : Mu} {H : Hp} {E E' : XK} {R : Mu → Hp → AHeap → α → Prop} {r : Res α} (p : Post C μ H E R (noExc r)) : Post C μ H E' R r := by
  cases r with
  | ok a h => exact p
  | exc _ _ => exact (show False from p).elim
  | bad => exact (show False from p).elim
def itemsOf (v : AV) : Option (List AV) := match v with
  | .lst l => some l
  | .tup l => some l
  | .str s => some (s.map fun c => .str [c])
  | _ => none
def aIter (f : AE) : AA := fun ρ h => (f ρ h).bind fun v h1 => match itemsOf v with
  | some l => .ok l h1
  | none => .bad
def iAny (K : PySem.W.Frag) (te : TE) : TI := fun σ H R => te σ H fun x H1 => (∃ a, x = .ref a ∧ (∃ xs, SqL K H1 a xs) ∧ R (Itl K a) H1) ∨ (∃ a, x = .ref a ∧ (∃ xs, SqT K H1 a xs) ∧ R (Itt K a) H1) ∨ ∃ z, x = .str z ∧ R (Its z) H1
theorem pi_any {tg : Expr} {te : TE} (he : PE X e te) : PI X tg e (iAny X.K te) := by
  refine ⟨fun pins s σ H R I h => ?_⟩
  refine thn (he.run pins s σ H _ I h) fun v s1 ⟨x, H1, I1, r1, q1⟩ => ?_
  rcases q1 with ⟨a, rfl, ⟨xs, hq⟩, q⟩ | ⟨a, rfl, ⟨xs, hq⟩, q⟩ | ⟨z, rfl, q⟩
  · cases r1
    obtain ⟨its, rv, pl, hz⟩ := I1.list hq
    exact wpAny_pyIter_list pl.isList (pi_one (tk := s1.toks) I1 _ (turn_list a _) ⟨_, Heap.get?_push_size _ rfl, rfl, rfl⟩ q)
  · cases r1
    obtain ⟨its, rv, pl, hz⟩ := I1.tuple hq
    exact wpAny_pyIter_tuple (show s1.heap.IsTuple a its.toArray from pl) (pi_one (tk := s1.toks) I1 _ (turn_tuple a _) ⟨_, Heap.get?_push_size _ rfl, rfl, rfl⟩ q)
  · obtain ⟨t, rfl⟩ := r1
    cases ha : z.cps.all (· < 128)
    · exact wpAny_pyIter_wide ha (pi_one (tk := s1.toks) I1 _ (turn_str _ z t "str_iterator" (.inr rfl)) ⟨_, Heap.get?_push_size _ rfl, rfl, rfl⟩ q)
    · exact wpAny_pyIter_ascii ha (pi_one (tk := s1.toks) I1 _ (turn_str _ z t "str_ascii_iterator" (.inl rfl)) ⟨_, Heap.get?_push_size _ rfl, rfl, rfl⟩ q)
theorem turn_new {C : Ctx} {μ : Mu} {H : Hp} {Z' : List Addr} (hz : ∀ a ∈ Z', a ∈ C.Z ∨ H a = none) : ∀ a, (∃ o, a ∉ μ ∧ H a = some o) → a ∉ C.Z → a ∉ Z' := fun a ⟨o, _, e⟩ hn hm => by
  rcases hz a hm with h | h
  · exact hn h
  · rw [h] at e; cases e
theorem items_list {C : Ctx} {μ : Mu} {H : Hp} {l : List AV} {xs : List V} {a : Addr} (t : LstAt C μ H a xs) (r : RVs C μ H l xs) : ItemsOf C μ H (Itl C.K a) l := by
  refine ⟨fun i μ' H' e hi => ?_, fun μ' H' e => ?_, fun i μ' h' H' x H'' v Z' hz e rh hv hy => ?_⟩
  · exact ⟨xs, xs[i]'(by rw [r.length]; exact hi), (t.mono e).sq, List.getElem?_eq_getElem _⟩
  · exact ⟨xs, (t.mono e).sq, by rw [r.length]; exact Nat.le_refl _⟩
  · obtain ⟨rfl, hy⟩ := hy
    obtain ⟨z, e1, rz⟩ := ((r.turnZ (C := C) (C' := ⟨C.prog, C.w, C.K, C.mg, Z', C.hx⟩) rfl rfl rfl (turn_new hz)).mono e).get hv
    have := hy xs (t.mono e).sq
    rw [e1] at this; cases this
    exact ⟨.refl _ _, rh, rz⟩
theorem items_tup {C : Ctx} {μ : Mu} {H : Hp} {l : List AV} {xs : List V} {a : Addr} (t : TupAt C μ H a xs) (r : RVs C μ H l xs) : ItemsOf C μ H (Itt C.K a) l := by
  refine ⟨fun i μ' H' e hi => ?_, fun μ' H' e => ?_, fun i μ' h' H' x H'' v Z' hz e rh hv hy => ?_⟩
  · exact ⟨xs, xs[i]'(by rw [r.length]; exact hi), (t.mono e).sq, List.getElem?_eq_getElem _⟩
  · exact ⟨xs, (t.mono e).sq, by rw [r.length]; exact Nat.le_refl _⟩
  · obtain ⟨rfl, hy⟩ := hy
    obtain ⟨z, e1, rz⟩ := ((r.turnZ (C := C) (C' := ⟨C.prog, C.w, C.K, C.mg, Z', C.hx⟩) rfl rfl rfl (turn_new hz)).mono e).get hv
    have := hy xs (t.mono e).sq
    rw [e1] at this; cases this
    exact ⟨.refl _ _, rh, rz⟩
theorem items_str {C : Ctx} {μ : Mu} {H : Hp} {s : List Nat} : ItemsOf C μ H (Its (sOf s)) (s.map fun c => .str [c]) := by
  refine ⟨fun i μ' H' e hi => ?_, fun μ' H' e => ?_, fun i μ' h' H' x H'' v Z' hz e rh hv hy => ?_⟩
  · show i < s.toArray.size
    simpa using hi
  · show s.toArray.size ≤ _
    simp
  · obtain ⟨rfl, c, hc, rfl⟩ := hy
    have hc : s.toArray[i]? = some c := hc
    have hc' : s[i]? = some c := by simpa using hc
    rw [List.getElem?_map, hc'] at hv
    cases hv
    exact ⟨.refl _ _, rh, by simp [RV]⟩
theorem DI.seq {tg : Expr} (he : DE X W e fe) : DI X W tg e (aIter fe) := by
  refine ⟨PI.wk (pi_any he.pe) fun σ H R h => ?_⟩
  obtain ⟨Z, μ, ρ, h, rh, re, p⟩ := h
  refine tD.seq rh re p fun μ1 H1 h1 v x e1 rh1 re1 rv p1 => ?_
  cases v with
  | lst l =>
    obtain ⟨a, xs, rfl, t, q⟩ := rv.lst_inv
    exact .inl ⟨a, rfl, ⟨xs, t.sq⟩, Post.fin (a := l) p1 rh1 _ (items_list t q)⟩
  | tup l =>
    obtain ⟨a, xs, rfl, t, q⟩ := rv.tup_inv
    exact .inr (.inl ⟨a, rfl, ⟨xs, t.sq⟩, Post.fin (a := l) p1 rh1 _ (items_tup t q)⟩)
  | str s =>
    have := rv.str_inv
    subst this
    exact .inr (.inr ⟨_, rfl, Post.fin (a := s.map fun c => AV.str [c]) p1 rh1 _ items_str⟩)
  | _ => exact (show False from p1).elim
end
end AI
namespace AI
open PySem PySem.Spec PyProof.Rows
open L2

/-! ### range, enumerate -/
def iInts (lo : Int) (n : Nat) : List AV := (List.range n).map fun (k : Nat) => .int (lo + (k : Int))
theorem items_rng {C : Ctx} {μ : Mu} {H : Hp} (lo : Int) (n : Nat) : ItemsOf C μ H (Itr lo n) (iInts lo n) := by
  have hl : (iInts lo n).length = n := by simp [iInts]
  refine ⟨fun i μ' H' e hi => by rw [hl] at hi; exact hi, fun μ' H' e => by rw [hl]; exact Nat.le_refl _, fun i μ' h' H' x H'' v Z' hz e rh hv hy => ?_⟩
  obtain ⟨rfl, rfl⟩ := hy
  unfold iInts at hv
  rw [List.getElem?_map] at hv
  cases hr : (List.range n)[i]? with
  | none => rw [hr] at hv; cases hv
  | some k =>
    rw [hr] at hv; cases hv
    obtain ⟨hk, e2⟩ := List.getElem?_eq_some_iff.mp hr
    have : k = i := by simpa using e2.symm
    subst this
    exact ⟨.refl _ _, rh, .int⟩
def inR (i : Int) : Bool := decide (-(2 ^ 62) ≤ i ∧ i < 2 ^ 62)
def aRng1 (fa : AA) : AA := fun ρ h => (fa ρ h).bind fun l h1 => match l with
  | [.int j] => if inR j = true then .ok (iInts 0 j.toNat) h1 else .bad
  | _ => .bad
def aRng2 (fa : AA) : AA := fun ρ h => (fa ρ h).bind fun l h1 => match l with
  | [.int i, .int j] => if (inR i && inR j) = true then .ok (iInts i (j - i).toNat) h1 else .bad
  | _ => .bad
section
variable {X : Cx} {W : WX} {pos p : Pos} {tg a b : Expr} {fa : AA}
theorem DI.rng1 (hg : Gl X "range") (hm : X.mg "range" = none) (ha : DA X W [a] fa) (hs : starEach [a] X.env = [(false, eval a X.env)] := by rfl) : DI X W tg (.Call (.Name "range" p) [a] [] pos) (aRng1 fa) := by
  refine ⟨PI.wk (pi_range1 hg hm ha.pa hs) fun σ H R h => ?_⟩
  obtain ⟨Z, μ, ρ, h, rh, re, pp⟩ := h
  refine tDA.seq rh re pp fun μ1 H1 h1 l xs e1 rh1 re1 rl p1 => ?_
  split at p1
  · rename_i j
    split at p1
    · rename_i hc
      obtain ⟨x, rfl, rx⟩ := rl.one
      have hc := of_decide_eq_true hc
      exact ⟨j, by rw [rx.int_inv], hc.1, hc.2, Post.fin (a := iInts 0 j.toNat) p1 rh1 _ (items_rng 0 j.toNat)⟩
    · exact p1.elim
  · exact p1.elim
theorem DI.rng2 (hg : Gl X "range") (hm : X.mg "range" = none) (ha : DA X W [a, b] fa) (hs : starEach [a, b] X.env = [(false, eval a X.env), (false, eval b X.env)] := by rfl) (hs2 : starEach [b] X.env = [(false, eval b X.env)] := by rfl) : DI X W tg (.Call (.Name "range" p) [a, b] [] pos) (aRng2 fa) := by
  refine ⟨PI.wk (pi_range2 hg hm ha.pa hs hs2) fun σ H R h => ?_⟩
  obtain ⟨Z, μ, ρ, h, rh, re, pp⟩ := h
  refine tDA.seq rh re pp fun μ1 H1 h1 l xs e1 rh1 re1 rl p1 => ?_
  split at p1
  · rename_i i j
    split at p1
    · rename_i hc
      obtain ⟨x, y, rfl, rx, ry⟩ := rl.two
      have hc := Bool.and_eq_true_iff.mp hc
      have h1 := of_decide_eq_true hc.1
      have h2 := of_decide_eq_true hc.2
      exact ⟨i, j, by rw [rx.int_inv, ry.int_inv], ⟨h1.1, h1.2, h2.1, h2.2⟩, Post.fin (a := iInts i (j - i).toNat) p1 rh1 _ (items_rng i (j - i).toNat)⟩
    · exact p1.elim
  · exact p1.elim
end

/-! ### a list that is being filled grows -/
section
variable {C : Ctx} {μ : Mu} {H : Hp} {D : Addr} {u1 : HO}
/-- a list, a dict stands there -/
def FilAt (H : Hp) (D : Addr) : Prop := (∃ acc, H D = some (.lst acc)) ∨ ∃ kvs, H D = some (.dK kvs)
theorem fill_ne {a : Addr} {xs : List V} (hD : FilAt H D) (hu : Rd H a (.tup xs)) : a ≠ D := fun e => by
  subst e
  rcases hD with ⟨acc, hD⟩ | ⟨acc, hD⟩ <;> rcases hu with h | ⟨o, h⟩ <;> rw [hD] at h <;> cases h
theorem fil_ne {a : Addr} {u : HO} (hD : FilAt H D) (hu : H a = some u) (h1 : ∀ l, u ≠ .lst l) (h2 : ∀ l, u ≠ .dK l) : a ≠ D := fun e => by
  subst e
  rcases hD with ⟨acc, hD⟩ | ⟨acc, hD⟩ <;> rw [hu] at hD <;> cases hD
  · exact h1 _ rfl
  · exact h2 _ rfl
theorem Rd.upd {a : Addr} {u o : HO} (h : Rd H a u) (hn : a ≠ D) : Rd (upd H D o) a u := by
  rcases h with h | ⟨q, h⟩
  · exact .inl (by rw [upd_ne hn]; exact h)
  · exact .inr ⟨q, by rw [upd_ne hn]; exact h⟩
mutual
theorem RV.fill (hz : D ∈ C.Z) (hD : FilAt H D) : ∀ {v : AV} {x : V}, RV C μ H v x → RV C μ (upd H D u1) v x
  | .non, _, h => by simpa [RV] using h
  | .bl _, _, h => by simpa [RV] using h
  | .int _, _, h => by simpa [RV] using h
  | .str _, _, h => by simpa [RV] using h
  | .tup _, _, h => by
    obtain ⟨a, xs, rfl, t, q⟩ := h.tup_inv
    refine .tup ?_ (RVs.fill hz hD q)
    rcases t with ⟨t1, t2⟩ | t
    · exact .inl ⟨t1, Rd.upd t2 (fill_ne hD t2)⟩
    · exact .inr t
  | .lst _, _, h => by
    obtain ⟨a, xs, rfl, t, q⟩ := h.lst_inv
    exact .lst (t.imp (fun t => ⟨t.1, t.2.1, Rd.upd t.2.2 fun e => t.2.1 (by rw [e]; exact hz)⟩) _root_.id) (RVs.fill hz hD q)
  | .dct _ _, _, h => by
    obtain ⟨a, xs, rfl, t, q⟩ := h.dct_inv
    exact .dct ⟨t.1, t.2.1, t.2.2.1, by rw [upd_ne fun e => t.2.1 (by rw [e]; exact hz)]; exact t.2.2.2⟩ (RVs.fill hz hD q)
  | .ref n, _, h => by simpa [RV] using h
  | .ty _, _, h => by simpa [RV] using h
  | .gl _, _, h => by simpa [RV] using h
  | .exn _ _ _, _, h => by
    simp only [RV] at h ⊢
    obtain ⟨p, Ca, d, xs, h1, h2, h3, h4, h5, h6, h7⟩ := h
    exact ⟨p, Ca, d, xs, h1, h2, h3, h4, h5, RVs.fill hz hD h6, h7.imp _root_.id fun ⟨dx, q1, q2, q3⟩ => ⟨dx, q1, by rw [upd_ne (fil_ne hD q2 nofun nofun)]; exact q2, q3⟩⟩
  | .ins _ _ _, _, h => by
    simp only [RV] at h ⊢
    obtain ⟨a, Ca, dx, xs, h1, h2, h3, h4, h5⟩ := h
    exact ⟨a, Ca, dx, xs, h1, h2, h3, by rw [upd_ne (fil_ne hD h4 nofun nofun)]; exact h4, RVs.fill hz hD h5⟩
theorem RVs.fill (hz : D ∈ C.Z) (hD : FilAt H D) : ∀ {l : List AV} {xs : List V}, RVs C μ H l xs → RVs C μ (upd H D u1) l xs
  | [], _, h => by simpa [RVs] using h
  | v :: l, _, h => by
    obtain ⟨x, r, rfl, h2, h3⟩ := h.inv
    exact .cons (RV.fill hz hD h2) (RVs.fill hz hD h3)
end
theorem RepH.fill {h : AHeap} (r : RepH C μ h H) (hz : D ∈ C.Z) (hD : FilAt H D) : RepH C μ h (upd H D u1) := by
  refine ⟨r.len, r.nd, fun n o a h1 h2 => ?_, fun a ha => ?_⟩
  · have ne : a ≠ D := fun e => (r.zs D hz).1 (by rw [← e]; exact List.mem_of_getElem? h2)
    have q := r.obj n o a h1 h2
    cases o with
    | list l => obtain ⟨xs, e1, e2⟩ := q; exact ⟨xs, by rw [upd_ne ne]; exact e1, e2.fill hz hD⟩
    | set ks => exact (upd_ne ne).trans q
    | dct ks l => obtain ⟨xs, e0, en, e1, e2⟩ := q; exact ⟨xs, e0, en, by rw [upd_ne ne]; exact e1, e2.fill hz hD⟩
  · obtain ⟨n, o, e⟩ := r.zs a ha
    by_cases he : a = D
    · subst he; exact ⟨n, _, upd_same⟩
    · exact ⟨n, o, by rw [upd_ne he]; exact e⟩
theorem RepE.fill {ρ : AEnv} {σ : L2.St} (r : RepE C μ H ρ σ) (hz : D ∈ C.Z) (hD : FilAt H D) : RepE C μ (upd H D u1) ρ σ :=
  ⟨r.1, fun i v e => let ⟨x, e1, e2⟩ := r.2 i v e; ⟨x, e1, e2.fill hz hD⟩⟩
mutual
/-- the filled list becomes part of the abstract heap -/
theorem RV.adoptZ {C' : Ctx} (hK : C'.K = C.K) (hm : C'.mg = C.mg) (hh : C'.hx = C.hx) (hz : D ∈ C.Z) (hs : ∀ a, a ∉ C.Z → a ∉ C'.Z) (hD : FilAt H D) : ∀ {v : AV} {x : V}, RV C μ H v x → RV C' (μ ++ [D]) H v x
  | .non, _, h => by simpa [RV] using h
  | .bl _, _, h => by simpa [RV] using h
  | .int _, _, h => by simpa [RV] using h
  | .str _, _, h => by simpa [RV] using h
  | .tup _, _, h => by
    obtain ⟨a, xs, rfl, t, q⟩ := h.tup_inv
    refine .tup ?_ (RVs.adoptZ hK hm hh hz hs hD q)
    unfold TupAt at t ⊢
    rw [hK]
    rcases t with ⟨t1, t2⟩ | t
    · exact .inl ⟨by simp [t1, fill_ne hD t2], t2⟩
    · exact .inr t
  | .lst _, _, h => by
    obtain ⟨a, xs, rfl, t, q⟩ := h.lst_inv
    refine .lst ?_ (RVs.adoptZ hK hm hh hz hs hD q)
    unfold LstAt at t ⊢
    rw [hK]
    exact t.imp (fun t => ⟨by simp [t.1, show a ≠ D from fun e => t.2.1 (by rw [e]; exact hz)], hs a t.2.1, t.2.2⟩) _root_.id
  | .dct _ _, _, h => by
    obtain ⟨a, xs, rfl, t, q⟩ := h.dct_inv
    have : a ≠ D := fun e => t.2.1 (by rw [e]; exact hz)
    exact .dct ⟨by simp [t.1, this], hs a t.2.1, t.2.2⟩ (RVs.adoptZ hK hm hh hz hs hD q)
  | .ref n, _, h => by
    obtain ⟨a, rfl, e⟩ := h.ref_inv
    exact .ref (by rw [List.getElem?_append_left (List.getElem?_eq_some_iff.mp e).1]; exact e)
  | .ty _, _, h => by simpa [RV] using h
  | .gl _, _, h => by simpa [RV, hm] using h
  | .exn _ _ _, _, h => by
    simp only [RV] at h ⊢
    obtain ⟨p, Ca, d, xs, h1, h2, h3, h4, h5, h6, h7⟩ := h
    exact ⟨p, Ca, d, xs, hh.trans h1, h2, by rw [hm]; exact h3, h4, h5, RVs.adoptZ hK hm hh hz hs hD h6, h7.imp _root_.id fun ⟨dx, q1, q2, q3⟩ => ⟨dx, q1, q2, by simp [q3, fil_ne hD q2 nofun nofun]⟩⟩
  | .ins _ _ _, _, h => by
    simp only [RV] at h ⊢
    obtain ⟨a, Ca, dx, xs, h1, h2, h3, h4, h5⟩ := h
    exact ⟨a, Ca, dx, xs, h1, by rw [hm]; exact h2, by simp [h3, fil_ne hD h4 nofun nofun], h4, RVs.adoptZ hK hm hh hz hs hD h5⟩
theorem RVs.adoptZ {C' : Ctx} (hK : C'.K = C.K) (hm : C'.mg = C.mg) (hh : C'.hx = C.hx) (hz : D ∈ C.Z) (hs : ∀ a, a ∉ C.Z → a ∉ C'.Z) (hD : FilAt H D) : ∀ {l : List AV} {xs : List V}, RVs C μ H l xs → RVs C' (μ ++ [D]) H l xs
  | [], _, h => by simpa [RVs] using h
  | v :: l, _, h => by
    obtain ⟨x, r, rfl, h2, h3⟩ := h.inv
    exact .cons (RV.adoptZ hK hm hh hz hs hD h2) (RVs.adoptZ hK hm hh hz hs hD h3)
end
end

/-! ### targets within a comprehension -/
def GoodW (C : Ctx) (μ : Mu) (H : Hp) (is : List Nat) (σ : L2.St) (o : Option (AEnv × AHeap)) (Q : L2.St → Hp → Prop) : Prop :=
  ∃ ρ' h', o = some (ρ', h') ∧ ∀ μ' H' σ', Ext μ H μ' H' → RepH C μ' h' H' → RepE C μ' H' ρ' σ' → σ'.length = σ.length → (∀ j, j ∉ is → σ'[j]? = σ[j]?) → Q σ' H'
def tDGw (X : Cx) (is : List Nat) (g : AG) : TG := fun x σ H Q => ∃ Z μ ρ h v, RepH (cc X Z) μ h H ∧ RepE (cc X Z) μ H ρ σ ∧ RV (cc X Z) μ H v x ∧ GoodW (cc X Z) μ H is σ (g v ρ h) Q
def tDGsw (X : Cx) (is : List Nat) (g : AGs) : TGs := fun xs σ H Q => ∃ Z μ ρ h l, RepH (cc X Z) μ h H ∧ RepE (cc X Z) μ H ρ σ ∧ RVs (cc X Z) μ H l xs ∧ GoodW (cc X Z) μ H is σ (g l ρ h) Q
structure DGw (X : Cx) (is : List Nat) (tg : Expr) (g : AG) : Prop where
  pg : PG X tg (tDGw X is g)
structure DGsw (X : Cx) (is : List Nat) (ts : List Expr) (g : AGs) : Prop where
  pgs : PGs X ts (tDGsw X is g)
section
variable {X : Cx} {pos : Pos} {is : List Nat}
theorem DGw.name (i : Nat) {x : Str} (hN : X.N.Nodup) (hi : X.N[i]? = some x := by rfl) (hm : i ∈ is := by decide) (hx : Loc X.env.scope x := by first | exact Or.inl rfl | exact Or.inr rfl) (hf : X.fn x = true ∨ X.env.scope.names.lookup x = some .local := by first | exact .inl rfl | exact .inr rfl | assumption) : DGw X is (.Name x pos) (agName i) := by
  refine ⟨PG.wk (pg_name (i := i) hN hi hx hf) fun x σ H Q h => ?_⟩
  obtain ⟨Z, μ, ρ, h, v, rh, re, rv, ρ', h', e, k⟩ := h
  cases e
  exact k μ H _ (.refl _ _) rh (re.set rv i) (by simp) fun j hj => List.getElem?_set_ne fun e => hj (by rw [← e]; exact hm)
theorem DGsw.nil : DGsw X is [] agNil := by
  refine ⟨PGs.wk pgs_nil fun xs σ H Q h => ?_⟩
  obtain ⟨Z, μ, ρ, h, l, rh, re, rl, ρ', h', e, k⟩ := h
  cases l with
  | nil => cases e; simp only [RVs] at rl; exact ⟨rl, k μ H _ (.refl _ _) rh re rfl fun _ _ => rfl⟩
  | cons _ _ => cases e
theorem DGsw.cons {t : Expr} {ts : List Expr} {g : AG} {gs : AGs} (h1 : DGw X is t g) (h2 : DGsw X is ts gs) (hs : (assignEach (t :: ts) X.env).map (·.2) = assign t X.env :: (assignEach ts X.env).map (·.2) := by rfl) : DGsw X is (t :: ts) (agCons g gs) := by
  refine ⟨PGs.wk (pgs_cons h1.pg h2.pgs hs) fun xs σ H Q h => ?_⟩
  obtain ⟨Z, μ, ρ, h, l, rh, re, rl, ρ', h', e, k⟩ := h
  cases l with
  | nil => cases e
  | cons v l =>
    obtain ⟨x, r, rfl, rv, rr⟩ := rl.inv
    unfold agCons at e
    dsimp only at e
    cases eg : g v ρ h with
    | none => rw [eg] at e; cases e
    | some q =>
      obtain ⟨ρ1, h1⟩ := q
      rw [eg] at e
      refine ⟨x, r, rfl, Z, μ, ρ, h, v, rh, re, rv, ρ1, h1, eg, fun μ1 H1 σ1 e1 rh1 re1 l1 n1 => ?_⟩
      exact ⟨Z, μ1, ρ1, h1, l, rh1, re1, rr.mono e1, ρ', h', e, fun μ2 H2 σ2 e2 a b l2 n2 => k μ2 H2 σ2 (e1.trans e2) a b (l2.trans l1) fun j hj => (n2 j hj).trans (n1 j hj)⟩
theorem DGw.tup {ts : List Expr} {k n : Nat} {gs : AGs} (hc : X.calm = true) (h : DGsw X is ts gs) (hn : (assignEach ts X.env).length = n := by rfl) (hst : (assignEach ts X.env).findIdx? (·.1) = none := by rfl) : DGw X is (.Tuple ts k pos) (agTup n gs) := by
  refine ⟨PG.wk (pg_tup hc h.pgs hn hst) fun x σ H Q h => ?_⟩
  obtain ⟨Z, μ, ρ, h, v, rh, re, rv, ρ', h', e, k⟩ := h
  unfold agTup at e
  split at e
  · rename_i l
    split at e
    · rename_i hl
      obtain ⟨a, xs, rfl, ta, rl⟩ := rv.tup_inv
      exact ⟨a, xs, rfl, ta.sq, by rw [rl.length]; exact hl, Z, μ, ρ, h, l, rh, re, rl, ρ', h', e, k⟩
    · cases e
  · cases e
end
theorem wipe_get {σ : L2.St} : ∀ {vs : List Nat} {i : Nat}, (wipe σ vs)[i]? = if i ∈ vs then (σ[i]?).map fun _ => none else σ[i]?
  | [], i => by simp [wipe]
  | v :: vs, i => by
    show ((wipe σ vs).set v none)[i]? = _
    rw [List.getElem?_set]
    by_cases h : v = i
    · subst h
      rw [if_pos rfl, if_pos (List.mem_cons_self ..), wipe_length]
      by_cases hl : v < σ.length
      · rw [if_pos hl, List.getElem?_eq_getElem hl]; rfl
      · rw [if_neg hl, List.getElem?_eq_none (by omega)]; rfl
    · rw [if_neg h, wipe_get]
      have : (i ∈ v :: vs) ↔ i ∈ vs := by simp [Ne.symm h]
      by_cases hm : i ∈ vs
      · rw [if_pos hm, if_pos (this.mpr hm)]
      · rw [if_neg hm, if_neg fun z => hm (this.mp z)]
theorem wipe_eq {σ σ' : L2.St} {vs : List Nat} (hl : σ'.length = σ.length) (h : ∀ j, j ∉ vs → σ'[j]? = σ[j]?) : wipe σ' vs = wipe σ vs := by
  refine List.ext_getElem? fun i => ?_
  rw [wipe_get, wipe_get]
  by_cases hm : i ∈ vs
  · rw [if_pos hm, if_pos hm]
    by_cases hi : i < σ.length
    · rw [List.getElem?_eq_getElem hi, List.getElem?_eq_getElem (by rw [hl]; exact hi)]; rfl
    · rw [List.getElem?_eq_none (by omega), List.getElem?_eq_none (by omega)]
  · rw [if_neg hm, if_neg hm, h i hm]
theorem wipe_wipe {σ : L2.St} {vs : List Nat} : wipe (wipe σ vs) vs = wipe σ vs := by
  refine List.ext_getElem? fun i => ?_
  rw [wipe_get, wipe_get]
  by_cases hm : i ∈ vs
  · rw [if_pos hm, if_pos hm]; cases σ[i]? <;> rfl
  · rw [if_neg hm, if_neg hm]
def wipeA (ρ : AEnv) : List Nat → AEnv
  | [] => ρ
  | v :: vs => (wipeA ρ vs).set v none
theorem RepE.wipe {C : Ctx} {μ : Mu} {H : Hp} {ρ : AEnv} {σ : L2.St} (r : RepE C μ H ρ σ) : ∀ vs : List Nat, RepE C μ H (wipeA ρ vs) (L2.wipe σ vs)
  | [] => r
  | v :: vs => by
    have q := RepE.wipe r vs
    refine ⟨by simp [wipeA, L2.wipe, q.1], fun i w e => ?_⟩
    have e : ((wipeA ρ vs).set v none)[i]? = some (some w) := e
    show ∃ x, ((L2.wipe σ vs).set v none)[i]? = some (some x) ∧ _
    by_cases h : v = i
    · subst h
      rw [List.getElem?_set] at e
      rw [if_pos rfl] at e
      split at e <;> cases e
    · rw [List.getElem?_set_ne h] at e ⊢
      exact q.2 i w e

/-! ### [elt for target in iter if test] -/
def aYes : AT := fun _ h => .ok true h
structure DTs (X : Cx) (W : WX) (ifs : List Expr) (f : AT) : Prop where
  pts : PTs X ifs (tDT X W f)
theorem PTs.wk {X : Cx} {ifs : List Expr} {t t' : L2.TT} (h : PTs X ifs t) (k : ∀ σ H Q, t' σ H Q → t σ H Q) : PTs X ifs t' := ⟨fun pins s σ H Q I hw => h.run pins s σ H Q I (k σ H Q hw)⟩
theorem DTs.nil {X : Cx} {W : WX} : DTs X W [] aYes := ⟨PTs.wk pts_nil fun σ H Q ⟨Z, μ, ρ, h, rh, re, p⟩ => Post.fin (a := true) p rh⟩
theorem DTs.one {X : Cx} {W : WX} {c : Expr} {f : AT} (h : DT X W c f) : DTs X W [c] f := ⟨pts_one h.pt⟩
def lcL (g : AG) (t : AT) (fe : AE) : List AV → AEnv → AHeap → Res (List AV)
  | [], _, h => .ok [] h
  | v :: r, ρ, h => match g v ρ h with
    | none => .bad
    | some (ρ1, h1) => match t ρ1 h1 with
      | .ok true h2 => match fe ρ1 h2 with
        | .ok y h3 => match lcL g t fe r ρ h3 with
          | .ok ys h4 => .ok (y :: ys) h4
          | _ => .bad
        | _ => .bad
      | .ok false h2 => lcL g t fe r ρ h2
      | _ => .bad
def aLc (fi : AA) (g : AG) (t : AT) (fe : AE) (vs : List Nat) : AA := fun ρ h => (fi ρ h).bind fun l h1 => if szOk l = true then lcL g t fe l (wipeA ρ vs) h1 else .bad
def W0 : WX := fun _ _ _ _ => False
/-- what the rest of the comprehension gives -/
def FinL (C' : Ctx) (μ1 : Mu) (H1 : Hp) (D : Addr) (Q : VK) (acc : List AV) : Res (List AV) → Prop
  | .ok ys h'' => ∀ μ'' H'' xs, Ext μ1 H1 μ'' H'' → RepH C' μ'' h'' H'' → RVs C' μ'' H'' (acc ++ ys) xs → H'' D = some (.lst xs) → Q (.ref D) H''
  | _ => False
theorem lcL_noexc {g : AG} {t : AT} {fe : AE} : ∀ {l : List AV} {ρ : AEnv} {h h' : AHeap} {e : AX}, lcL g t fe l ρ h = .exc e h' → False
  | [], _, _, _, _, q => by cases q
  | v :: r, ρ, h, h', e, q => by
    unfold lcL at q
    split at q
    · cases q
    · split at q
      · split at q
        · split at q
          · cases q
          · cases q
        · cases q
      · exact lcL_noexc q
      · cases q
section
variable {X : Cx} {W : WX} {pos : Pos} {elt tg iter : Expr} {ifs : List Expr} {scope : Scope} {own : List (Str × Nat)} {fi : AA} {g : AG} {tt : AT} {fe : AE} {is : List Nat}
theorem Ext.fillD {μ μ' : Mu} {H H' : Hp} {D : Addr} {o : HO} (e : Ext μ H μ' H') (hD : H D = none) : Ext μ H μ' (upd H' D o) :=
  ⟨e.pre, e.new, fun b u hb hu => by rw [upd_ne fun z => by rw [z, hD] at hu; cases hu]; exact e.frame b u hb hu⟩
theorem lc_of (hk : (is = own.map (·.2))) {σ : L2.St} {H : Hp} {Q : VK} (h : tDL X W (aLc fi g tt fe is) σ H Q) : tLc (tDI X W fi) (tDGw X is g) (tDT X W0 tt) (tD X W0 fe) (own.map (·.2)) σ H Q := by
  rw [← hk]
  obtain ⟨Z, μ, ρ, h, rh, re, p⟩ := h
  refine ⟨Z, μ, ρ, h, rh, re, p.bind.mono fun μ1 H1 h1 l e1 rh1 p1 J it D hD => ?_⟩
  obtain ⟨hz, p1⟩ : l.length ≤ sizeLine ∧ Post (cc X Z) μ1 H1 (fun c d H' => W c d σ H') (NewL (cc X Z) H Q) (lcL g tt fe l (wipeA ρ is) h1) := by
    by_cases hs : szOk l = true
    · rw [if_pos hs] at p1; exact ⟨of_decide_eq_true hs, p1⟩
    · rw [if_neg hs] at p1; exact p1.elim
  have nDm := rh1.fresh hD
  have nDz : D ∉ Z := rh1.freshZ hD
  have turn : ∀ {μ : Mu} {H : Hp}, ∀ a, (∃ o, a ∉ μ ∧ H a = some o) → a ∉ (cc X (D :: Z)).Z → a ∉ (cc X Z).Z := fun a _ hn hm => hn (List.mem_cons_of_mem _ hm)
  have fin0 : FinL (cc X (D :: Z)) μ1 H1 D Q [] (lcL g tt fe l (wipeA ρ is) h1) := by
    cases er : lcL g tt fe l (wipeA ρ is) h1 with
    | bad => rw [er] at p1; exact p1
    | exc x h' => exact lcL_noexc er
    | ok ys h' =>
      rw [er] at p1
      intro μ'' H'' xs e'' rh'' rv hxs
      have nm := (rh''.zs D (List.mem_cons_self ..)).1
      have rhZ : RepH (cc X Z) μ'' h' H'' := rh''.turnZ (C := cc X (D :: Z)) (C' := cc X Z) rfl rfl rfl turn (fun a ha => rh''.zs a (List.mem_cons_of_mem _ ha))
      refine p1 μ'' H'' e'' rhZ D xs ⟨e1.free hD nDm, hxs, nm, nDz, rv.turnZ (C := cc X (D :: Z)) (C' := cc X Z) rfl rfl rfl turn, ?_⟩
      have ad : ∀ {l : List AV} {ys : List V}, RVs (cc X (D :: Z)) μ'' H'' l ys → RVs (cc X Z) (μ'' ++ [D]) H'' l ys := fun q =>
        q.adoptZ (C := cc X (D :: Z)) (C' := cc X Z) rfl rfl rfl (List.mem_cons_self ..) (fun a hn hm => hn (List.mem_cons_of_mem _ hm)) (.inl ⟨_, hxs⟩)
      refine ⟨by simp [rh''.len], List.nodup_append.mpr ⟨rh''.nd, by simp, fun a ha b hb => by
        have : b = D := by simpa using hb
        subst this; intro z; exact nm (z ▸ ha)⟩, fun n o a q1 q2 => ?_, fun a ha => ?_⟩
      · by_cases hn : n < h'.length
        · rw [List.getElem?_append_left hn] at q1
          rw [List.getElem?_append_left (by rw [rh''.len]; exact hn)] at q2
          have q := rh''.obj n o a q1 q2
          cases o with
          | list l => obtain ⟨zs, z1, z2⟩ := q; exact ⟨zs, z1, ad z2⟩
          | set ks => exact q
          | dct ks l => obtain ⟨zs, e0, en, z1, z2⟩ := q; exact ⟨zs, e0, en, z1, ad z2⟩
        · have en : n = h'.length := by
            have := (List.getElem?_eq_some_iff.mp q1).1
            simp at this; omega
          subst en
          simp at q1; subst q1
          rw [← rh''.len] at q2
          simp at q2; subst q2
          exact ⟨xs, hxs, ad rv⟩
      · obtain ⟨n, u, z⟩ := rh''.zs a (List.mem_cons_of_mem _ ha)
        exact ⟨by simp [n, show a ≠ D from fun e => nDz (e ▸ ha)], u, z⟩
  have hz0 : ∀ a ∈ D :: Z, a ∈ (cc X Z).Z ∨ H1 a = none := fun a ha => by
    rcases List.mem_cons.mp ha with e | e
    · exact .inr (by rw [e]; exact hD)
    · exact .inl e
  have turn0 : ∀ a, (∃ o, a ∉ μ1 ∧ H1 a = some o) → a ∉ (cc X Z).Z → a ∉ (cc X (D :: Z)).Z := turn_new (C := cc X Z) hz0
  have rh0 : RepH (cc X (D :: Z)) μ1 h1 (upd H1 D (.lst [])) := by
    have q := rh1.laid (o := .lst []) hD
    have la : Ext μ1 H1 μ1 (upd H1 D (.lst [])) := .laid μ1 hD
    refine ⟨q.len, q.nd, fun n o a q1 q2 => ?_, fun a ha => ?_⟩
    · exact ((rh1.obj n o a q1 q2).turnZ (C := cc X Z) (C' := cc X (D :: Z)) rfl rfl rfl turn0).mono la (upd_ne fun z => nDm (z ▸ List.mem_of_getElem? q2))
    · rcases List.mem_cons.mp ha with e | e
      · subst e; exact ⟨nDm, _, upd_same⟩
      · obtain ⟨n, u, z⟩ := rh1.zs a e
        exact ⟨n, u, by rw [upd_ne fun w => by rw [w, hD] at z; cases z]; exact z⟩
  have re0 : RepE (cc X (D :: Z)) μ1 (upd H1 D (.lst [])) (wipeA ρ is) (wipe σ is) :=
    (((re.mono e1).turnZ (C := cc X Z) (C' := cc X (D :: Z)) rfl rfl rfl turn0).mono (.laid μ1 hD)).wipe is
  refine ⟨fun i m H => m = l.length - i ∧ i ≤ l.length ∧ ∃ μ' h' acc accV, Ext μ1 H1 μ' H ∧ RepH (cc X (D :: Z)) μ' h' H ∧ RepE (cc X (D :: Z)) μ' H (wipeA ρ is) (wipe σ is) ∧ H D = some (.lst accV) ∧
    RVs (cc X (D :: Z)) μ' H acc accV ∧ acc.length ≤ i ∧ FinL (cc X (D :: Z)) μ1 H1 D Q acc (lcL g tt fe (l.drop i) (wipeA ρ is) h'),
    ⟨l.length, by simp, Nat.zero_le _, μ1, h1, [], [], .laid μ1 hD, rh0, re0, upd_same, .nil, Nat.le_refl _, fin0⟩, ?_⟩
  rintro i m H' ⟨rfl, hi, μ', h', acc, accV, e', rh', re', eD, ra, hacc, fn⟩
  by_cases hlt : i < l.length
  · refine .inr ⟨it.go i μ' H' e' hlt, fun H2 => ∃ μ2 h2 acc accV, Ext μ1 H1 μ2 H2 ∧ RepH (cc X (D :: Z)) μ2 h2 H2 ∧ RepE (cc X (D :: Z)) μ2 H2 (wipeA ρ is) (wipe σ is) ∧ H2 D = some (.lst accV) ∧
      RVs (cc X (D :: Z)) μ2 H2 acc accV ∧ acc.length ≤ i + 1 ∧ FinL (cc X (D :: Z)) μ1 H1 D Q acc (lcL g tt fe (l.drop (i + 1)) (wipeA ρ is) h2),
      fun H2 q => ⟨l.length - (i + 1), by omega, rfl, hlt, q⟩, fun x H'' hy => ?_⟩
    have hv : l[i]? = some l[i] := List.getElem?_eq_getElem hlt
    obtain ⟨e2, rh2, rv⟩ := it.yld i μ' h' H' x H'' _ (D :: Z) hz0 e' rh' hv hy
    rw [List.drop_eq_getElem_cons hlt] at fn
    unfold lcL at fn
    refine ⟨D :: Z, μ', wipeA ρ is, h', l[i], rh2, re'.mono e2, rv, ?_⟩
    cases eg : g l[i] (wipeA ρ is) h' with
    | none => rw [eg] at fn; exact fn.elim
    | some q =>
      obtain ⟨ρ1, h1'⟩ := q
      rw [eg] at fn
      dsimp only at fn
      refine ⟨ρ1, h1', rfl, fun μ3 H3 σ3 e3 rh3 re3 l3 n3 => ⟨(wipe_eq l3 n3).trans wipe_wipe, ?_⟩⟩
      refine ⟨D :: Z, μ3, ρ1, h1', rh3, re3, ?_⟩
      have e03 : Ext μ1 H1 μ3 H3 := (e'.trans e2).trans e3
      have e13 : Ext μ' H' μ3 H3 := e2.trans e3
      have nD3 : D ∉ μ' := (rh'.zs D (List.mem_cons_self ..)).1
      cases et : tt ρ1 h1' with
      | bad => rw [et] at fn; exact fn.elim
      | exc _ _ => rw [et] at fn; exact fn.elim
      | ok b h4 =>
        rw [et] at fn
        intro μ4 H4 e4 rh4
        cases b with
        | false =>
          rw [if_neg Bool.false_ne_true]
          exact ⟨μ4, h4, acc, accV, e03.trans e4, rh4, re'.mono (e13.trans e4), (e13.trans e4).frame _ _ nD3 eD, ra.mono (e13.trans e4), Nat.le_succ_of_le hacc, fn⟩
        | true =>
          rw [if_pos rfl]
          dsimp only at fn
          refine ⟨D :: Z, μ4, ρ1, h4, rh4, re3.mono e4, ?_⟩
          cases ef : fe ρ1 h4 with
          | bad => rw [ef] at fn; exact fn.elim
          | exc _ _ => rw [ef] at fn; exact fn.elim
          | ok y h5 =>
            rw [ef] at fn
            dsimp only at fn
            intro μ5 H5 e5 rh5 z rz
            have e15 : Ext μ' H' μ5 H5 := (e13.trans e4).trans e5
            have eD5 : H5 D = some (.lst accV) := e15.frame _ _ nD3 eD
            have hzD : D ∈ (cc X (D :: Z)).Z := List.mem_cons_self ..
            refine ⟨accV, eD5, by rw [ra.length]; omega, μ5, h5, acc ++ [y], accV ++ [z], Ext.fillD ((e03.trans e4).trans e5) hD, rh5.fill hzD (.inl ⟨_, eD5⟩), (re'.mono e15).fill hzD (.inl ⟨_, eD5⟩), upd_same, ((ra.mono e15).append (.cons rz .nil)).fill hzD (.inl ⟨_, eD5⟩), by simp; exact hacc, ?_⟩
            cases el : lcL g tt fe (l.drop (i + 1)) (wipeA ρ is) h5 with
            | ok ys h6 =>
              rw [el] at fn
              intro μ'' H'' xs q1 q2 q3 q4
              exact fn μ'' H'' xs q1 q2 (by simpa using q3) q4
            | exc _ _ => rw [el] at fn; exact fn.elim
            | bad => rw [el] at fn; exact fn.elim
  · have e : i = l.length := by omega
    subst e
    rw [List.drop_length] at fn
    exact .inl ⟨it.stop μ' H' e', fn μ' H' accV e' rh' (by simpa using ra) eD⟩
theorem cc_blk {s : Shared} {H : Hp} {sc : Scope} {en : Env} {fp : List Addr} (hc : X.calm = true) : (fun Z => cc (X.blk s H sc en fp) Z) = fun Z => cc X Z := by
  funext Z
  show Ctx.mk X.prog X.w X.K X.mg Z (hxOf X.calm []) = cc X Z
  rw [cc_calm hc, hxOf_calm hc]
theorem tD_eq {Y : Cx} {f : AE} (e : (fun Z => cc Y Z) = fun Z => cc X Z) : tD Y W f = tD X W f := by
  have key : ∀ c : List Addr → Ctx, (fun Z => cc Y Z) = c → tD Y W f = fun σ H Q => ∃ Z μ ρ h, RepH (c Z) μ h H ∧ RepE (c Z) μ H ρ σ ∧ Post (c Z) μ H (fun c d H' => W c d σ H') (RVK (c Z) Q) (f ρ h) := by
    rintro _ rfl; rfl
  rw [key _ e]; rfl
theorem tDT_eq {Y : Cx} {f : AT} (e : (fun Z => cc Y Z) = fun Z => cc X Z) : tDT Y W f = tDT X W f := by
  have key : ∀ c : List Addr → Ctx, (fun Z => cc Y Z) = c → tDT Y W f = fun σ H Q => ∃ Z μ ρ h, RepH (c Z) μ h H ∧ RepE (c Z) μ H ρ σ ∧ Post (c Z) μ H (fun c d H' => W c d σ H') (fun _ H' _ b => Q b H') (f ρ h) := by
    rintro _ rfl; rfl
  rw [key _ e]; rfl
theorem tDGw_eq {Y : Cx} {is : List Nat} {f : AG} (e : (fun Z => cc Y Z) = fun Z => cc X Z) : tDGw Y is f = tDGw X is f := by
  have key : ∀ c : List Addr → Ctx, (fun Z => cc Y Z) = c → tDGw Y is f = fun x σ H Q => ∃ Z μ ρ h v, RepH (c Z) μ h H ∧ RepE (c Z) μ H ρ σ ∧ RV (c Z) μ H v x ∧ GoodW (c Z) μ H is σ (f v ρ h) Q := by
    rintro _ rfl; rfl
  rw [key _ e]; rfl
theorem DL.lc (own : List (Str × Nat)) (is : List Nat) (hc : X.calm = true) (hN : X.N.Nodup) (hi : DI X W tg iter fi) (ok : BlkOk X.N X.env.scope scope own)
    (hg : ∀ (s : Shared) (H : Hp) (C : Addr) (cl : List (Str × Addr)) (fp : List Addr), DGw (X.blk s H scope (compEnvC scope cl C X.env) fp) is tg g) (ht : ∀ (s : Shared) (H : Hp) (C : Addr) (cl : List (Str × Addr)) (fp : List Addr), DTs (X.blk s H scope (compEnvC scope cl C X.env) fp) W0 ifs tt)
    (he : ∀ (s : Shared) (H : Hp) (C : Addr) (cl : List (Str × Addr)) (fp : List Addr), DE (X.blk s H scope (compEnvC scope cl C X.env) fp) W0 elt fe) (hk : is = own.map (·.2) := by rfl) (hs : ∀ x, foldedSetIterable iter X.env x = Pure.pure x := by intro _; rfl) :
    DL X W (.ListComp elt [⟨tg, iter, ifs, 0⟩] scope pos) (aLc fi g tt fe is) :=
  ⟨PE.wk (pe_lc hc hN hi.pi ok (fun s H C cl fp => tDGw_eq (cc_blk hc) ▸ (hg s H C cl fp).pg) (fun s H C cl fp => tDT_eq (cc_blk hc) ▸ (ht s H C cl fp).pts) (fun s H C cl fp => tD_eq (cc_blk hc) ▸ (he s H C cl fp).pe) hs) fun σ H Q h => lc_of hk h⟩
end
end AI
namespace AI
open PySem PySem.Spec PyProof.Rows
open L2

/-! ### l[i] = v -/
def agSub (fo fi : AE) : AG := fun v ρ h => match fo ρ h with
  | .ok (.ref n) h1 => match fi ρ h1 with
    | .ok (.int k) h2 => match h2[n]? with
      | some (.list l) => match ixN l.length k with
        | some j => some (ρ, h2.set n (.list (l.set j v)))
        | none => none
      | _ => none
    | _ => none
  | _ => none
section
variable {X : Cx} {W : WX} {pos : Pos}
theorem DG.sub {o i : Expr} {fo fi : AE} (ho : DE X W0 o fo) (hi : DE X W0 i fi)
    (ha : ∀ v, assign (.Subscript o i pos) X.env v = (do
      let ov ← holding [v] (eval o X.env)
      let iv ← holding [v, ov] (eval i X.env)
      standAt pos
      holding [v, ov, iv] (setItem ov iv v)
      release [v, ov, iv] []) := by intro _; rfl) : DG X (.Subscript o i pos) (agSub fo fi) := by
  refine ⟨PG.wk (pg_sub ho.pe hi.pe set_list ha) fun x σ H Q h => ?_⟩
  obtain ⟨Z, μ, ρ, h, v, rh, re, rv, ρ', h', e, k⟩ := h
  refine ⟨Z, μ, ρ, h, rh, re, ?_⟩
  unfold agSub at e
  cases eo : fo ρ h with
  | ok ov h1 =>
    rw [eo] at e
    intro μ1 H1 e1 rh1 y ry
    refine ⟨Z, μ1, ρ, h1, rh1, re.mono e1, ?_⟩
    cases ov with
    | ref n =>
      dsimp only at e
      cases ei : fi ρ h1 with
      | ok iv h2 =>
        rw [ei] at e
        intro μ2 H2 e2 rh2 z rz
        cases iv with
        | int q =>
          dsimp only at e
          obtain ⟨a, rfl, ea⟩ := ry.ref_inv
          split at e
          · rename_i l el
            split at e
            · rename_i j ej
              cases e
              have ea2 := e2.pre n a ea
              obtain ⟨xs, z1, z2⟩ := rh2.obj n _ a el ea2
              have rv2 := (rv.mono e1).mono e2
              have w : Ext μ2 H2 μ2 (upd H2 a (.lst (xs.set j x))) := ext_write ea2
              refine ⟨a, xs, q, j, rfl, rz.int_inv, z1, by rw [z2.length]; exact ej, k μ2 _ σ ((e1.trans e2).trans w) (rh2.write ea2 ⟨_, upd_same, (z2.set rv2 j).mono w⟩) (((re.mono e1).mono e2).mono w)⟩
            · cases e
          · cases e
        | _ => cases e
      | exc _ _ => rw [ei] at e; cases e
      | bad => rw [ei] at e; cases e
    | _ => cases e
  | exc _ _ => rw [eo] at e; cases e
  | bad => rw [eo] at e; cases e

/-! ### a, b = x, y, the names swapped -/
def aPar2 (i j : Nat) (fa : AA) : AS := fun ρ h => .ofRes ρ (fa ρ h) fun l h1 => match l with
  | [a, b] => .nx ((ρ.set i (some a)).set j (some b)) h1
  | _ => .bad
theorem tDA.seqS {fa : AA} {Z : List Addr} {μ : Mu} {H : Hp} {h : AHeap} {ρ : AEnv} {σ : L2.St} {k : List AV → AHeap → SRes} {Y : List V → Hp → Prop} {D : Ends} (rh : RepH (cc X Z) μ h H) (re : RepE (cc X Z) μ H ρ σ) (p : PostS (cc X Z) μ H W D (.ofRes ρ (fa ρ h) k))
    (hY : ∀ μ1 H1 h1 l xs, Ext μ H μ1 H1 → RepH (cc X Z) μ1 h1 H1 → RepE (cc X Z) μ1 H1 ρ σ → RVs (cc X Z) μ1 H1 l xs → PostS (cc X Z) μ1 H1 W D (k l h1) → Y xs H1) : tDA X W fa σ H Y :=
  ⟨Z, μ, ρ, h, rh, re, (PostS.of re p).mono fun μ1 H1 h1 l e r q xs rx => hY μ1 H1 h1 l xs e r (re.mono e) rx q⟩
theorem DS.par2 (i j : Nat) {x y : Str} {a b : Expr} {fa : AA} {px py pt : Pos} {kt k2 : Nat} {pt2 : Pos} (hc : X.calm = true) (hN : X.N.Nodup) (ha : DA X W [a, b] fa)
    (hw : swappedStores [.Tuple [.Name x px, .Name y py] kt pt] (.Tuple [a, b] k2 pt2) X.env = pure (some [x, y])) (hi : X.N[i]? = some x := by rfl) (hj : X.N[j]? = some y := by rfl) (hij : i ≠ j := by decide)
    (hx : X.env.scope.names.lookup x = some .local := by rfl) (hy : X.env.scope.names.lookup y = some .local := by rfl)
    (hs : swapsWithSole [.Tuple [.Name x px, .Name y py] kt pt] (.Tuple [a, b] k2 pt2) pos.line X.env = pure false := by rfl) : DS X W (.Assign [.Tuple [.Name x px, .Name y py] kt pt] (.Tuple [a, b] k2 pt2) pos) (aPar2 i j fa) := by
  refine ⟨PS.wk (ps_par hc hN hi hj hij hx hy ha.pa hw hs) fun D σ H h => ?_⟩
  obtain ⟨Z, μ, ρ, h, rh, re, p⟩ := h
  refine tDA.seqS rh re p fun μ1 H1 h1 l xs e1 rh1 re1 rl p1 => ?_
  split at p1
  · rename_i u v
    obtain ⟨z, w, rfl, rz, rw'⟩ := rl.two
    exact ⟨z, w, rfl, p1 μ1 H1 _ (.refl _ _) rh1 ((re1.set rz i).set rw' j)⟩
  · exact p1.elim

/-! ### dict displays -/
theorem DE.dct0 : DE X W (.Dict [] [] pos) (aC (.dct [] [])) := by
  refine ⟨PE.wk pe_dnewK fun σ H Q h => ?_⟩
  obtain ⟨Z, μ, ρ, h, rh, re, p⟩ := h
  exact fun q hq => Post.fin1 (a := AV.dct [] []) p rh hq _ (.dct ⟨rh.fresh hq, rh.freshZ hq, rfl, upd_same⟩ .nil)
def keyOf : AV → Option Key
  | .int i => some (.inl i)
  | .str s => some (.inr (sOf s))
  | _ => none
def aDct1 (fk fv : AE) : AE := fun ρ h => match fk ρ h with
  | .ok k h1 => match fv ρ h1 with
    | .ok v h2 => match keyOf k, flat? v with
      | some q, some _ => .ok (.dct [q] [v]) h2
      | _, _ => .bad
    | _ => .bad
  | _ => .bad
theorem key_rv {C : Ctx} {μ : Mu} {H : Hp} {v : AV} {x : V} {k : Key} (r : RV C μ H v x) (e : keyOf v = some k) : x = kV k := by
  cases v with
  | int i => cases e; exact r.int_inv
  | str s => cases e; exact r.str_inv
  | _ => cases e
theorem flat_any {C : Ctx} {μ : Mu} {H : Hp} {C' : Ctx} {μ' : Mu} {H' : Hp} {v : AV} {x w : V} (r : RV C μ H v x) (e : flat? v = some w) : RV C' μ' H' v x := by
  cases v with
  | non => rw [r.non_inv]; exact .non
  | bl b => rw [r.bl_inv]; exact .bl
  | int b => rw [r.int_inv]; exact .int
  | str b => rw [r.str_inv]; exact .str
  | _ => cases e
theorem DE.dct1 {k v : Expr} {fk fv : AE} (hk : DE X W k fk) (hv : DE X W v fv) : DE X W (.Dict [some k] [v] pos) (aDct1 fk fv) := by
  refine ⟨PE.wk (pe_disp (pps_cons hk.pe hv.pe pps_nil) rfl rfl (by simp) (show 1 ≤ 15 by decide)) fun σ H Q h => ?_⟩
  obtain ⟨Z, μ, ρ, h, rh, re, p⟩ := h
  intro q hq
  have la : Ext μ H μ (upd H q (.dK [])) := .laid μ hq
  have nq := rh.fresh hq
  have nz : q ∉ Z := rh.freshZ hq
  have hz0 : ∀ a ∈ q :: Z, a ∈ (cc X Z).Z ∨ H a = none := fun a ha => by
    rcases List.mem_cons.mp ha with e | e
    · exact .inr (by rw [e]; exact hq)
    · exact .inl e
  have turn0 := turn_new (C := cc X Z) (μ := μ) hz0
  have turn : ∀ {μ : Mu} {H : Hp}, ∀ a, (∃ o, a ∉ μ ∧ H a = some o) → a ∉ (cc X (q :: Z)).Z → a ∉ (cc X Z).Z := fun a _ hn hm => hn (List.mem_cons_of_mem _ hm)
  have rh0 : RepH (cc X (q :: Z)) μ h (upd H q (.dK [])) := by
    refine ⟨rh.len, rh.nd, fun n o a q1 q2 => ?_, fun a ha => ?_⟩
    · exact ((rh.obj n o a q1 q2).turnZ (C := cc X Z) (C' := cc X (q :: Z)) rfl rfl rfl turn0).mono la (upd_ne fun z => nq (z ▸ List.mem_of_getElem? q2))
    · rcases List.mem_cons.mp ha with e | e
      · subst e; exact ⟨nq, _, upd_same⟩
      · obtain ⟨n, u, z⟩ := rh.zs a e
        exact ⟨n, u, by rw [upd_ne fun w => by rw [w, hq] at z; cases z]; exact z⟩
  have re0 : RepE (cc X (q :: Z)) μ (upd H q (.dK [])) ρ σ := (re.turnZ (C := cc X Z) (C' := cc X (q :: Z)) rfl rfl rfl turn0).mono la
  unfold aDct1 at p
  cases ek : fk ρ h with
  | bad => rw [ek] at p; exact p.elim
  | exc e h' => rw [ek] at p; exact p.elim
  | ok a h1 =>
    rw [ek] at p
    dsimp only at p
    refine ⟨q :: Z, μ, ρ, h, rh0, re0, ?_⟩
    rw [ek]
    intro μ1 H1 e1 rh1 x rx
    cases ev : fv ρ h1 with
    | bad => rw [ev] at p; exact p.elim
    | exc e h' => rw [ev] at p; exact p.elim
    | ok b h2 =>
      rw [ev] at p
      dsimp only at p
      refine ⟨q :: Z, μ1, ρ, h1, rh1, re0.mono e1, ?_⟩
      rw [ev]
      intro μ2 H2 e2 rh2 y ry
      split at p
      · rename_i k' w hk' hw
        have hq2 : H2 q = some (.dK []) := (e1.trans e2).frame _ _ nq upd_same
        have nq2 : q ∉ μ2 := (rh2.zs q (List.mem_cons_self ..)).1
        have := key_rv rx hk'
        subst this
        refine ⟨hq2, [(k', y)], rfl, show 1 ≤ 15 by decide, ?_⟩
        have rhF := rh2.fill (u1 := .dK (mergeK [] [(k', y)])) (List.mem_cons_self ..) (.inr ⟨_, hq2⟩)
        refine p μ2 _ (Ext.fillD (la.trans (e1.trans e2)) hq) (rhF.turnZ (C := cc X (q :: Z)) (C' := cc X Z) rfl rfl rfl turn fun a ha => rhF.zs a (List.mem_cons_of_mem _ ha)) _ (.dct ⟨nq2, nz, rfl, upd_same⟩ (.cons (flat_any ry hw) .nil))
      · exact p.elim
end

/-! ### repr -/
def keyData : Key → PyData
  | .inl i => .int i
  | .inr x => .str x
mutual
def AV.dataR : AV → Option PyData
  | .non => some .none
  | .bl b => some (.bool b)
  | .int i => some (.int i)
  | .str s => some (.str ⟨s.toArray⟩)
  | .tup l => (AV.dataRs l).map .tuple
  | .lst l => (AV.dataRs l).map .list
  | .dct ks l => match AV.dataRs l with
    | some ds => if ds.length = ks.length then some (.dict ((ks.map keyData).zip ds)) else none
    | none => none
  | _ => none
def AV.dataRs : List AV → Option (List PyData)
  | [] => some []
  | v :: l => match AV.dataR v, AV.dataRs l with
    | some d, some r => some (d :: r)
    | _, _ => none
end
mutual
/-- no list in it -/
def AV.noL : AV → Bool
  | .lst _ => false
  | .ref _ => false
  | .tup l => AV.noLs l
  | .dct _ l => AV.noLs l
  | _ => true
def AV.noLs : List AV → Bool
  | [] => true
  | v :: l => AV.noL v && AV.noLs l
end
section
variable {X : Cx} {pins : List (Addr × Obj)} {σ : L2.St} {H : Hp} {s : Shared} {Z : List Addr} {μ : Mu}
theorem key_reads {h : Heap} (k : Key) (key : Value) (e : (mixKind X.prog X.w).is k key = true) : Reads h key (keyData k) [] := by
  rcases keyIs_shape (show keyIs k key = true from e) with ⟨i, t, rfl, rfl⟩ | ⟨x, t, rfl, rfl⟩
  · exact .int i t
  · exact .str x t
theorem vals_kv : ∀ {ks : List Key} {xs : List V} {vs : List (Key × Value)}, KV (ks.zip xs) vs → ks.length = xs.length → ∃ us, Vals xs us ∧ vs = ks.zip us
  | [], [], vs, r, _ => by unfold KV at r; cases r; exact ⟨[], .nil, rfl⟩
  | k :: ks, x :: xs, vs, r, hl => by
    unfold KV at r
    rw [List.zip_cons_cons] at r
    cases r with
    | cons a b =>
      obtain ⟨us, r1, r2⟩ := vals_kv (ks := ks) (xs := xs) b (by simpa using hl)
      rename_i q qs
      obtain ⟨q1, q2⟩ := q
      obtain ⟨a1, a2⟩ := a
      have a1 : k = q1 := a1
      subst a1 r2
      exact ⟨q2 :: us, .cons a2 r1, rfl⟩
  | [], _ :: _, _, _, hl => by simp at hl
  | _ :: _, [], _, _, hl => by simp at hl
theorem pairs_read {h : Heap} : ∀ {ks : List Key} {us : List Value} {ds : List PyData} {as : List Addr}, ReadsAll h us ds as → ks.length = us.length → PyProof.V.PairsRead h keyData (ks.zip us) ((ks.map keyData).zip ds) as
  | [], [], _, _, r, _ => by cases r; exact .nil
  | k :: ks, u :: us, _, _, r, hl => by
    cases r with
    | cons a b => exact .cons a (pairs_read b (by simpa using hl))
  | [], _ :: _, _, _, _, hl => by simp at hl
  | _ :: _, [], _, _, _, hl => by simp at hl
theorem RelV.ref_inv {a : Addr} {u : Value} (r : RelV (.ref a) u) : u = .ref a := r
mutual
theorem reads_of (I : Inv X pins σ H s) : ∀ {v : AV} {x : V} {u : Value} {d : PyData}, RV (cc X Z) μ H v x → RelV x u → v.dataR = some d → ∃ as, Reads s.heap u d as ∧ (v.noL = true → sysModules ∉ as)
  | .non, x, u, d, r, q, e => by cases e; rw [r.non_inv] at q; cases (show u = Value.none from q); exact ⟨_, .none, by simp⟩
  | .bl b, x, u, d, r, q, e => by cases e; rw [r.bl_inv] at q; cases (show u = Value.bool b from q); exact ⟨_, .bool b, by simp⟩
  | .int i, x, u, d, r, q, e => by
    cases e; rw [r.int_inv] at q
    obtain ⟨t, rfl⟩ := (show ∃ t, u = Value.int i t from q)
    exact ⟨_, .int i t, by simp⟩
  | .str i, x, u, d, r, q, e => by
    cases e; rw [r.str_inv] at q
    obtain ⟨t, rfl⟩ := (show ∃ t, u = Value.str ⟨i.toArray⟩ t from q)
    exact ⟨_, .str _ t, by simp⟩
  | .tup l, x, u, d, r, q, e => by
    obtain ⟨a, xs, rfl, t, rl⟩ := r.tup_inv
    cases (show u = Value.ref a from q)
    unfold AV.dataR at e
    cases ed : AV.dataRs l with
    | none => rw [ed] at e; cases e
    | some ds =>
      rw [ed] at e; cases e
      obtain ⟨its, rv, ⟨o, ho, hc, n, hd⟩, _⟩ := I.tuple t.sq
      obtain ⟨as, h1, h2⟩ := reads_all I rl rv ed
      exact ⟨_, Reads.tuple ho hc hd h1, fun z => h2 (by simpa [AV.noL] using z)⟩
  | .lst l, x, u, d, r, q, e => by
    obtain ⟨a, xs, rfl, t, rl⟩ := r.lst_inv
    cases (show u = Value.ref a from q)
    unfold AV.dataR at e
    cases ed : AV.dataRs l with
    | none => rw [ed] at e; cases e
    | some ds =>
      rw [ed] at e; cases e
      obtain ⟨its, rv, ⟨o, n, ho, hc, _, hd⟩, _⟩ := I.list t.sq
      obtain ⟨as, h1, h2⟩ := reads_all I rl rv ed
      exact ⟨_, Reads.list ho hc hd h1, fun z => by simp [AV.noL] at z⟩
  | .dct ks l, x, u, d, r, q, e => by
    obtain ⟨a, xs, rfl, ⟨t1, t2, t3, t4⟩, rl⟩ := r.dct_inv
    cases (show u = Value.ref a from q)
    unfold AV.dataR at e
    cases ed : AV.dataRs l with
    | none => rw [ed] at e; cases e
    | some ds =>
      rw [ed] at e
      dsimp only at e
      split at e
      · rename_i hl
        cases e
        obtain ⟨_, hsm, vs, kv, dd⟩ := dk_of I.hok t4
        obtain ⟨us, rv, rfl⟩ := vals_kv kv t3
        obtain ⟨as, h1, h2⟩ := reads_all I rl rv ed
        refine ⟨_, PyProof.V.reads_dictOf (enc := keyData) (fun k key => key_reads (X := X) k key) dd (pairs_read h1 (by rw [t3, rv.length])), fun z => ?_⟩
        have := h2 (by simpa [AV.noL] using z)
        intro hm
        rcases List.mem_cons.mp hm with e | e
        · rw [← e] at hsm; simp at hsm
        · exact this e
      · cases e
  | .ref _, _, _, _, _, _, e => by simp [AV.dataR] at e
  | .ty _, _, _, _, _, _, e => by simp [AV.dataR] at e
  | .gl _, _, _, _, _, _, e => by simp [AV.dataR] at e
  | .exn _ _ _, _, _, _, _, _, e => by simp [AV.dataR] at e
  | .ins _ _ _, _, _, _, _, _, e => by simp [AV.dataR] at e
theorem reads_all (I : Inv X pins σ H s) : ∀ {l : List AV} {xs : List V} {us : List Value} {ds : List PyData}, RVs (cc X Z) μ H l xs → Vals xs us → AV.dataRs l = some ds → ∃ as, ReadsAll s.heap us ds as ∧ (AV.noLs l = true → sysModules ∉ as)
  | [], xs, us, ds, r, q, e => by
    simp only [RVs] at r; subst r
    cases q
    simp only [AV.dataRs, Option.some.injEq] at e; subst e
    exact ⟨_, .nil, by simp⟩
  | v :: l, xs, us, ds, r, q, e => by
    obtain ⟨x, t, rfl, r1, r2⟩ := r.inv
    unfold AV.dataRs at e
    split at e
    · rename_i d ds' e1 e2
      cases e
      cases q with
      | cons q1 q2 =>
        obtain ⟨as, h1, h2⟩ := reads_of I r1 q1 e1
        obtain ⟨bs, h3, h4⟩ := reads_all I r2 q2 e2
        refine ⟨_, .cons h1 h3, fun z => ?_⟩
        have z : AV.noL v = true ∧ AV.noLs l = true := by simpa [AV.noLs] using z
        simp [h2 z.1, h4 z.2]
    · cases e
end
def okR (v : AV) (d : PyData) : Bool := d.showable && (v.noL || !d.hasDict) && decide (d.shown.length ≤ szM) && decide (d.depth ≤ 64)
def vRepr : PFn := fun _ l => match l with
  | [v] => match v.dataR with
    | some d => if okR v d = true then some (.str d.shown.cps.toList) else none
    | none => none
  | _ => none
theorem VCall.repr (hg : X.A.guards = some []) (hu : X.A.units + 100 < cLine) : VCall X (.builtin "repr") vRepr := by
  intro pins s σ H xs us Q I r hh
  obtain ⟨Z, μ, h, l, v, rh, rl, ev, o⟩ := hh
  unfold vRepr at ev
  split at ev
  · rename_i w
    obtain ⟨x, rfl, rx⟩ := rl.one
    obtain ⟨u, rfl, ru⟩ := Vals.one r
    split at ev
    · rename_i d ed
      split at ev
      · rename_i hc
        cases ev
        unfold okR at hc
        simp only [Bool.and_eq_true, Bool.or_eq_true, decide_eq_true_eq] at hc
        obtain ⟨⟨⟨c1, c2⟩, c3⟩, c4⟩ := hc
        have c3 := le_line c3
        have fin : ∀ h' u' tk, (∀ b o, s.heap.get? b = some o → h'.get? b = some o) → EP X pins σ Q (.str d.shown u') { s with heap := h', toks := tk } := fun h' u' tk hk =>
          ⟨.str d.shown, H, I.kept (t' := tk) hk, ⟨u', rfl⟩, o.val rh (.strOf _)⟩
        cases w with
        | non => cases ed; rw [rx.non_inv] at ru; cases (show u = Value.none from ru); exact PySem.P.repr_of_none (fin s.heap _ _ fun _ _ e => e)
        | bl b => cases ed; rw [rx.bl_inv] at ru; cases (show u = Value.bool b from ru); exact PySem.P.repr_of_bool (fin s.heap _ _ fun _ _ e => e)
        | int i =>
          cases ed; rw [rx.int_inv] at ru
          obtain ⟨t, rfl⟩ := (show ∃ t, u = Value.int i t from ru)
          exact PySem.P.repr_of_int (by simpa [PyData.showable] using c1) (fin s.heap _ _ fun _ _ e => e)
        | str i =>
          cases ed; rw [rx.str_inv] at ru
          obtain ⟨t, rfl⟩ := (show ∃ t, u = Value.str ⟨i.toArray⟩ t from ru)
          exact PySem.P.repr_of_str (fin s.heap _ _ fun _ _ e => e) c3
        | tup l =>
          obtain ⟨a, ys, rfl, _, _⟩ := rx.tup_inv
          cases (show u = Value.ref a from ru)
          obtain ⟨as, h1, h2⟩ := reads_of I rx rfl ed
          exact repr_of_reads' h1 c1 (fun hd => h2 (c2.resolve_right (by rw [hd]; decide))) hg (by omega) (fun _ _ e => e) (fun h' u' tk hk => fin h' u' tk hk) c3
        | lst l =>
          obtain ⟨a, ys, rfl, _, _⟩ := rx.lst_inv
          cases (show u = Value.ref a from ru)
          obtain ⟨as, h1, h2⟩ := reads_of I rx rfl ed
          exact repr_of_reads' h1 c1 (fun hd => h2 (c2.resolve_right (by rw [hd]; decide))) hg (by omega) (fun _ _ e => e) (fun h' u' tk hk => fin h' u' tk hk) c3
        | dct ks l =>
          obtain ⟨a, ys, rfl, _, _⟩ := rx.dct_inv
          cases (show u = Value.ref a from ru)
          obtain ⟨as, h1, h2⟩ := reads_of I rx rfl ed
          exact repr_of_reads' h1 c1 (fun hd => h2 (c2.resolve_right (by rw [hd]; decide))) hg (by omega) (fun _ _ e => e) (fun h' u' tk hk => fin h' u' tk hk) c3
        | _ => simp [AV.dataR] at ed
      · cases ev
    · cases ev
  · cases ev
end
end AI
namespace AI
open PySem PySem.Spec PyProof.Rows
open L2

/-- the script as a list of the abstract side -/
def scriptV (ns : List Int) : AV := .lst (ns.map AV.int)
theorem ints_rvs {C : Ctx} {μ : Mu} {H : Hp} : ∀ ns : List Int, RVs C μ H (ns.map AV.int) (ns.map V.int)
  | [] => .nil
  | n :: ns => .cons .int (ints_rvs ns)
/-- the script tracked (or an object of the text), nothing else -/
structure Start (P : Program) (w : World) (K : PySem.W.Frag) (mg : Str → Option Value) (h : Heap) (a : Addr) (ob : Obj) (ns : List Int) (H : Hp) : Prop where
  only : ∀ b u, H b = some u → b = a ∧ u = .frz ob (.lst (ns.map V.int))
  lst : LstAt ⟨P, w, K, mg, [], none⟩ [] H a (ns.map V.int)
  hok : HOk P w H h
  nk : H a ≠ none → K.lookup a = none
section
variable {P : Program} {w : World} {K : PySem.W.Frag} {mg mb : Str → Option Value} {k : Nat} {fa a : Addr} {fd : FuncData} {x : Str} {m : MF} {s : Shared} {vs : List Value} {ns : List Int}
theorem start_of (KX : K.In s.heap) (ha : s.heap.get? a = some { cls := .type "list", data := .seq vs.toArray }) (hi : IntsAre vs ns) (hl : ns.length ≤ sizeLine) :
    ∃ H, Start P w K mg s.heap a { cls := .type "list", data := .seq vs.toArray } ns H := by
  have rv := vals_ints hi
  cases q : K.lookup a with
  | some o =>
    have z := KX a o q
    rw [ha] at z
    cases z
    refine ⟨fun _ => none, ⟨(fun _ u e => nomatch (show (none : Option HO) = some u from e)), .inr ⟨_, vs.toArray, _, q, rfl, rfl, rfl, ?_, by simpa using rv⟩, (fun _ u e => nomatch (show (none : Option HO) = some u from e)), fun z => absurd rfl z⟩⟩
    rw [List.size_toArray, hi.length]; exact hl
  | none =>
    let u : HO := .frz { cls := .type "list", data := .seq vs.toArray } (.lst (ns.map V.int))
    have at_ : (upd (fun _ => none) a u) a = some u := upd_same
    have inv : ∀ b v, (upd (fun _ => none) a u) b = some v → b = a ∧ v = u := fun b v e => by
      by_cases hb : b = a
      · subst hb; rw [at_] at e; cases e; exact ⟨rfl, rfl⟩
      · rw [upd_ne hb] at e; cases e
    refine ⟨upd (fun _ => none) a u, ⟨inv, .inl ⟨by simp, by simp, .inr ⟨_, at_⟩⟩, fun b v e => ?_, fun _ => q⟩⟩
    obtain ⟨rfl, rfl⟩ := inv b v e
    exact ⟨ha, by rw [List.length_map]; exact hl, vs, _, rv, ha⟩
/-- the law's def, called with the script where nothing runs yet, answers True -/
theorem lawG (KX : K.In s.heap) (hns : s.heap.Ns mainGlobals mg) (hb : s.heap.Ns builtinsNs mb) (hbb : ∀ x : Str, x ≠ "__name__" → mb x = bootBuiltins x) (hlim : s.heap.NoLimit) (hg : s.gens = #[])
    (ha : s.heap.get? a = some { cls := .type "list", data := .seq vs.toArray }) (hi : IntsAre vs ns) (hl : ns.length ≤ sizeLine) (hr : Room k callerA)
    (F : ∀ base : Heap, K.In base → base.Ns mainGlobals mg → FG P w K mg base k fa fd [x] m) (hbind : ∀ (s : Shared) (u : Value), BindsTo s fd ⟨[u], []⟩ [(x, u)])
    (hm : ∃ h', m [scriptV ns] [] = .ok (.bl true) h') :
    codeAny (model P w) callerA (.call (.ref fa) ⟨[.ref a], []⟩) (fun r s' => r = .ok (.ret (.bool true)) ∧ OldK s.heap s'.heap ∧ s'.os = s.os ∧ AllBare s'.gens) s := by
  obtain ⟨H, S⟩ := start_of (P := P) (w := w) (mg := mg) KX ha hi hl
  obtain ⟨h', em⟩ := hm
  have out : ∀ {b : Addr} {o : Obj} {es : Array DictEntry} {ep : Nat}, s.heap.get? b = some o → o.data = .dict es ep → H b = none := fun {b o es ep} e d => by
    cases q : H b with
    | none => rfl
    | some u =>
      obtain ⟨rfl, _⟩ := S.only b u q
      rw [ha] at e
      cases e
      cases (show Data.seq vs.toArray _ = Data.dict es ep from d)
  have hid : ∀ {b : Addr} {m : Str → Option Value}, s.heap.Ns b m → (hidT s.heap H).Ns b m := fun ⟨o, es, ep, e, d, r⟩ => ⟨o, es, ep, hidT_get e (out e d), d, r⟩
  have kin : K.In (hidT s.heap H) := fun b o e => hidT_get (KX b o e) (by
    cases q : H b with
    | none => rfl
    | some u =>
      obtain ⟨rfl, _⟩ := S.only b u q
      rw [S.nk (by rw [q]; simp)] at e
      cases e)
  have md : Mod K mg (hidT s.heap H) := ⟨kin, hid hns, ⟨mb, hid hb, hbb⟩, by
    obtain ⟨mc, l1, l2⟩ := hlim
    exact ⟨mc, hid l1, l2⟩⟩
  have e0 : Env0 P w K mg (hidT s.heap H) callerA [] s H :=
    { frames := rfl, mod := md, bs := fun b o e => of_hidT e, bsz := Nat.le_of_eq (hidT_size _ _), funs := trivial, frf := (fun b z => by cases z), hok := S.hok, bare := .of_eq hg }
  have sp : spD P w K mg 1 m [.ref a] H (fun v _ => v = .bl true) (fun _ _ _ => False) := by
    refine ⟨rfl, [], [], [], [scriptV ns], ⟨rfl, List.nodup_nil, (fun n o a e => by cases e), (fun a z => by cases z)⟩, RVs.cons (RV.lst S.lst (ints_rvs ns)) .nil, ?_⟩
    rw [em]
    exact fun _ _ _ _ _ r => r.bl_inv
  refine codeAny_mono ((F _ kin (hid hns)).run callerA [] s H ⟨[.ref a], []⟩ [.ref a] [.ref a] _ _ hr rfl e0 (hbind s (.ref a)) (.cons rfl .nil) sp) fun r s' back => ?_
  cases r with
  | error e =>
    obtain ⟨_, _, _, _, _, hE⟩ := back
    exact (show False from by simp_all).elim
  | ok fl =>
    cases fl with
    | ret u =>
      obtain ⟨v, H', os, bare, un, hok', r', q⟩ := back
      have q : v = .bl true := q
      subst q
      cases (show u = Value.bool true from r')
      refine ⟨rfl, OldK.of_keep fun b o e => ?_, os, bare⟩
      cases q : H b with
      | none => exact un.keep b o e q (fun z => by cases z) (fun z => by cases z)
      | some u =>
        obtain ⟨rfl, rfl⟩ := S.only b u q
        have p := hok' b _ (un.frzs b _ _ q)
        rw [ha] at e
        cases e
        exact p.1
    | next => exact False.elim back
    | brk => exact False.elim back
    | cont => exact False.elim back
end
/-- a law over a head by facts -/
theorem walkG {l : PySem.W.OpenLaw} {n k : Nat} {q : Program} {loose : List Str} {XP : (Str → Option Value) → Heap → Prop} {YP : World → Heap → Prop} {d : DefRec} {x : Str} (hn : l.most = some n) (hn2 : n ≤ sizeLine) (hdf : d.params.defaults = []) (hr : Room k callerA) {m : MF}
    (F : ∀ (w : World) (mg : Str → Option Value) (fa : Addr) (h : Heap), YP w h → h.Ns mainGlobals mg → mg d.name = some (.ref fa) → ∃ (K : PySem.W.Frag) (fd : FuncData), K.In h ∧ (∀ (s : Shared) (u : Value), BindsTo s fd ⟨[u], []⟩ [(x, u)]) ∧
      ∀ base : Heap, K.In base → base.Ns mainGlobals mg → FG l.prog w K mg base k fa fd [x] m)
    (hm : ∀ ns : List Int, ns.length ≤ n → ∃ h', m [scriptV ns] [] = .ok (.bl true) h') :
    PySem.W.WalkO q loose XP YP l.row.toRowW d [] (fun f vs => PySem.call f vs) := by
  refine Att.attach_call hn hdf fun w s₀ s₁ mg mb fa o pm cd doc a vs ns G Y ho hd hcd hmg hobj hints hlen hg => ?_
  obtain ⟨K, fd, KX, hb, hF⟩ := F w mg fa _ Y G.T.g hmg
  exact lawG KX G.T.g G.T.b G.T.builtins G.T.nolimit hg hobj hints (Nat.le_trans hlen hn2) hr hF hb (hm ns hlen)
end AI
namespace AI
open PySem PySem.Spec PyProof.Rows
open L2

/-! ### what a derivation leans on -/
structure Cn (k : Nat) (X : Cx) : Prop where
  cm : X.calm = true
  nd : X.N.Nodup
  rm : Room k X.A
  gd : X.A.guards = some []
section
variable {X : Cx} {k : Nat}
theorem Cn.u1 (c : Cn k X) : X.A.units + 64 < cLine := by have := c.rm.un; omega
theorem Cn.u2 (c : Cn k X) : X.A.units + 65 < cLine := by have := c.rm.un; omega
theorem Cn.u3 (c : Cn k X) : X.A.units + 100 < cLine := by have := c.rm.un; omega
theorem Cn.b (c : Cn k X) {s : Shared} {H : Hp} {scope : Scope} {e : Env} {fp : List Addr} : Cn k (X.blk s H scope e fp) := ⟨c.cm, c.nd, c.rm, c.gd⟩
theorem takesN : Takes X W0 := fun u s' ⟨_, _, _, _, _, _, _, _, _, _, _, _, _, _, _, _, w⟩ => w.elim
end
/-- the module's name x holds v -/
def GV (K : PySem.W.Frag) (mg : Str → Option Value) (x : Str) (v : AV) : Prop := ∃ u, mg x = some u ∧ ∀ P w Z hx μ H, ∃ y, RelV y u ∧ RV ⟨P, w, K, mg, Z, hx⟩ μ H v y
mutual
def gvB (K : PySem.W.Frag) : AV → Value → Bool
  | .non, .none => true
  | .bl b, .bool c => b == c
  | .int i, .int j _ => decide (i = j)
  | .str s, .str z _ => decide (z.cps.toList = s)
  | .tup l, .ref a => (match K.lookup a with
    | some ⟨.type c, _, .seq its _, _⟩ => decide (c = "tuple") && (decide (its.size ≤ sizeLine) && gvsB K l its.toList)
    | _ => false)
  | .lst l, .ref a => (match K.lookup a with
    | some ⟨.type c, none, .seq its _, _⟩ => decide (c = "list") && (decide (its.size ≤ sizeLine) && gvsB K l its.toList)
    | _ => false)
  | _, _ => false
def gvsB (K : PySem.W.Frag) : List AV → List Value → Bool
  | [], [] => true
  | v :: l, u :: us => gvB K v u && gvsB K l us
  | _, _ => false
end
mutual
theorem gvB_ok {K : PySem.W.Frag} {mg : Str → Option Value} : ∀ {v : AV} {u : Value}, gvB K v u = true → ∃ y, RelV y u ∧ ∀ P w Z hx μ H, RV ⟨P, w, K, mg, Z, hx⟩ μ H v y
  | .non, u, h => by
    cases u <;> first | exact ⟨.non, rfl, fun _ _ _ _ _ _ => .non⟩ | simp [gvB] at h
  | .bl b, u, h => by
    cases u with
    | bool c => have : b = c := by simpa [gvB] using h
                subst this; exact ⟨.bl b, rfl, fun _ _ _ _ _ _ => .bl⟩
    | _ => simp [gvB] at h
  | .int b, u, h => by
    cases u with
    | int c t => have : b = c := by simpa [gvB] using h
                 subst this; exact ⟨.int b, ⟨t, rfl⟩, fun _ _ _ _ _ _ => .int⟩
    | _ => simp [gvB] at h
  | .str s, u, h => by
    cases u with
    | str z t => have : z.cps.toList = s := by simpa [gvB] using h
                 subst this; exact ⟨.str z, ⟨t, rfl⟩, fun _ _ _ _ _ _ => .strOf z⟩
    | _ => simp [gvB] at h
  | .tup l, u, h => by
    cases u with
    | ref a =>
      unfold gvB at h
      split at h
      · rename_i c dd its n sl q
        obtain ⟨h1, h2⟩ := Bool.and_eq_true_iff.mp h
        obtain ⟨h3, h4⟩ := Bool.and_eq_true_iff.mp h2
        obtain ⟨xs, r, rl⟩ := gvsB_ok (mg := mg) h4
        have h1 := of_decide_eq_true h1
        subst h1
        exact ⟨.ref a, rfl, fun P w Z hx μ H => .tup (.inr ⟨_, its, n, q, rfl, rfl, of_decide_eq_true h3, r⟩) (rl P w Z hx μ H)⟩
      · cases h
    | _ => simp [gvB] at h
  | .lst l, u, h => by
    cases u with
    | ref a =>
      unfold gvB at h
      split at h
      · rename_i c its n sl q
        obtain ⟨h1, h2⟩ := Bool.and_eq_true_iff.mp h
        obtain ⟨h3, h4⟩ := Bool.and_eq_true_iff.mp h2
        obtain ⟨xs, r, rl⟩ := gvsB_ok (mg := mg) h4
        have h1 := of_decide_eq_true h1
        subst h1
        exact ⟨.ref a, rfl, fun P w Z hx μ H => .lst (.inr ⟨_, its, n, q, rfl, rfl, rfl, of_decide_eq_true h3, r⟩) (rl P w Z hx μ H)⟩
      · cases h
    | _ => simp [gvB] at h
  | .dct _ _, u, h => by simp [gvB] at h
  | .ref _, u, h => by simp [gvB] at h
  | .ty _, u, h => by simp [gvB] at h
  | .gl _, u, h => by simp [gvB] at h
  | .exn _ _ _, u, h => by simp [gvB] at h
  | .ins _ _ _, u, h => by simp [gvB] at h
theorem gvsB_ok {K : PySem.W.Frag} {mg : Str → Option Value} : ∀ {l : List AV} {us : List Value}, gvsB K l us = true → ∃ ys, Vals ys us ∧ ∀ P w Z hx μ H, RVs ⟨P, w, K, mg, Z, hx⟩ μ H l ys
  | [], us, h => by
    cases us with
    | nil => exact ⟨[], .nil, fun _ _ _ _ _ _ => .nil⟩
    | cons _ _ => simp [gvsB] at h
  | v :: l, us, h => by
    cases us with
    | nil => simp [gvsB] at h
    | cons u us =>
      obtain ⟨h1, h2⟩ := Bool.and_eq_true_iff.mp (show (gvB K v u && gvsB K l us) = true from h)
      obtain ⟨y, r, q⟩ := gvB_ok (mg := mg) h1
      obtain ⟨ys, rs, qs⟩ := gvsB_ok (mg := mg) h2
      exact ⟨y :: ys, .cons r rs, fun P w Z hx μ H => .cons (q P w Z hx μ H) (qs P w Z hx μ H)⟩
end
/-- what the head tells of the text's names beside the defs -/
def gAll (free : List Str) (vals : List (Str × AV)) (K : PySem.W.Frag) : Bool :=
  (free.all fun x => He.eqO (PySem.W.nsIn K mainGlobals x) (some none)) && vals.all fun q => match PySem.W.nsIn K mainGlobals q.1 with
    | some (some u) => gvB K q.2 u
    | _ => false
section
variable {K : PySem.W.Frag} {h : Heap} {mg : Str → Option Value} {free : List Str} {vals : List (Str × AV)}
theorem gAll_free (X : K.In h) (G : h.Ns mainGlobals mg) (c : gAll free vals K = true) (i : Nat) {x : Str} (e : free[i]? = some x := by rfl) : mg x = none :=
  PySem.W.mg_none_of X G (He.eqO_ok (List.all_eq_true.mp (Bool.and_eq_true_iff.mp c).1 x (List.mem_of_getElem? e)))
theorem gAll_val (X : K.In h) (G : h.Ns mainGlobals mg) (c : gAll free vals K = true) (i : Nat) {x : Str} {v : AV} (e : vals[i]? = some (x, v) := by rfl) : GV K mg x v := by
  have q := List.all_eq_true.mp (Bool.and_eq_true_iff.mp c).2 (x, v) (List.mem_of_getElem? e)
  dsimp only at q
  split at q
  · rename_i u hu
    obtain ⟨y, r, rv⟩ := gvB_ok (mg := mg) q
    exact ⟨u, PySem.W.mg_of X G hu, fun P w Z hx μ H => ⟨y, r, rv P w Z hx μ H⟩⟩
  · cases q
end
/-! ### a def of the text -/
abbrev FnP (K : PySem.W.Frag) (x : Str) (st : Stmt) (f : Addr) (fd : FuncData) : Prop := FunD K x x (defArgs st) (defBody st) (defScope st) [] [] f fd
section
variable {P : Program} {w : World} {K : PySem.W.Frag} {mg : Str → Option Value} {base : Heap} {k : Nat} {x : Str} {st : Stmt} {f : Addr} {fd : FuncData} {N ps : List Str} {fb : AS}
theorem Fn.mono {j : Nat} {m : MF} (F : Fn P w K mg base j x m) (h : j ≤ k) : Fn P w K mg base k x m := by
  obtain ⟨f, fd, ps, h1, h2, h3, h4, h5⟩ := F.ex
  exact ⟨f, fd, ps, h1, h2, h3, h4, h5.mono h⟩
theorem FnK.mono {j n : Nat} {ks : List Str} {arr : List AV → List AV → List AV} {m : MF} (F : FnK P w K mg base j x n ks arr m) (h : j ≤ k) : FnK P w K mg base k x n ks arr m := by
  obtain ⟨f, fd, ps, g, gV, h1, h2, h3, h4, h5, h6⟩ := F.ex
  exact ⟨f, fd, ps, g, gV, h1, h2, h3, h4, h5, h6.mono h⟩
theorem Fn.of {m : MF} (F : FnP K x st f fd) (g : mg x = some (.ref f)) (hl : ∀ l h, l.length ≠ ps.length → m l h = .bad)
    (hb : ∀ (kV doc pm : Value) (an : Option Addr) (cdv ct : Value) (us : List Value), us.length = ps.length → bindArgs (PySem.W.fnOf x x (defArgs st) (defBody st) (defScope st) .none kV doc pm an cdv ct) ⟨us, []⟩ = pure (ps.zip us))
    (G : FG P w K mg base k f fd ps m) : Fn P w K mg base k x m := ⟨f, fd, ps, g, F.kp, F.bindsN hb, hl, G⟩
theorem FnK.of {m : MF} {n : Nat} {ks : List Str} (F : FnP K x st f fd) (g : mg x = some (.ref f)) (hl : ∀ l h, l.length ≠ ps.length → m l h = .bad)
    (hb : ∀ (kV doc pm : Value) (an : Option Addr) (cdv ct : Value) (us ws : List Value), us.length = n → ws.length = ks.length → bindArgs (PySem.W.fnOf x x (defArgs st) (defBody st) (defScope st) .none kV doc pm an cdv ct) ⟨us, ks.zip ws⟩ = pure (ps.zip (us ++ ws)))
    (G : FG P w K mg base k f fd ps m) : FnK P w K mg base k x n ks (fun a b => a ++ b) m := by
  obtain ⟨oc, od, dV, kV, doc, pm, an, cdv, ct, osl, rfl, lk, _, hD, _⟩ := F.ex
  refine ⟨f, _, ps, fun us ws => us ++ ws, fun us ws => us ++ ws, g, ⟨_, lk, rfl⟩, hl, ⟨fun s us ws _ h1 h2 => ?_, fun r q => r.append q⟩, fun _ _ r q => r.append q, G⟩
  rcases hD with ⟨_, rfl⟩ | ⟨e, _⟩
  · exact .of_eq (hb kV doc pm an cdv ct us ws h1 h2)
  · exact absurd rfl e
end
end AI
namespace AI
open PySem PySem.Spec PyProof.Rows
open L2

/-! ### methods that change an object of the abstract heap -/
abbrev PMo := AHeap → List AV → AO → Option (AV × AO)
def aMethO (isO : AO → Bool) (op : PMo) (fo : AE) (fa : AA) : AE := fun ρ h => (fo ρ h).bind fun o h1 => match o with
  | .ref n => match h1[n]? with
    | some u => if isO u = true then (fa ρ h1).bind fun l h2 => match h2[n]? with
        | some u2 => match op h2 l u2 with
          | some (v, u3) => .ok v (h2.set n u3)
          | none => .bad
        | none => .bad
      else .bad
    | none => .bad
  | _ => .bad
/-- by values -/
def rAMo (X : Cx) (op : PMo) : V → List V → Hp → VK → Prop := fun x xs H Q => ∃ Z μ h n a u l v u', x = .ref a ∧ RepH (cc X Z) μ h H ∧ μ[n]? = some a ∧ h[n]? = some u ∧ RVs (cc X Z) μ H l xs ∧ op h l u = some (v, u') ∧
  ∀ H' z, Ext μ H μ H' → RepH (cc X Z) μ (h.set n u') H' → RV (cc X Z) μ H' v z → Q z H'
def VMo (X : Cx) (id : String) (op : PMo) : Prop := MtR X id (rAMo X op)
def isL : AO → Bool
  | .list _ => true
  | _ => false
def isS : AO → Bool
  | .set _ => true
  | _ => false
def isD : AO → Bool
  | .dct _ _ => true
  | _ => false
section
variable {X : Cx} {W : WX} {pos p : Pos} {x : Str} {e : Expr} {es : List Expr} {fa : AA} {fe fb : AE} {id T : String} {f : Value}
theorem methO_of {isO : AO → Bool} {op : PMo} {fo : AE} {σ : L2.St} {H : Hp} {Q : VK} {R : V → Hp → Prop} (hR : ∀ {Z : List Addr} {μ : Mu} {h : AHeap} {H : Hp} {n : Nat} {a : Addr} {u : AO}, RepH (cc X Z) μ h H → μ[n]? = some a → h[n]? = some u → isO u = true → R (.ref a) H) (h : tD X W (aMethO isO op fo fa) σ H Q) :
    tD X W fo σ H fun x H1 => R x H1 ∧ tDA X W fa σ H1 fun xs H2 => rAMo X op x xs H2 Q := by
  obtain ⟨Z, μ, ρ, h, rh, re, pp⟩ := h
  refine tD.seq rh re pp fun μ1 H1 h1 v x e1 rh1 re1 rv p1 => ?_
  cases v with
  | ref n =>
    obtain ⟨a, rfl, ea⟩ := rv.ref_inv
    dsimp only at p1
    cases eu : h1[n]? with
    | none => rw [eu] at p1; exact (show False from p1).elim
    | some u =>
      rw [eu] at p1
      dsimp only at p1
      by_cases hi : isO u = true
      · rw [if_pos hi] at p1
        refine ⟨hR rh1 ea eu hi, tDA.seq rh1 re1 p1 fun μ2 H2 h2 l xs e2 rh2 re2 rl p2 => ?_⟩
        have ea2 := e2.pre n a ea
        cases eu2 : h2[n]? with
        | none => rw [eu2] at p2; exact (show False from p2).elim
        | some u2 =>
          rw [eu2] at p2
          dsimp only at p2
          cases eo : op h2 l u2 with
          | none => rw [eo] at p2; exact (show False from p2).elim
          | some q =>
            obtain ⟨v, u3⟩ := q
            rw [eo] at p2
            exact ⟨Z, μ2, h2, n, a, u2, l, v, u3, rfl, rh2, ea2, eu2, rl, eo, fun H' z e3 rh3 rz => p2 μ2 H' e3 rh3 z rz⟩
      · rw [if_neg hi] at p1; exact (show False from p1).elim
  | _ => exact (show False from p1).elim
theorem ty_isL {Z : List Addr} {μ : Mu} {h : AHeap} {H : Hp} {n : Nat} {a : Addr} {u : AO} (rh : RepH (cc X Z) μ h H) (ea : μ[n]? = some a) (eu : h[n]? = some u) (hi : isL u = true) : tyV X.K "list" (.ref a) H := by
  cases u with
  | list l =>
    obtain ⟨xs, e1, _⟩ := rh.obj n _ a eu ea
    exact .inl ⟨rfl, xs, .inl (.inl e1)⟩
  | _ => cases hi
theorem DE.methL {o : Expr} {name : Str} {apos : Pos} {op : PMo} {fo : AE} (slot : Slot "list" name id) (hty : typeOf (.builtin id) = pure (.type "method_descriptor")) (hm : VMo X id op) (ho : DE X W o fo) (ha : DA X W (e :: es) fa)
    (hbase : attributeBase o name X.env (eval o X.env) = eval o X.env := by rfl)
    (hfew : ((backTo pos (starEach (e :: es) X.env)).all (fun x => !x.1) && (backToKw pos (keywordEach [] X.env)).all (fun x => x.1.isSome)
      && decide ((e :: es).length + ([] : List Keyword).length + (if ([] : List Keyword).isEmpty then 0 else 1) < 30)) = true := by rfl)
    (hline : (apos.endLine == pos.line) = true := by rfl) (hs : starEach (e :: es) X.env = (false, eval e X.env) :: starEach es X.env := by rfl) (hplain : (backTo pos (starEach es X.env)).any (·.1) = false := by rfl) :
    DE X W (.Call (.Attribute o name apos) (e :: es) [] pos) (aMethO isL op fo fa) :=
  ⟨PE.wk (pe_bm PySem.F.plainAttrs_list slot hty hm ho.pe ha.pa hbase hfew hline hs hplain) fun σ H Q h => methO_of (R := fun x H => tyV X.K "list" x H) ty_isL h⟩
theorem DE.methL0 {o : Expr} {name : Str} {apos : Pos} {op : PMo} {fo : AE} (slot : Slot "list" name id) (hty : typeOf (.builtin id) = pure (.type "method_descriptor")) (hm : VMo X id op) (ho : DE X W o fo)
    (hbase : attributeBase o name X.env (eval o X.env) = eval o X.env := by rfl) (hline : (apos.endLine == pos.line) = true := by rfl) :
    DE X W (.Call (.Attribute o name apos) [] [] pos) (aMethO isL op fo aNil) := by
  refine ⟨PE.wk (pe_bm0 PySem.F.plainAttrs_list slot hty hm ho.pe hbase hline) fun σ H Q h => ?_⟩
  have q := methO_of (R := fun x H => tyV X.K "list" x H) ty_isL h
  obtain ⟨Z, μ, ρ, h0, rh, re, pp⟩ := q
  refine ⟨Z, μ, ρ, h0, rh, re, pp.mono fun μ1 H1 h1 v e1 rh1 q x rx => ?_⟩
  obtain ⟨ty, Z2, μ2, ρ2, h2, rh2, re2, p2⟩ := q x rx
  exact ⟨ty, Post.fin (a := ([] : List AV)) p2 rh2 _ .nil⟩
def opAppend : PMo := fun _ l o => match l, o with
  | [v], .list m => if decide (m.length < szM) = true then some (.non, .list (m ++ [v])) else none
  | _, _ => none
theorem VMo.append : VMo X "list.append" opAppend := by
  intro pins s σ H x xs v us Q I rx rs hh
  obtain ⟨Z, μ, h, n, a, u, l, w, u', rfl, rh, ea, eu, rl, eo, k⟩ := hh
  unfold opAppend at eo
  split at eo
  · rename_i y m
    split at eo
    · rename_i hc
      cases eo
      obtain ⟨z, rfl, rz⟩ := rl.one
      obtain ⟨ys, e1, e2⟩ := rh.obj n _ a eu ea
      have hlt : ys.length < sizeLine := by rw [e2.length, ← szM_eq]; exact of_decide_eq_true hc
      have w : Ext μ H μ (upd H a (.lst (ys ++ [z]))) := ext_write ea
      exact mt_append pins s σ H _ _ v us Q I rx rs ⟨a, ys, z, rfl, rfl, e1, hlt, k _ _ w (rh.write ea ⟨_, upd_same, (e2.append (.cons rz .nil)).mono w⟩) .non⟩
    · cases eo
  · cases eo
theorem RVs.eraseIdx {C : Ctx} {μ : Mu} {H : Hp} : ∀ {l : List AV} {xs : List V} (i : Nat), RVs C μ H l xs → RVs C μ H (l.eraseIdx i) (xs.eraseIdx i)
  | [], xs, i, r => by simp only [RVs] at r; subst r; simp [RVs]
  | v :: l, xs, 0, r => by obtain ⟨x, t, rfl, r1, r2⟩ := r.inv; exact r2
  | v :: l, xs, i + 1, r => by
    obtain ⟨x, t, rfl, r1, r2⟩ := r.inv
    exact .cons r1 (RVs.eraseIdx i r2)
theorem RVs.dropLast {C : Ctx} {μ : Mu} {H : Hp} {l : List AV} {xs : List V} (r : RVs C μ H l xs) : RVs C μ H l.dropLast xs.dropLast := by
  rw [List.dropLast_eq_take, List.dropLast_eq_take, r.length]
  exact r.take _
def opPop : PMo := fun _ l o => match l, o with
  | [], .list m => match m[m.length - 1]? with
    | some v => some (v, .list m.dropLast)
    | none => none
  | _, _ => none
theorem VMo.pop : VMo X "list.pop" opPop := by
  intro pins s σ H x xs v us Q I rx rs hh
  obtain ⟨Z, μ, h, n, a, u, l, w, u', rfl, rh, ea, eu, rl, eo, k⟩ := hh
  unfold opPop at eo
  split at eo
  · rename_i m
    split at eo
    · rename_i y ey
      cases eo
      simp only [RVs] at rl
      subst rl
      obtain ⟨ys, e1, e2⟩ := rh.obj n _ a eu ea
      obtain ⟨z, ez, rz⟩ := e2.get ey
      have w : Ext μ H μ (upd H a (.lst ys.dropLast)) := ext_write ea
      exact mt_pop pins s σ H _ _ v us Q I rx rs ⟨a, ys, z, rfl, rfl, e1, by rw [e2.length]; exact ez, k _ _ w (rh.write ea ⟨_, upd_same, e2.dropLast.mono w⟩) (rz.mono w)⟩
    · cases eo
  · cases eo
def opPopAt : PMo := fun _ l o => match l, o with
  | [.int i], .list m => if decide (-(2 ^ 63) ≤ i ∧ i < 2 ^ 63) = true then match seqIndex? i m.length with
      | some j => match m[j]? with
        | some v => some (v, .list (m.eraseIdx j))
        | none => none
      | none => none
    else none
  | _, _ => none
theorem VMo.popAt : VMo X "list.pop" opPopAt := by
  intro pins s σ H x xs v us Q I rx rs hh
  obtain ⟨Z, μ, h, n, a, u, l, w, u', rfl, rh, ea, eu, rl, eo, k⟩ := hh
  unfold opPopAt at eo
  split at eo
  · rename_i i m
    split at eo
    · rename_i hc
      split at eo
      · rename_i j ej
        split at eo
        · rename_i y ey
          cases eo
          have hc := of_decide_eq_true hc
          obtain ⟨q, rfl, rq⟩ := rl.one
          obtain ⟨ys, e1, e2⟩ := rh.obj n _ a eu ea
          obtain ⟨z, ez, rz⟩ := e2.get ey
          have w : Ext μ H μ (upd H a (.lst (ys.eraseIdx j))) := ext_write ea
          exact mt_popAt pins s σ H _ _ v us Q I rx rs ⟨a, ys, i, j, z, rfl, by rw [rq.int_inv], e1, hc.1, hc.2, by rw [e2.length]; exact ej, ez, k _ _ w (rh.write ea ⟨_, upd_same, (e2.eraseIdx j).mono w⟩) (rz.mono w)⟩
        · cases eo
      · cases eo
    · cases eo
  · cases eo

/-! ### list(), int(), [..] * n -/
def aListOf (fa : AA) : AA := fun ρ h => (fa ρ h).bind fun l h1 => match l with
  | [v] => match (match seqT v with | some l => some l | none => seqL h1 v) with
    | some m => .ok m h1
    | none => .bad
  | _ => .bad
theorem DL.listOf (hg : Gl X "list") (hm : X.mg "list" = none) (ha : DA X W (e :: es) fa)
    (he : starEach (e :: es) X.env = (false, eval e X.env) :: starEach es X.env := by rfl) (hpl : (backTo pos (starEach es X.env)).any (·.1) = false := by rfl) : DL X W (.Call (.Name "list" p) (e :: es) [] pos) (aListOf fa) := by
  refine ⟨PE.wk (pe_callTy call_list_of hg hm (by decide +kernel) ha.pa (by decide) (by decide) he hpl) fun σ H Q h => ?_⟩
  obtain ⟨Z, μ, ρ, h, rh, re, pp⟩ := h
  refine tDA.seq rh re pp fun μ1 H1 h1 l xs e1 rh1 re1 rl p1 => ?_
  split at p1
  · rename_i v
    obtain ⟨x, rfl, rx⟩ := rl.one
    cases et : seqT v with
    | some m =>
      rw [et] at p1
      obtain ⟨a, ys, rfl, t, _, q⟩ := seqT_sq rx et
      exact ⟨a, ys, rfl, .inr t, fun q' hq => Post.fin1 p1 rh1 hq q' ys (.laid e1 rh1 q hq)⟩
    | none =>
      rw [et] at p1
      cases el : seqL h1 v with
      | none => rw [el] at p1; exact (show False from p1).elim
      | some m =>
        rw [el] at p1
        obtain ⟨a, ys, rfl, t, q⟩ := seqL_sq rh1 rx el
        exact ⟨a, ys, rfl, .inl t, fun q' hq => Post.fin1 p1 rh1 hq q' ys (.laid e1 rh1 q hq)⟩
  · exact (show False from p1).elim
def vIntOf : PFn := fun _ l => match l with
  | [.int i] => some (.int i)
  | [.bl b] => some (.int (if b then 1 else 0))
  | _ => none
theorem VCall.int1 : VCall X (.type "int") vIntOf := by
  intro pins s σ H xs us Q I r hh
  obtain ⟨Z, μ, h, l, v, rh, rl, ev, o⟩ := hh
  unfold vIntOf at ev
  split at ev
  · rename_i i
    cases ev
    obtain ⟨x, rfl, rx⟩ := rl.one
    exact call_int1 pins s σ H _ us Q I r (.inl ⟨i, by rw [rx.int_inv], o.val rh .int⟩)
  · rename_i b
    cases ev
    obtain ⟨x, rfl, rx⟩ := rl.one
    exact call_int1 pins s σ H _ us Q I r (.inr ⟨b, by rw [rx.bl_inv], o.val rh .int⟩)
  · cases ev
end
/-! ### name = [elt for ..] on one line -/
section
variable {X : Cx} {W : WX} {elt tg iter : Expr} {ifs : List Expr} {scope : Scope} {pos spos py : Pos} {fi : AA} {g : AG} {tt : AT} {fe : AE}
/-- a name set to a new list: pure or of the abstract heap -/
def aSetL (new : Bool) (i : Nat) (f : AA) : AS := fun ρ h => .ofRes ρ (f ρ h) fun l h1 => if new = true then .nx (ρ.set i (some (.ref h1.length))) (h1 ++ [.list l]) else .nx (ρ.set i (some (.lst l))) h1
theorem DS.setLc (own : List (Str × Nat)) (is : List Nat) (new : Bool) (i : Nat) {y : Str} (hc : X.calm = true) (hN : X.N.Nodup) (hsw : swapsWith (.ListComp elt [⟨tg, iter, ifs, 0⟩] scope pos) (some (.Name y py)) spos.line X.env = Pure.pure true)
    (hi : DI X W tg iter fi) (ok : BlkOk X.N X.env.scope scope own)
    (hg : ∀ (s : Shared) (H : Hp) (C : Addr) (cl : List (Str × Addr)) (fp : List Addr), DGw (X.blk s H scope (compEnvC scope cl C X.env) fp) is tg g) (ht : ∀ (s : Shared) (H : Hp) (C : Addr) (cl : List (Str × Addr)) (fp : List Addr), DTs (X.blk s H scope (compEnvC scope cl C X.env) fp) W0 ifs tt)
    (he : ∀ (s : Shared) (H : Hp) (C : Addr) (cl : List (Str × Addr)) (fp : List Addr), DE (X.blk s H scope (compEnvC scope cl C X.env) fp) W0 elt fe) (hy : X.N[i]? = some y := by rfl) (hyl : X.env.scope.names.lookup y = some .local := by rfl) (hk : is = own.map (·.2) := by rfl) (hs : ∀ x, foldedSetIterable iter X.env x = Pure.pure x := by intro _; rfl) :
    DS X W (.Assign [.Name y py] (.ListComp elt [⟨tg, iter, ifs, 0⟩] scope pos) spos) (aSetL new i (aLc fi g tt fe is)) := by
  refine ⟨PS.wk (ps_setLc (wi := tDI X W fi) (g := tDGw X is g) (tt := tDT X W0 tt) (te := tD X W0 fe) hc hN hy hyl hsw hi.pi ok (fun s H C cl fp => tDGw_eq (cc_blk hc) ▸ (hg s H C cl fp).pg) (fun s H C cl fp => tDT_eq (cc_blk hc) ▸ (ht s H C cl fp).pts) (fun s H C cl fp => tD_eq (cc_blk hc) ▸ (he s H C cl fp).pe) hs) fun D σ H h => ?_⟩
  obtain ⟨Z, μ, ρ, h, rh, re, p⟩ := h
  refine lc_of hk ⟨Z, μ, ρ, h, rh, re, ?_⟩
  unfold aSetL at p
  cases hr : aLc fi g tt fe is ρ h with
  | bad => rw [hr] at p; exact p
  | exc x h1 => rw [hr] at p; exact fun μ1 H1 cls d e1 r1 x => p μ1 H1 σ cls d e1 r1 (re.mono e1) x
  | ok l h1 =>
    rw [hr] at p
    intro μ1 H1 e1 rh1 q xs n
    show D.nx (σ.set i (some (.ref q))) H1
    cases new with
    | false =>
      have p : PostS (cc X Z) μ H W D (.nx (ρ.set i (some (.lst l))) h1) := p
      exact p μ1 H1 _ e1 rh1 ((re.mono e1).set (.lst (.inl ⟨n.nm, n.nz, .inl n.at_⟩) n.rv) i)
    | true =>
      have p : PostS (cc X Z) μ H W D (.nx (ρ.set i (some (.ref h1.length))) (h1 ++ [.list l])) := p
      have ad : Ext μ H (μ1 ++ [q]) H1 := .adopt n.new e1
      refine p (μ1 ++ [q]) H1 _ ad n.rh ((re.mono ad).set (.ref ?_) i)
      rw [← rh1.len]; simp
end
end AI
namespace AI
open PySem PySem.Spec PyProof.Rows
open L2

/-! ### enumerate(a tuple) -/
theorem enum_new1 {v : Value} {o : Obj} {Hh : Heap → Prop} (B : Begins v o Hh) :
    Meets (Builtin.«enumerate.__new__» ⟨[.type "enumerate", v], []⟩) (fun _ R s => Hh s.heap ∧ R (.ok (.ret (.ref (s.heap.push o).objs.size)))
      { s with heap := (s.heap.push o).push { cls := .type "enumerate", data := .fields #[.none, .bool false, .ref s.heap.objs.size, rawInt 0, .none, .none] } }) :=
  .of_wp fun prog w A R s both => by
    obtain ⟨hp, g, d, tk, os⟩ := s
    obtain ⟨begun, goal⟩ := both
    have sub := sub_enumerate
    have it_ : ∀ {A' : Around} {E : Value → Shared → Prop} {Q : Value → Shared → Prop}, Q (.ref hp.objs.size) ⟨hp.push o, g, d, tk, os⟩ → wpAny (model prog w) A' (pyIter v) Q E ⟨hp, g, d, tk, os⟩ := fun q => B.iter prog w _ _ ⟨hp, g, d, tk, os⟩ _ begun q
    wp_walk using it_
    refine wpAny_stack_any fun st => wpAny_pure ?_
    split
    · rename_i c _ _ _ _ _
      cases (c == Value.type "enumerate") <;> (wp_walk using it_; exact ⟨_, rfl, goal⟩)
    · wp_walk using it_
      exact ⟨_, rfl, goal⟩
theorem enum_call1 {prog : Program} {w : World} {A : Around} {E : Value → Shared → Prop} {s : Shared} {v : Value} {o : Obj} {Hh : Heap → Prop} {Q : Value → Shared → Prop} (B : Begins v o Hh) (begun : Hh s.heap)
    (h : ∀ h', IsEnum h' (s.heap.objs.size + 1) s.heap.objs.size 0 .none → h'.get? s.heap.objs.size = some o → (∀ b u, s.heap.get? b = some u → h'.get? b = some u) → Q (.ref (s.heap.objs.size + 1)) { s with heap := h' }) :
    wpAny (model prog w) A (call (.type "enumerate") [v]) Q E s := by
  refine callType_new F.called_enumerate (by decide) (F.typeCall_enumerate_1 _) (F.newCall_enumerate_1 _) (fun obj => F.args_object_init_2 obj _) F.entry_enumerate_new (enum_new1 B) ⟨begun, ?_⟩
  have size1 : (s.heap.push o).objs.size = s.heap.objs.size + 1 := Heap.size_push ..
  show _ ∧ _
  rw [size1]
  have stands : ((s.heap.push o).push { cls := .type "enumerate", data := .fields #[.none, .bool false, .ref s.heap.objs.size, rawInt 0, .none, .none] }).get? (s.heap.objs.size + 1) = some { cls := .type "enumerate", data := .fields #[.none, .bool false, .ref s.heap.objs.size, rawInt 0, .none, .none] } := by
    rw [← size1]; exact Heap.get?_push_size _ rfl
  exact ⟨⟨_, stands, rfl⟩, h _ stands (Heap.get?_push_of_some _ (Heap.get?_push_size _ B.free)) fun b u x => Heap.get?_push_of_some _ (Heap.get?_push_of_some _ x)⟩
/-- a tuple's items, each in a new pair behind its place -/
def ItEt (K : PySem.W.Frag) (a : Addr) : It :=
  ⟨fun i H => ∃ (xs : List V) (x : V), SqT K H a xs ∧ xs[i]? = some x, fun i H v H' => ∃ p x, v = .ref p ∧ H p = none ∧ H' = upd H p (.tup [.int (i : Nat), x]) ∧ ∀ xs, SqT K H a xs → xs[i]? = some x, fun i H => ∃ xs : List V, SqT K H a xs ∧ i = xs.length⟩
theorem tup_ne {h : Heap} {a b : Addr} {items : Array Value} {o : Obj} (t : h.IsTuple a items) (e : h.get? b = some o) (n : o.cls ≠ .type "tuple") : a ≠ b := fun z => by
  obtain ⟨q, hq, hc, _⟩ := t
  rw [z, e] at hq
  cases hq
  exact n hc
theorem turn_et {P : Program} {w : World} {K : PySem.W.Frag} {elts : List Expr} {kk : Nat} {tpos : Pos} (a e it : Addr) :
    Turn P w K (.Tuple elts kk tpos) (ItEt K a) [e, it] e (fun i h => (∃ old, IsEnum h e it ((i : Nat) : Int) old) ∧ h.IsTupleIter it a i ∧ e ≠ it) where
  mem := List.mem_cons_self ..
  obj := fun i h st b hb => by
    obtain ⟨⟨old, en⟩, ⟨o, ho, _, hd⟩, _⟩ := st
    rcases List.mem_cons.mp hb with z | z
    · subst z; exact ⟨_, en, fun v q => by cases q⟩
    · exact ⟨o, by rw [List.mem_singleton.mp z]; exact ho, fun v q => by rw [hd] at q; cases q⟩
  keep := fun i h h' st k => let ⟨⟨old, en⟩, ti, ne⟩ := st; ⟨⟨old, k e (List.mem_cons_self ..) _ en⟩, ti.at fun o q => k it (List.mem_cons_of_mem _ (List.mem_cons_self ..)) o q, ne⟩
  item := by
    intro X hP hw hK hc i pins s σ H E I fp st go
    subst hP hw hK
    obtain ⟨⟨old, en⟩, ti, ne⟩ := st
    obtain ⟨xs, x, sq, hx⟩ := go
    obtain ⟨its, rv, tp, sz⟩ := I.tuple sq
    obtain ⟨u, hu, ru⟩ := rv.get hx
    have tp : s.heap.IsTuple a its.toArray := tp
    obtain ⟨oi, hoi, ci, di⟩ := id ti
    have eLt : e < s.heap.objs.size := Heap.lt_size en
    have iLt : it < s.heap.objs.size := Heap.lt_size hoi
    have ai : a ≠ it := tup_ne tp hoi (by rw [ci]; decide)
    have ae : a ≠ e := tup_ne tp en (show Value.type "enumerate" ≠ Value.type "tuple" by decide)
    have D := Draws.tuple (prog := X.prog) (w := X.w) (A := X.A.in1) (show X.A.in1.handled = none from I.ok.hd hc) it a ai its.toArray
    refine wpAny_pyNext_enum_itemD D en ⟨ti, tp⟩ (by rw [List.size_toArray, ← rv.length]; exact (List.getElem?_eq_some_iff.mp hx).1) ne (by simp [ne, Ne.symm ae]) fun y h' tk hy out st' ht hsz kept => ?_
    have ey : y = u := by
      have : its.toArray[i]? = some y := hy
      rw [show its.toArray[i]? = some u by simpa using hu] at this
      exact (Option.some.inj this).symm
    subst ey
    refine ⟨_, rfl, wpAny_letOwnedTupleGo_enum (s := { s with heap := h', toks := tk + 1 }) out fun h2 en2 sb => ?_⟩
    have laid2 : h2.get? s.heap.objs.size = some { cls := .type "tuple", data := .seq #[.int i tk, y] } := (sb.2 _ (Nat.ne_of_gt eLt)).trans ht
    have ok : ObjOk X.prog X.w (upd H s.heap.objs.size (.tup [.int (i : Nat), x])) h2 s.heap.objs.size (.tup [.int (i : Nat), x]) :=
      ⟨(by decide : 2 ≤ sizeLine), [.int i tk, y], .cons ⟨_, rfl⟩ (.cons ru .nil), ⟨_, laid2, rfl, _, rfl⟩⟩
    have J : Inv X pins σ (upd H s.heap.objs.size (.tup [.int (i : Nat), x])) { s with heap := h2, toks := tk + 1 } :=
      I.turnedNew (ch := [e, it]) (fun b ob hb q => (sb.2 b fun z => hb (by rw [z]; exact List.mem_cons_self ..)).trans (kept b ob (fun z => hb (by rw [z]; exact List.mem_cons_self ..)) (fun z => hb (by rw [z]; exact List.mem_cons_of_mem _ (List.mem_cons_self ..))) q)) fp (Nat.le_refl _) ok
    refine ⟨.ref s.heap.objs.size, _, J, rfl, ⟨_, x, rfl, I.hok.fresh (Nat.le_refl _), rfl, fun ys hy => ?_⟩, ⟨⟨y, ?_⟩, st'.1.at fun o q => (sb.2 it (Ne.symm ne)).trans q, ne⟩, fun b hb => ?_⟩
    · rw [I.tuple_inj hy sq]; exact hx
    · rw [show ((i + 1 : Nat) : Int) = (i : Int) + 1 by omega]; exact en2
    · have : b < s.heap.objs.size := by
        rcases List.mem_cons.mp hb with z | z
        · rw [z]; exact eLt
        · rw [List.mem_singleton.mp z]; exact iLt
      rw [upd_ne (Nat.ne_of_lt this)]
      exact (fp b hb).1
  done := by
    intro X hP hw hK hc i pins s σ H E I fp st gone
    subst hP hw hK
    obtain ⟨⟨old, en⟩, ti, ne⟩ := st
    obtain ⟨xs, sq, hx⟩ := gone
    obtain ⟨its, rv, tp, sz⟩ := I.tuple sq
    have tp : s.heap.IsTuple a its.toArray := tp
    obtain ⟨oi, hoi, ci, di⟩ := id ti
    have ai : a ≠ it := tup_ne tp hoi (by rw [ci]; decide)
    obtain ⟨f0, f1, f2, f3, f4, f5⟩ := fp it (List.mem_cons_of_mem _ (List.mem_cons_self ..))
    have D := Draws.tuple (prog := X.prog) (w := X.w) (A := X.A.in1) (show X.A.in1.handled = none from I.ok.hd hc) it a ai its.toArray
    have hsz : i = its.toArray.size := by rw [List.size_toArray, ← rv.length]; exact hx
    subst hsz
    exact wpAny_pyNext_enum_endD D en ⟨ti, tp⟩ fun h' eb => ⟨rfl, I.turned (t' := s.toks) (fun b o hb q => eb b o hb q) f0 f1 f3 f4 f5⟩
  self := fun A i s Q E st h => let ⟨⟨_, en⟩, _⟩ := st; wpAny_pyIter_enum en h
def iEnumT (K : PySem.W.Frag) (ta : TA) : TI := fun σ H R => ta σ H fun vs H1 => (∃ a xs, vs = [.ref a] ∧ SqL K H1 a xs ∧ R (Ite K a) H1) ∨ ∃ a xs, vs = [.ref a] ∧ SqT K H1 a xs ∧ R (ItEt K a) H1
theorem pi_enumT {X : Cx} {e : Expr} {ta : TA} {p pos tpos : Pos} {elts : List Expr} {kk : Nat} (hg : Gl X "enumerate") (hm : X.mg "enumerate" = none) (ha : PA X [e] ta) (hs : starEach [e] X.env = [(false, eval e X.env)] := by rfl) :
    PI X (.Tuple elts kk tpos) (.Call (.Name "enumerate" p) [e] [] pos) (iEnumT X.K ta) := by
  refine ⟨fun pins s σ H R I h => ?_⟩
  refine Call_ (ld_blt I hg hm boot_enumerate (PyProof.Rows.callWith_type1 (thn (ha.run pos pins s σ H _ I h) fun us s1 ⟨vs, H1, I1, r1, q1⟩ => ?_) hs rfl))
  have fresh : ∀ {b}, b ∈ [s1.heap.objs.size + 1, s1.heap.objs.size] → s1.heap.objs.size ≤ b := fun {b} hb => by
    rcases List.mem_cons.mp hb with z | z
    · rw [z]; exact Nat.le_succ _
    · rw [List.mem_singleton.mp z]; exact Nat.le_refl _
  rcases q1 with ⟨a, xs, rfl, sq, q⟩ | ⟨a, xs, rfl, sq, q⟩
  · rw [Vals.ref1 r1]
    obtain ⟨its, rv, pl, sz⟩ := I1.list sq
    refine enum_call1 (begins_list a its.toArray) pl.isList fun h' en it kept => wpAny_pyIter_enum en ?_
    exact ⟨s1.heap.objs.size + 1, [s1.heap.objs.size + 1, s1.heap.objs.size], _, _, H1, rfl, I1.kept (t' := s1.toks) kept, turn_enum a (s1.heap.objs.size + 1) s1.heap.objs.size, ⟨⟨.none, en⟩, ⟨_, it, rfl, rfl⟩, Nat.succ_ne_self _⟩, fun b hb => I1.fpOk (fresh hb) (I1.hok.fresh (fresh hb)), q⟩
  · rw [Vals.ref1 r1]
    obtain ⟨its, rv, tp, sz⟩ := I1.tuple sq
    refine enum_call1 (begins_tuple a its.toArray) (show s1.heap.IsTuple a its.toArray from tp) fun h' en it kept => wpAny_pyIter_enum en ?_
    exact ⟨s1.heap.objs.size + 1, [s1.heap.objs.size + 1, s1.heap.objs.size], _, _, H1, rfl, I1.kept (t' := s1.toks) kept, turn_et a (s1.heap.objs.size + 1) s1.heap.objs.size, ⟨⟨.none, en⟩, ⟨_, it, rfl, rfl⟩, Nat.succ_ne_self _⟩, fun b hb => I1.fpOk (fresh hb) (I1.hok.fresh (fresh hb)), q⟩
def pairUp : Nat → List AV → List AV
  | _, [] => []
  | i, v :: l => .tup [.int i, v] :: pairUp (i + 1) l
theorem pairUp_get : ∀ {l : List AV} {k i : Nat}, (pairUp k l)[i]? = (l[i]?).map fun v => AV.tup [.int ((k + i : Nat) : Int), v]
  | [], k, i => by simp [pairUp]
  | v :: l, k, 0 => by simp [pairUp]
  | v :: l, k, i + 1 => by
    have q := pairUp_get (l := l) (k := k + 1) (i := i)
    show (pairUp (k + 1) l)[i]? = (l[i]?).map _
    rw [q]
    congr 1; funext w
    rw [show k + 1 + i = k + (i + 1) by omega]
theorem pairUp_len : ∀ {l : List AV} {k : Nat}, (pairUp k l).length = l.length
  | [], _ => rfl
  | v :: l, k => by show (pairUp (k + 1) l).length + 1 = l.length + 1; rw [pairUp_len]
section
variable {C : Ctx} {μ : Mu} {H : Hp} {l : List AV} {xs : List V} {a : Addr}
theorem pair_yield {i : Nat} {μ' : Mu} {h' : AHeap} {H' H'' : Hp} {v : AV} {Z' : List Addr} (r : RVs C μ H l xs) (hz : ∀ a ∈ Z', a ∈ C.Z ∨ H a = none) (e : Ext μ H μ' H') (rh : RepH ⟨C.prog, C.w, C.K, C.mg, Z', C.hx⟩ μ' h' H') (hv : (pairUp 0 l)[i]? = some v)
    {p : Addr} {y : V} (hp : H' p = none) (hH : H'' = upd H' p (.tup [.int (i : Nat), y])) (hx : xs[i]? = some y) : Ext μ' H' μ' H'' ∧ RepH ⟨C.prog, C.w, C.K, C.mg, Z', C.hx⟩ μ' h' H'' ∧ RV ⟨C.prog, C.w, C.K, C.mg, Z', C.hx⟩ μ' H'' v (.ref p) := by
  subst hH
  rw [pairUp_get] at hv
  cases hl : l[i]? with
  | none => rw [hl] at hv; cases hv
  | some w =>
    rw [hl] at hv; cases hv
    obtain ⟨z, ez, rz⟩ := ((r.turnZ (C := C) (C' := ⟨C.prog, C.w, C.K, C.mg, Z', C.hx⟩) rfl rfl rfl (turn_new hz)).mono e).get hl
    rw [hx] at ez; cases ez
    have la : Ext μ' H' μ' (upd H' p (.tup [.int (i : Nat), y])) := .laid μ' hp
    refine ⟨la, rh.laid hp, .tup (.new (rh.fresh hp)) (.cons ?_ (.cons (rz.mono la) .nil))⟩
    rw [show 0 + i = i by omega]; exact .int
theorem items_enumL (t : LstAt C μ H a xs) (r : RVs C μ H l xs) : ItemsOf C μ H (Ite C.K a) (pairUp 0 l) := by
  refine ⟨fun i μ' H' e hi => ?_, fun μ' H' e => ?_, fun i μ' h' H' x H'' v Z' hz e rh hv hy => ?_⟩
  · rw [pairUp_len] at hi
    exact ⟨xs, xs[i]'(by rw [r.length]; exact hi), (t.mono e).sq, List.getElem?_eq_getElem _⟩
  · exact ⟨xs, (t.mono e).sq, by rw [pairUp_len, r.length]; exact Nat.le_refl _⟩
  · obtain ⟨p, y, rfl, hp, hH, hx⟩ := hy
    exact pair_yield r hz e rh hv hp hH (hx xs (t.mono e).sq)
theorem items_enumT (t : TupAt C μ H a xs) (r : RVs C μ H l xs) : ItemsOf C μ H (ItEt C.K a) (pairUp 0 l) := by
  refine ⟨fun i μ' H' e hi => ?_, fun μ' H' e => ?_, fun i μ' h' H' x H'' v Z' hz e rh hv hy => ?_⟩
  · rw [pairUp_len] at hi
    exact ⟨xs, xs[i]'(by rw [r.length]; exact hi), (t.mono e).sq, List.getElem?_eq_getElem _⟩
  · exact ⟨xs, (t.mono e).sq, by rw [pairUp_len, r.length]⟩
  · obtain ⟨p, y, rfl, hp, hH, hx⟩ := hy
    exact pair_yield r hz e rh hv hp hH (hx xs (t.mono e).sq)
end
def aEnum (fa : AA) : AA := fun ρ h => (fa ρ h).bind fun l h1 => match l with
  | [.tup m] => .ok (pairUp 0 m) h1
  | [.lst m] => .ok (pairUp 0 m) h1
  | _ => .bad
theorem DI.enum {X : Cx} {W : WX} {e : Expr} {fa : AA} {p pos tpos : Pos} {elts : List Expr} {kk : Nat} (hg : Gl X "enumerate") (hm : X.mg "enumerate" = none) (ha : DA X W [e] fa) (hs : starEach [e] X.env = [(false, eval e X.env)] := by rfl) :
    DI X W (.Tuple elts kk tpos) (.Call (.Name "enumerate" p) [e] [] pos) (aEnum fa) := by
  refine ⟨PI.wk (pi_enumT hg hm ha.pa hs) fun σ H R h => ?_⟩
  obtain ⟨Z, μ, ρ, h, rh, re, pp⟩ := h
  refine tDA.seq rh re pp fun μ1 H1 h1 l xs e1 rh1 re1 rl p1 => ?_
  split at p1
  · rename_i m
    obtain ⟨x, rfl, rx⟩ := rl.one
    obtain ⟨a, ys, rfl, t, q⟩ := rx.tup_inv
    exact .inr ⟨a, ys, rfl, t.sq, Post.fin (a := pairUp 0 m) p1 rh1 _ (items_enumT t q)⟩
  · rename_i m
    obtain ⟨x, rfl, rx⟩ := rl.one
    obtain ⟨a, ys, rfl, t, q⟩ := rx.lst_inv
    exact .inl ⟨a, ys, rfl, t.sq, Post.fin (a := pairUp 0 m) p1 rh1 _ (items_enumL t q)⟩
  · exact (show False from p1).elim
end AI
namespace AI
open PySem PySem.Spec PyProof.Rows
open L2

/-! ### sets of ints and texts -/
theorem memK_iff {ks : List Key} {k : Key} : memK ks k = true ↔ k ∈ ks := by
  unfold memK
  rw [List.any_eq_true]
  constructor
  · rintro ⟨j, hj, e⟩; rw [← of_decide_eq_true e]; exact hj
  · intro h; exact ⟨k, h, decide_eq_true rfl⟩
theorem setM_ok {P : Program} {w : World} {H : Hp} {h : Heap} {a : Addr} {ks : List Key} (R : h.SetOf (mixKind P w) a (memK ks) ks.length) : ObjOk P w H h a (SetM P w a ks) := by
  have ⟨o, _, _, _, ho, _⟩ := R
  refine ⟨R, ⟨o, ho⟩, fun h1 h2 p k => ?_⟩
  obtain ⟨o, es, ep, t, ho, r⟩ := p
  exact ⟨o, es, ep, t, k o ho, r⟩
section
variable {X : Cx} {W : WX} {pos p : Pos} {x : Str} {e : Expr} {es : List Expr} {fa : AA} {fe fb : AE}
theorem setM_get {pins : List (Addr × Obj)} {σ : L2.St} {H : Hp} {s : Shared} {a : Addr} {ks : List Key} (I : Inv X pins σ H s) (ha : H a = some (SetM X.prog X.w a ks)) : s.heap.SetOf (mixKind X.prog X.w) a (memK ks) ks.length := (I.hok a _ ha).1
def rSetNew (X : Cx) : List V → Hp → VK → Prop := fun xs H Q => xs = [] ∧ ∀ p, H p = none → Q (.ref p) (upd H p (SetM X.prog X.w p []))
theorem cr_setNew : CallR X (.type "set") (rSetNew X) := by
  intro pins s σ H xs us Q I r h
  obtain ⟨rfl, q⟩ := h
  cases r
  refine setR_new (w := X.w) fun new => ?_
  have R : (s.heap.push { cls := .type "set", dict := none, data := .set #[] 0 (.fresh 0 0 (!X.w.params.followText "set-order")) }).SetOf (mixKind X.prog X.w) s.heap.objs.size (memK []) ([] : List Key).length :=
    ⟨_, #[], 0, _, Heap.get?_push_size _ rfl, ⟨rfl, rfl, rfl⟩, rfl, fun e he => by simp at he, fun k => by simp [memK], by decide, by rfl, rfl⟩
  exact ⟨.ref _, upd H s.heap.objs.size (SetM X.prog X.w s.heap.objs.size []), I.laid (t' := s.toks) (fun b u e => Heap.get?_push_of_some _ e) (Nat.le_refl _) (setM_ok R), rfl, q _ (I.hok.fresh (Nat.le_refl _))⟩
/-- set() -/
def aSet0 : AE := fun _ h => .ok (.ref h.length) (h ++ [.set []])
theorem DE.set0 (hg : Gl X "set") (hm : X.mg "set" = none) : DE X W (.Call (.Name "set" p) [] [] pos) aSet0 := by
  refine ⟨PE.wk (pe_callTy0 cr_setNew hg hm (by decide +kernel) (by decide) (by decide)) fun σ H Q h => ?_⟩
  obtain ⟨Z, μ, ρ, h, rh, re, pp⟩ := h
  refine ⟨rfl, fun q hq => ?_⟩
  have e : Ext μ H (μ ++ [q]) (upd H q (SetM X.prog X.w q [])) := ext_push μ hq
  refine pp (μ ++ [q]) _ e (rh.push hq (show OR (cc X Z) (μ ++ [q]) _ (.set []) q from upd_same)) _ (.ref ?_)
  rw [← rh.len]; simp
def putS (ks : List Key) (k : Key) : List Key := if memK ks k = true then ks else ks ++ [k]
def opSAdd : PMo := fun _ l o => match l, o with
  | [v], .set ks => match keyOf v with
    | some k => if decide (ks.length + 1 < 4096) = true then some (.non, .set (putS ks k)) else none
    | none => none
  | _, _ => none
theorem key_scan {k : Key} {u : Value} (r : RelV (kV k) u) : u.scannable = true := by
  cases k with
  | inl i => obtain ⟨t, rfl⟩ := (show ∃ t, u = Value.int i t from r); rfl
  | inr x => obtain ⟨t, rfl⟩ := (show ∃ t, u = Value.str x t from r); rfl
theorem VMo.sadd : VMo X "set.add" opSAdd := by
  intro pins s σ H x xs v us Q I rx rs hh
  obtain ⟨Z, μ, h, n, a, u, l, w, u', rfl, rh, ea, eu, rl, eo, k⟩ := hh
  unfold opSAdd at eo
  split at eo
  · rename_i y ks
    split at eo
    · rename_i q eq
      split at eo
      · rename_i hc
        cases eo
        obtain ⟨z, rfl, rz⟩ := rl.one
        obtain ⟨uz, rfl, ruz⟩ := Vals.one rs
        have ez := key_rv rz eq
        subst ez
        have eH : H a = some (SetM X.prog X.w a ks) := rh.obj n _ a eu ea
        cases (show v = Value.ref a from rx)
        have R := setM_get I eH
        refine call_set_add (kV_is ruz) (key_scan ruz) R (of_decide_eq_true hc) fun h' sb R' => ?_
        have R2 : h'.SetOf (mixKind X.prog X.w) a (memK (putS ks q)) (putS ks q).length := by
          have e1 : (fun k' => memK ks k' || decide (k' = q)) = memK (putS ks q) := by
            funext k'
            unfold putS
            by_cases hm : memK ks q = true
            · rw [if_pos hm]
              by_cases hk : k' = q
              · subst hk; rw [hm]; simp
              · simp [hk]
            · rw [if_neg hm]
              unfold memK
              rw [List.any_append]
              simp [eq_comm]
          have e2 : (if memK ks q = true then ks.length else ks.length + 1) = (putS ks q).length := by
            unfold putS
            split <;> simp
          rw [← e1, ← e2]; exact R'
        have w : Ext μ H μ (upd H a (SetM X.prog X.w a (putS ks q))) := ext_write ea
        have he : ∃ o, h'.get? a = some o := by
          have ⟨o, _, _, _, ho, _⟩ := R2
          exact ⟨o, ho⟩
        exact ⟨.non, upd H a (SetM X.prog X.w a (putS ks q)), I.write (e := a) (t' := s.toks + 1) (by rw [eH]; trivial) (.inl rfl) (fun b o hb ho => (sb.2 b hb).trans ho) he (setM_ok R2), rfl, k _ _ w (rh.write ea (show OR (cc X Z) μ _ (.set (putS ks q)) a from upd_same)) .non⟩
      · cases eo
    · cases eo
  · cases eo
theorem DE.sadd {o : Expr} {apos : Pos} {fo : AE} (ho : DE X W o fo) (ha : DA X W (e :: es) fa)
    (hbase : attributeBase o "add" X.env (eval o X.env) = eval o X.env := by rfl)
    (hfew : ((backTo pos (starEach (e :: es) X.env)).all (fun x => !x.1) && (backToKw pos (keywordEach [] X.env)).all (fun x => x.1.isSome)
      && decide ((e :: es).length + ([] : List Keyword).length + (if ([] : List Keyword).isEmpty then 0 else 1) < 30)) = true := by rfl)
    (hline : (apos.endLine == pos.line) = true := by rfl) (hs : starEach (e :: es) X.env = (false, eval e X.env) :: starEach es X.env := by rfl) (hplain : (backTo pos (starEach es X.env)).any (·.1) = false := by rfl) :
    DE X W (.Call (.Attribute o "add" apos) (e :: es) [] pos) (aMethO isS opSAdd fo fa) := by
  refine ⟨⟨fun pins s σ H Q I h => ?_⟩⟩
  have q := methO_of (R := fun x H => ∃ a ks, x = .ref a ∧ H a = some (SetM X.prog X.w a ks)) (fun {Z μ h H n a u} rh ea eu hi => by
    cases u with
    | set ks => exact ⟨a, ks, rfl, rh.obj n _ a eu ea⟩
    | _ => cases hi) h
  refine wpAny_Call_method_late hbase hfew hline rfl (thn (ho.pe.run pins s σ H _ I q) fun v s1 ⟨x, H1, I1, r1, ⟨a, ks, ex, eH⟩, q1⟩ => ?_)
  subst ex
  have R := setM_get I1 eH
  cases (show v = Value.ref a from r1)
  refine ⟨"set", "set.add", PySem.F.plainAttrs_set, PySem.F.slot_set_add, PySem.F.type_set_add, R.typeIs, R.noDict, ?_⟩
  have hA := ha.pa.run pos pins s1 σ H1 _ I1 q1
  rw [hs] at hA ⊢
  refine Calls.callWith_builtin (by show (false || (backTo pos (starEach es X.env)).any (·.1)) = false; rw [hplain] <;> rfl) (Calls.evalArgs_plain ?_)
  exact thn hA fun us s2 ⟨vs, H2, I2, r2, q2⟩ => VMo.sadd pins s2 σ H2 (.ref a) vs (.ref a) us Q I2 rfl r2 q2
def vLenSet : PFn := fun h l => match l with
  | [.ref n] => match h[n]? with
    | some (.set ks) => some (.int ks.length)
    | _ => none
  | _ => none
theorem VCall.lenSet : VCall X (.builtin "len") vLenSet := by
  intro pins s σ H xs us Q I r hh
  obtain ⟨Z, μ, h, l, v, rh, rl, ev, o⟩ := hh
  unfold vLenSet at ev
  split at ev
  · rename_i n
    split at ev
    · rename_i ks hk
      cases ev
      obtain ⟨x, rfl, rx⟩ := rl.one
      obtain ⟨a, rfl, ea⟩ := rx.ref_inv
      have eH : H a = some (SetM X.prog X.w a ks) := rh.obj n _ a hk ea
      rw [Vals.ref1 r]
      obtain ⟨ob, es, ep, t, ho, hex, hd, _, _, hb, hf, hn⟩ := setM_get I eH
      refine call_len_set ho hex hd hf (by have : scanBound = 4096 := rfl; omega) ⟨.int ks.length, H, I.tok _, ⟨_, by rw [hn]⟩, o.val rh .int⟩
    · cases ev
  · cases ev
def vInSet (neg : Bool) : POp2 := fun h a b => match b with
  | .ref n => match h[n]?, keyOf a with
    | some (.set ks), some k => some (.bl (if neg = true then !memK ks k else memK ks k))
    | _, _ => none
  | _ => none
theorem VOp.inSet : VOp X (compareOp .In) (vInSet false) := by
  intro pins s σ H x y v u Q I rx ry hh
  obtain ⟨Z, μ, h, p, q, r, rh, rp, rq, ev, o⟩ := hh
  unfold vInSet at ev
  split at ev
  · rename_i n
    split at ev
    · rename_i ks k hk ek
      cases ev
      obtain ⟨a, rfl, ea⟩ := rq.ref_inv
      have ez := key_rv rp ek
      subst ez
      cases (show u = Value.ref a from ry)
      exact wpAny_inSet_of (kV_is rx) (key_scan rx) (setM_get I (rh.obj n _ a hk ea)) ⟨.bl (memK ks k), H, I.tok _, rfl, o.val rh .bl⟩
    · cases ev
  · cases ev
theorem VOp.notInSet : VOp X (compareOp .NotIn) (vInSet true) := by
  intro pins s σ H x y v u Q I rx ry hh
  obtain ⟨Z, μ, h, p, q, r, rh, rp, rq, ev, o⟩ := hh
  unfold vInSet at ev
  split at ev
  · rename_i n
    split at ev
    · rename_i ks k hk ek
      cases ev
      obtain ⟨a, rfl, ea⟩ := rq.ref_inv
      have ez := key_rv rp ek
      subst ez
      cases (show u = Value.ref a from ry)
      exact wpAny_notInSet_of (kV_is rx) (key_scan rx) (setM_get I (rh.obj n _ a hk ea)) ⟨.bl (!memK ks k), H, I.tok _, rfl, o.val rh .bl⟩
    · cases ev
  · cases ev
/-! ### statements that are never reached -/
def aBadS : AS := fun _ _ => .bad
theorem DS.never {st : Stmt} : DS X W st aBadS := ⟨⟨fun pins s σ H D I ⟨Z, μ, ρ, h, rh, re, p⟩ => (show False from p).elim⟩⟩
/-- try: what never raises -/
def aTry0 (fb : AS) : AS := fun ρ h => match fb ρ h with
  | .exc _ _ _ => .bad
  | r => r
theorem DS.try0 {body : List Stmt} {h₀ : ExceptHandler} {hs : List ExceptHandler} {fb : AS} (hb : DSs X.nox W0 body fb) : DS X W (.Try body (h₀ :: hs) [] [] pos) (aTry0 fb) := by
  refine ⟨PS.wk (ps_try_thru0 hb.pss) fun D σ H h => ?_⟩
  obtain ⟨Z, μ, ρ, h, rh, re, p⟩ := h
  refine ⟨Z, μ, ρ, h, rh, re, ?_⟩
  unfold aTry0 at p
  show PostS (cc X Z) μ H W0 D (fb ρ h)
  cases e : fb ρ h with
  | exc _ _ _ => rw [e] at p; exact p.elim
  | nx _ _ => rw [e] at p; exact p
  | rt _ _ => rw [e] at p; exact p
  | bk _ _ => rw [e] at p; exact p
  | ct _ _ => rw [e] at p; exact p
  | bad => rw [e] at p; exact p
theorem Cn.n {k : Nat} (c : Cn k X) : Cn k X.nox := ⟨c.cm, c.nd, c.rm, c.gd⟩

/-! ### f'..' -/
def toTxt : AV → Option (List Nat)
  | .str s => if decide (s.length ≤ szM) = true then some s else none
  | .int i => if decide (i.natAbs.log2 < 1920) = true then some (toString i : PySem.Str).cps.toList else none
  | _ => none
def aFmt (f : AE) : AE := fun ρ h => (f ρ h).bind fun v h1 => match toTxt v with
  | some s => .ok (.str s) h1
  | none => .bad
theorem DE.fmt (he : DE X W e fe) : DE X W (.FormattedValue e (-1) none pos) (aFmt fe) := by
  refine ⟨PE.wk (pe_fmt he.pe) fun σ H Q h => ?_⟩
  obtain ⟨Z, μ, ρ, h, rh, re, p⟩ := h
  refine tD.seq rh re p fun μ1 H1 h1 v x e1 rh1 re1 rv p1 => ?_
  cases v with
  | str s =>
    unfold toTxt at p1
    dsimp only at p1
    by_cases hc : decide (s.length ≤ szM) = true
    · rw [if_pos hc] at p1
      have hl := le_line (of_decide_eq_true hc)
      exact .inl ⟨_, rv.str_inv, by simpa [PySem.Str.length] using hl, Post.fin (a := AV.str s) p1 rh1 _ .str⟩
    · rw [if_neg hc] at p1; exact (show False from p1).elim
  | int i =>
    unfold toTxt at p1
    dsimp only at p1
    by_cases hc : decide (i.natAbs.log2 < 1920) = true
    · rw [if_pos hc] at p1
      exact .inr ⟨i, rv.int_inv, of_decide_eq_true hc, Post.fin (a := AV.str (toString i : PySem.Str).cps.toList) p1 rh1 _ (.strOf _)⟩
    · rw [if_neg hc] at p1; exact (show False from p1).elim
  | _ => exact (show False from p1).elim
/-- the parts of an f-text -/
structure DJ (X : Cx) (W : WX) (es : List Expr) (fs : List AE) : Prop where
  pj : PJ X es (fs.map (tD X W))
theorem DJ.nil : DJ X W [] [] := ⟨.nil⟩
theorem DJ.cons {fs : List AE} (h : DE X W e fe) (r : DJ X W es fs) : DJ X W (e :: es) (fe :: fs) := ⟨.cons h.pe r.pj⟩
def joinF : List AE → List Nat → AE
  | [], acc, _, h => .ok (.str acc) h
  | f :: fs, acc, ρ, h => (f ρ h).bind fun v h1 => match v with
    | .str s => if decide ((acc ++ s).length ≤ szM) = true then joinF fs (acc ++ s) ρ h1 else .bad
    | _ => .bad
theorem js_of {Q : VK} {σ : L2.St} : ∀ {fs : List AE} {acc : List Nat} {H : Hp}, tD X W (joinF fs acc) σ H Q → tJs (fs.map (tD X W)) (sOf acc) σ H fun out H1 => Q (.str out) H1
  | [], acc, H, h => by
    obtain ⟨Z, μ, ρ, h, rh, re, p⟩ := h
    exact Post.fin (a := AV.str acc) p rh _ .str
  | f :: fs, acc, H, h => by
    obtain ⟨Z, μ, ρ, h, rh, re, p⟩ := h
    refine tD.seq rh re p fun μ1 H1 h1 v x e1 rh1 re1 rv p1 => ?_
    cases v with
    | str s =>
      dsimp only at p1
      by_cases hc : decide ((acc ++ s).length ≤ szM) = true
      · rw [if_pos hc] at p1
        have hl := le_line (of_decide_eq_true hc)
        have ea : sOf acc ++ sOf s = sOf (acc ++ s) := by
          show PySem.Str.mk (acc.toArray ++ s.toArray) = _
          simp
        refine ⟨sOf s, rv.str_inv, ?_, ?_⟩
        · rw [ea]; simpa [PySem.Str.length] using hl
        · rw [ea]; exact js_of ⟨Z, μ1, ρ, h1, rh1, re1, p1⟩
      · rw [if_neg hc] at p1; exact (show False from p1).elim
    | _ => exact (show False from p1).elim
theorem DE.fstr {v1 v2 : Expr} {rest : List Expr} {fs : List AE} (h : DJ X W (v1 :: v2 :: rest) fs) : DE X W (.JoinedStr (v1 :: v2 :: rest) pos) (joinF fs []) :=
  ⟨PE.wk (pe_joined h.pj) fun σ H Q h => js_of h⟩

/-! ### sorted(texts), x.split(sep), [..] * n -/
def insS (x : List Nat) : List (List Nat) → List (List Nat)
  | [] => [x]
  | y :: r => if ltCps y x = true then y :: insS x r else x :: y :: r
def isortS : List (List Nat) → List (List Nat)
  | [] => []
  | x :: r => insS x (isortS r)
theorem insS_perm (x : List Nat) : ∀ l, (insS x l).Perm (x :: l)
  | [] => .refl _
  | y :: r => by
    unfold insS
    split
    · exact ((insS_perm x r).cons y).trans (.swap x y r)
    · exact .refl _
theorem isortS_perm : ∀ l, (isortS l).Perm l
  | [] => .refl _
  | x :: r => (insS_perm x _).trans ((isortS_perm r).cons x)
theorem ltc {a b : List Nat} : ltCps a b = true ↔ a < b := by rw [ltCps_eq]; exact decide_eq_true_iff
theorem insS_pw (x : List Nat) : ∀ l : List (List Nat), l.Pairwise (· ≤ ·) → (insS x l).Pairwise (· ≤ ·)
  | [], _ => by simp [insS]
  | y :: r, h => by
    unfold insS
    have h1 := List.pairwise_cons.mp h
    split
    · rename_i hlt
      refine List.pairwise_cons.mpr ⟨fun z hz => ?_, insS_pw x r h1.2⟩
      rcases List.mem_cons.mp ((insS_perm x r).mem_iff.mp hz) with rfl | hz
      · exact List.not_lt.mp (List.lt_asymm (ltc.mp hlt))
      · exact h1.1 z hz
    · rename_i hlt
      have hxy : x ≤ y := List.not_lt.mp fun q => hlt (ltc.mpr q)
      refine List.pairwise_cons.mpr ⟨fun z hz => ?_, h⟩
      rcases List.mem_cons.mp hz with rfl | hz
      · exact hxy
      · exact List.le_trans hxy (h1.1 z hz)
theorem isortS_pw : ∀ l, (isortS l).Pairwise (· ≤ ·)
  | [] => .nil
  | x :: r => insS_pw x _ (isortS_pw r)
theorem rising_pw : ∀ (p : PySem.Str) (l : List PySem.Str), risingS p l = true → (p :: l).Pairwise fun a b => a.cps.toList ≤ b.cps.toList
  | p, [], _ => by simp
  | p, x :: r, h => by
    unfold risingS at h
    simp only [Bool.and_eq_true, Bool.not_eq_true'] at h
    have q := rising_pw x r h.2
    have hpx : p.cps.toList ≤ x.cps.toList := List.not_lt.mp fun z => by
      have := ltc.mpr z
      rw [h.1] at this; cases this
    refine List.pairwise_cons.mpr ⟨fun z hz => ?_, q⟩
    rcases List.mem_cons.mp hz with rfl | hz
    · exact hpx
    · exact List.le_trans hpx ((List.pairwise_cons.mp q).1 z hz)
theorem sorted_pw (l : List PySem.Str) (h : sortedS l = true) : (l.map fun a => a.cps.toList).Pairwise (· ≤ ·) := by
  cases l with
  | nil => exact .nil
  | cons x r => exact List.pairwise_map.mpr (rising_pw x r h)
theorem sorted_is {ys xs : List PySem.Str} (p : ys.Perm xs) (h : sortedS ys = true) : ys = (isortS (xs.map fun a => a.cps.toList)).map sOf := by
  have e : ys.map (fun a => a.cps.toList) = isortS (xs.map fun a => a.cps.toList) :=
    List.Perm.eq_of_pairwise (le := fun a b => a ≤ b) (fun a b _ _ h1 h2 => List.le_antisymm h1 h2) (sorted_pw ys h) (isortS_pw _) ((p.map _).trans (isortS_perm _).symm)
  rw [← e, List.map_map]
  have : ((sOf ∘ fun (a : PySem.Str) => a.cps.toList)) = _root_.id := by
    funext a; simp [sOf]
  rw [this, List.map_id]
def aSortS (fa : AA) : AA := fun ρ h => (fa ρ h).bind fun l h1 => match l with
  | [v] => match seqL h1 v with
    | some m => match strs? m with
      | some ys => if decide (ys.length < 64) = true then .ok ((isortS (ys.map fun a => a.cps.toList)).map AV.str) h1 else .bad
      | none => .bad
    | none => .bad
  | _ => .bad
theorem strs_rvs {C : Ctx} {μ : Mu} {H : Hp} : ∀ l : List (List Nat), RVs C μ H (l.map AV.str) ((l.map sOf).map V.str)
  | [] => .nil
  | x :: l => .cons .str (strs_rvs l)
theorem DL.sortS (hg : Gl X "sorted") (hm : X.mg "sorted" = none) (ha : DA X W (e :: es) fa)
    (he : starEach (e :: es) X.env = (false, eval e X.env) :: starEach es X.env := by rfl) (hpl : (backTo pos (starEach es X.env)).any (·.1) = false := by rfl) : DL X W (.Call (.Name "sorted" p) (e :: es) [] pos) (aSortS fa) := by
  refine ⟨PE.wk (pe_callB cr_sortedS hg hm (by decide +kernel) ha.pa (by decide) (by decide) he hpl) fun σ H Q h => ?_⟩
  obtain ⟨Z, μ, ρ, h, rh, re, pp⟩ := h
  refine tDA.seq rh re pp fun μ1 H1 h1 l xs e1 rh1 re1 rl p1 => ?_
  split at p1
  · rename_i v
    obtain ⟨x, rfl, rx⟩ := rl.one
    split at p1
    · rename_i m em
      split at p1
      · rename_i ys ey
        split at p1
        · rename_i hc
          obtain ⟨a, zs, rfl, t, q⟩ := seqL_sq rh1 rx em
          have := strs_rv q ey
          subst this
          refine ⟨a, ys, rfl, t, of_decide_eq_true hc, fun zs p' hp hs hq => ?_⟩
          rw [sorted_is hp hs]
          exact Post.fin1 p1 rh1 hq p' _ (.laid e1 rh1 (strs_rvs _) hq)
        · exact (show False from p1).elim
      · exact (show False from p1).elim
    · exact (show False from p1).elim
  · exact (show False from p1).elim
/-! ### x.split(sep) -/
def aSplit (fo : AE) (fa : AA) : AA := fun ρ h => (fo ρ h).bind fun o h1 => match o with
  | .str s => (fa ρ h1).bind fun l h2 => match l with
    | [.str t] => if (decide (t.length ≠ 0) && decide (s.length + 2 ≤ szM)) = true then .ok ((Txt.split (sOf s) (sOf t)).map fun a => .str a.cps.toList) h2 else .bad
    | _ => .bad
  | _ => .bad
theorem strs_rvs2 {C : Ctx} {μ : Mu} {H : Hp} : ∀ l : List PySem.Str, RVs C μ H (l.map fun a => AV.str a.cps.toList) (l.map V.str)
  | [] => .nil
  | x :: l => .cons (.strOf x) (strs_rvs2 l)
theorem DL.split {o : Expr} {apos : Pos} {fo : AE} (ho : DE X W o fo) (ha : DA X W (e :: es) fa)
    (hbase : attributeBase o "split" X.env (eval o X.env) = eval o X.env := by rfl)
    (hfew : ((backTo pos (starEach (e :: es) X.env)).all (fun x => !x.1) && (backToKw pos (keywordEach [] X.env)).all (fun x => x.1.isSome)
      && decide ((e :: es).length + ([] : List Keyword).length + (if ([] : List Keyword).isEmpty then 0 else 1) < 30)) = true := by rfl)
    (hline : (apos.endLine == pos.line) = true := by rfl) (hs : starEach (e :: es) X.env = (false, eval e X.env) :: starEach es X.env := by rfl) (hplain : (backTo pos (starEach es X.env)).any (·.1) = false := by rfl) :
    DL X W (.Call (.Attribute o "split" apos) (e :: es) [] pos) (aSplit fo fa) := by
  refine ⟨PE.wk (pe_bm PySem.F.plainAttrs_str PySem.F.slot_str_split PySem.F.type_str_split mt_split ho.pe ha.pa hbase hfew hline hs hplain) fun σ H Q h => ?_⟩
  obtain ⟨Z, μ, ρ, h, rh, re, pp⟩ := h
  refine tD.seq rh re pp fun μ1 H1 h1 v x e1 rh1 re1 rv p1 => ?_
  cases v with
  | str s =>
    have := rv.str_inv
    subst this
    refine ⟨rfl, tDA.seq rh1 re1 p1 fun μ2 H2 h2 l xs e2 rh2 re2 rl p2 => ?_⟩
    split at p2
    · rename_i t
      obtain ⟨y, rfl, ry⟩ := rl.one
      split at p2
      · rename_i hc
        simp only [Bool.and_eq_true, decide_eq_true_eq] at hc
        refine ⟨_, _, rfl, by rw [ry.str_inv], ?_, ?_, fun p' hp => ?_⟩
        · simp [PySem.Str.length, hc.1]
        · have := le_line hc.2
          simpa [PySem.Str.length] using this
        · exact Post.fin1 p2 rh2 hp p' _ (.laid (e1.trans e2) rh2 (strs_rvs2 _) hp)
      · exact (show False from p2).elim
    · exact (show False from p2).elim
  | _ => exact (show False from p1).elim
end
end AI
namespace AI
open PySem PySem.Spec PyProof.Rows
open L2

/-! ### [..] * n, (..) * n -/
theorem int_rmul_listW (a : Int) (t : Tok) (l : Addr) (items : Array Value) (n : Nat) (dd : Option Addr) (sl : Array (Option Value)) :
    Meets (Builtin.«int.__rmul__» ⟨[.int a t, .ref l], []⟩) (fun _ R s => s.heap.get? l = some { cls := .type "list", dict := dd, data := .seq items n, slots := sl } ∧ R (.ok (.ret Value.notImplemented)) s) :=
  .of_wp fun prog w A R s h => by obtain ⟨hp, g, d, tk, os⟩ := s; obtain ⟨hl, h⟩ := h; wp_walk using wpAny_loadPart' hl; exact ⟨_, rfl, h⟩
theorem list_mulW (l : Addr) (items : Array Value) (n : Nat) (dd : Option Addr) (sl : Array (Option Value)) (x : Int) (u : Tok) (hc0 : ¬(!Builtin.List.listFitsIndex x) = true) (hc1 : ¬items.size * x.toNat > (2 ^ 63 - 1) / 8) (hc2 : ¬Builtin.List.listTooLong (items.size * x.toNat) = true) :
    Meets (Builtin.«list.__mul__» ⟨[.ref l, .int x u], []⟩) (fun _ R s => s.heap.get? l = some { cls := .type "list", dict := dd, data := .seq items n, slots := sl } ∧ R (.ok (.ret (Value.ref s.heap.objs.size))) { s with heap := s.heap.push { cls := Value.type "list", data := Data.seq (List.foldl (fun x1 x2 => x1 ++ x2) #[] (List.replicate (if items.isEmpty = true then 0 else x.toNat) items)) }, toks := s.toks }) :=
  .of_wp fun prog w A R s h => by
    obtain ⟨hp, g, d, tk, os⟩ := s; obtain ⟨hl, h⟩ := h
    have hsz := AutoListH.joined_fits hc2
    wp_walk using wpAny_loadPart' hl
    refine wpAny_ite_false (decide_eq_false (Nat.not_lt.mpr hsz)) ?_; wp_walk using wpAny_loadPart' hl; exact ⟨_, rfl, h⟩
section
variable {X : Cx}
theorem op_repL : OpR X (binaryOp .Mult) (fun x y H Q => ∃ l k xs, x = .ref l ∧ y = .int k ∧ SqL X.K H l xs ∧ -(2 ^ 63) ≤ k ∧ k < 2 ^ 63 ∧ xs.length * k.toNat ≤ sizeLine ∧
    ∀ p, H p = none → Q (.ref p) (upd H p (.lst (List.replicate k.toNat xs).flatten))) := by
  intro pins s σ H x y v u Q I rx ry h
  obtain ⟨l, k, xs, rfl, rfl, hL, h1, h2, hz, q⟩ := h
  cases rx
  obtain ⟨t, rfl⟩ := ry
  obtain ⟨its, r, ⟨⟨c1, d1, t1, s1⟩, n, e, k1, _, e1⟩, z1⟩ := I.list hL
  simp only at k1 e1
  subst k1 e1
  have hl := r.length
  have hlen : its.toArray.size * k.toNat ≤ sizeLine := by rw [List.size_toArray, ← hl]; exact hz
  have hcap : ¬ its.toArray.size * k.toNat > (2 ^ 63 - 1) / 8 := by
    have : (sizeLine : Nat) ≤ (2 ^ 63 - 1) / 8 := by decide
    omega
  have hfit : ¬ (!Builtin.List.listFitsIndex k) = true := by
    rw [fitsIndex_both h1 h2]
    exact Bool.false_ne_true
  have hlong : ¬ Builtin.List.listTooLong (its.toArray.size * k.toNat) = true := by
    rw [notLongL hlen]
    exact Bool.false_ne_true
  have hnew : List.foldl (fun x1 x2 => x1 ++ x2) #[] (List.replicate (if its.toArray.isEmpty = true then 0 else k.toNat) its.toArray) = (List.replicate k.toNat its).flatten.toArray := by
    have f0 : ∀ m : Nat, List.foldl (fun x1 x2 => x1 ++ x2) #[] (List.replicate m its.toArray) = (List.replicate m its).flatten.toArray := fun m => by
      have := foldl_rep its m []
      rw [List.nil_append] at this
      exact this
    rw [f0]
    cases its with
    | nil => simp
    | cons a r' => rw [if_neg (by simp)]
  refine wpAny_binaryOp_repeat_ref (T := "list") (U := "int") (by decide) ⟨_, e, rfl⟩ (fun s' => typeIs_int s' k t) noFill_list_mul PySem.F.fills_int_mul PySem.F.slot_int_rmul repeat_list PySem.F.slot_int_index.lookup
    (call_meets PySem.F.slot_int_rmul (typeIs_int s k t) PySem.F.entry_int_rmul (PySem.F.args_int_rmul_2 _ _) (int_rmul_listW k t l its.toArray n d1 s1)
      ⟨e, rfl, ⟨_, e, rfl⟩, call_meets PySem.F.slot_list_mul ⟨_, e, rfl⟩ PySem.F.entry_list_mul (PySem.F.args_list_mul_2 _ _) (list_mulW l its.toArray n d1 s1 k t hfit hcap hlong) ⟨e, ?_⟩⟩)
  rw [hnew]
  exact ⟨.ref _, _, I.lnew (t' := s.toks) (r.rep k.toNat) (by rw [PyProof.Rows.lm_len_rep_flat, Nat.mul_comm]; exact hz), rfl, q _ I.fresh⟩
end
section
variable {C : Ctx} {μ : Mu} {H : Hp} {l : List AV} {xs : List V} {a : Addr}
theorem RVs.rep (r : RVs C μ H l xs) : ∀ n : Nat, RVs C μ H (List.replicate n l).flatten (List.replicate n xs).flatten
  | 0 => by simp [RVs]
  | n + 1 => by
    rw [List.replicate_succ, List.replicate_succ, List.flatten_cons, List.flatten_cons]
    exact r.append (RVs.rep r n)
end
def repN (n : Nat) (l : List AV) : List AV := (List.replicate n l).flatten
def vRepL : POp2 := fun h a b => match b with
  | .int k => match seqL h a with
    | some l => if decide (-(2 ^ 63) ≤ k ∧ k < 2 ^ 63 ∧ l.length * k.toNat ≤ szM) = true then some (.lst (repN k.toNat l)) else none
    | none => none
  | _ => none
def vRepT : POp2 := fun _ a b => match a, b with
  | .tup l, .int k => if decide (l ≠ []) && decide (2 ≤ k ∧ k ≤ 1000 ∧ l.length ≤ 1000) = true then some (.tup (repN k.toNat l)) else none
  | _, _ => none
instance (l : List AV) : Decidable (l ≠ []) := match l with
  | [] => isFalse fun h => h rfl
  | _ :: _ => isTrue (by simp)
section
variable {X : Cx}
theorem VOp.repL : VOp X (binaryOp .Mult) vRepL := by
  intro pins s σ H x y v u Q I rx ry hh
  obtain ⟨Z, μ, h, p, q, r, rh, rp, rq, ev, o⟩ := hh
  unfold vRepL at ev
  split at ev
  · rename_i k
    split at ev
    · rename_i l el
      split at ev
      · rename_i hc
        cases ev
        have hc := of_decide_eq_true hc
        obtain ⟨a, xs, rfl, t, rl⟩ := seqL_sq rh rp el
        have := rq.int_inv
        subst this
        refine op_repL pins s σ H _ _ v u Q I rx ry ⟨a, k, xs, rfl, rfl, t, hc.1, hc.2.1, by rw [rl.length]; exact le_line hc.2.2, fun p hp => ?_⟩
        exact o.new rh hp (.lst (.new (rh.fresh hp) (rh.freshZ hp)) ((rl.rep k.toNat).mono (.laid μ hp)))
      · cases ev
    · cases ev
  · cases ev
theorem VOp.repT : VOp X (binaryOp .Mult) vRepT := by
  intro pins s σ H x y v u Q I rx ry hh
  obtain ⟨Z, μ, h, p, q, r, rh, rp, rq, ev, o⟩ := hh
  unfold vRepT at ev
  split at ev
  · rename_i l k
    split at ev
    · rename_i hc
      cases ev
      simp only [Bool.and_eq_true, decide_eq_true_eq] at hc
      obtain ⟨hn, hc⟩ := hc
      obtain ⟨a, xs, rfl, t, rl⟩ := rp.tup_inv
      have := rq.int_inv
      subst this
      refine op_repT pins s σ H _ _ v u Q I rx ry ⟨a, k, xs, rfl, rfl, t.sq, fun e => ?_, hc.1, hc.2.1, by rw [rl.length]; exact hc.2.2, fun p hp => ?_⟩
      · subst e
        exact hn (List.eq_nil_of_length_eq_zero (by rw [← rl.length]; rfl))
      · exact o.new rh hp (.tup (.new (rh.fresh hp)) ((rl.rep k.toNat).mono (.laid μ hp)))
    · cases ev
  · cases ev
def vMulA : POp2 := vOr vMul (vOr vRepL vRepT)
theorem VOp.mulA : VOp X (binaryOp .Mult) vMulA := VOp.mul.or (VOp.repL.or .repT)
end

/-! ### dicts of ints and texts -/
def dGet : List Key → List AV → Key → Option AV
  | k :: ks, v :: vs, j => if k = j then some v else dGet ks vs j
  | _, _, _ => none
def putA (ks : List Key) (vs : List AV) (k : Key) (v : AV) : List Key × List AV :=
  if memK ks k = true then (ks, List.zipWith (fun j w => if j = k then v else w) ks vs) else (ks ++ [k], vs ++ [v])
section
variable {C : Ctx} {μ : Mu} {H : Hp}
theorem dGet_ok : ∀ {ks : List Key} {vs : List AV} {xs : List V} {k : Key}, ks.length = xs.length → RVs C μ H vs xs → (∀ v, dGet ks vs k = some v → ∃ x, valV (ks.zip xs) k = some x ∧ RV C μ H v x) ∧ (dGet ks vs k = none → valV (ks.zip xs) k = none)
  | [], vs, xs, k, e, r => ⟨fun v q => by simp [dGet] at q, fun _ => rfl⟩
  | j :: ks, vs, [], k, e, r => by cases e
  | j :: ks, [], x :: xs, k, e, r => by simp [RVs] at r
  | j :: ks, v :: vs, x :: xs, k, e, r => by
    obtain ⟨x', xs', ee, r1, r2⟩ := r.inv
    cases ee
    have ih := dGet_ok (k := k) (show ks.length = xs.length by simpa using e) r2
    unfold dGet
    rw [List.zip_cons_cons]
    by_cases hj : j = k
    · rw [if_pos hj, valV_pos (p := (j, x)) hj]
      exact ⟨fun w q => by cases q; exact ⟨x, rfl, r1⟩, fun q => by cases q⟩
    · rw [if_neg hj, valV_neg (p := (j, x)) hj]
      exact ih
theorem any_mem : ∀ {ks : List Key} {xs : List V} {k : Key}, ks.length = xs.length → ((ks.zip xs).any fun kv => decide (kv.1 = k)) = memK ks k
  | [], xs, k, e => rfl
  | j :: ks, [], k, e => by cases e
  | j :: ks, x :: xs, k, e => by
    have ih := any_mem (k := k) (show ks.length = xs.length by simpa using e)
    rw [List.zip_cons_cons]
    unfold memK at ih ⊢
    rw [List.any_cons, List.any_cons, ih]
theorem zip_put : ∀ {ks : List Key} {vs : List AV} {xs : List V} {k : Key} {v : AV} {x : V}, ks.length = xs.length → RVs C μ H vs xs → RV C μ H v x →
    (ks.zip xs).map (fun kv => if kv.1 = k then (kv.1, x) else kv) = ks.zip (List.zipWith (fun j w => if j = k then x else w) ks xs) ∧ RVs C μ H (List.zipWith (fun j w => if j = k then v else w) ks vs) (List.zipWith (fun j w => if j = k then x else w) ks xs)
  | [], vs, xs, k, v, x, e, r, q => by simp [RVs]
  | j :: ks, vs, [], k, v, x, e, r, q => by cases e
  | j :: ks, [], y :: xs, k, v, x, e, r, q => by simp [RVs] at r
  | j :: ks, w :: vs, y :: xs, k, v, x, e, r, q => by
    obtain ⟨x', xs', ee, r1, r2⟩ := r.inv
    cases ee
    have ih := zip_put (k := k) (show ks.length = xs.length by simpa using e) r2 q
    rw [List.zip_cons_cons, List.map_cons, List.zipWith_cons_cons, List.zipWith_cons_cons, List.zip_cons_cons, ih.1]
    dsimp only
    by_cases hj : j = k
    · rw [if_pos hj, if_pos hj, if_pos hj]; exact ⟨rfl, .cons q ih.2⟩
    · rw [if_neg hj, if_neg hj, if_neg hj]; exact ⟨rfl, .cons r1 ih.2⟩
theorem putA_ok {ks : List Key} {vs : List AV} {xs : List V} {k : Key} {v : AV} {x : V} (e : ks.length = xs.length) (nd : ks.Nodup) (r : RVs C μ H vs xs) (q : RV C μ H v x) :
    ∃ ys, putK (ks.zip xs) k x = (putA ks vs k v).1.zip ys ∧ RVs C μ H (putA ks vs k v).2 ys ∧ (putA ks vs k v).1.length = ys.length ∧ (putA ks vs k v).1.Nodup := by
  unfold putK putA
  rw [any_mem e]
  by_cases hm : memK ks k = true
  · rw [if_pos hm, if_pos hm]
    have z := zip_put (k := k) e r q
    exact ⟨_, z.1, z.2, by simp [e], nd⟩
  · rw [if_neg hm, if_neg hm]
    refine ⟨xs ++ [x], ?_, r.append (.cons q .nil), by simp [e], ?_⟩
    · rw [List.zip_append e]; rfl
    · exact List.nodup_append.mpr ⟨nd, by simp, fun a ha b hb z => hm (memK_iff.mpr (by simp at hb; rw [← hb, ← z]; exact ha))⟩
end
/-- the pairs, one after another -/
def pairOf : AV → Option (Key × AV)
  | .tup [a, v] => (keyOf a).map fun k => (k, v)
  | _ => none
def putAll : List Key → List AV → List AV → Option (List Key × List AV)
  | ks, vs, [] => some (ks, vs)
  | ks, vs, w :: r => match pairOf w with
    | some q => putAll (putA ks vs q.1 q.2).1 (putA ks vs q.1 q.2).2 r
    | none => none
theorem pairOf_ok {C : Ctx} {μ : Mu} {H : Hp} {w : AV} {z : V} {q : Key × AV} (e : pairOf w = some q) (r : RV C μ H w z) : ∃ p x, z = .ref p ∧ SqT C.K H p [kV q.1, x] ∧ RV C μ H q.2 x := by
  unfold pairOf at e
  split at e
  · rename_i a v
    cases ek : keyOf a with
    | none => rw [ek] at e; cases e
    | some k =>
      rw [ek] at e; cases e
      obtain ⟨p, ys, rfl, t, q⟩ := r.tup_inv
      obtain ⟨y1, y2, rfl, q1, q2⟩ := q.two
      have := key_rv q1 ek
      subst this
      exact ⟨p, y2, rfl, t.sq, q2⟩
  · cases e
section
variable {C : Ctx} {μ : Mu} {H : Hp}
theorem putAll_ok : ∀ {l : List AV} {zs : List V} {ks ks' : List Key} {vs vs' : List AV} {xs : List V}, putAll ks vs l = some (ks', vs') → RVs C μ H l zs → ks.length = xs.length → ks.Nodup → RVs C μ H vs xs →
    ∃ (ps : List Addr) (kvs : List (Key × V)) (ys : List V), zs = ps.map V.ref ∧ Paired (fun p kv => SqT C.K H p [kV kv.1, kv.2]) ps kvs ∧ mergeK (ks.zip xs) kvs = ks'.zip ys ∧ RVs C μ H vs' ys ∧ ks'.length = ys.length ∧ ks'.Nodup
  | [], zs, ks, ks', vs, vs', xs, e, r, el, nd, rv => by
    cases e
    simp only [RVs] at r
    subst r
    exact ⟨[], [], xs, rfl, .nil, rfl, rv, el, nd⟩
  | w :: l, zs, ks, ks', vs, vs', xs, e, r, el, nd, rv => by
    obtain ⟨z, zs', rfl, r1, r2⟩ := r.inv
    unfold putAll at e
    split at e
    · rename_i q eq
      obtain ⟨p, x, rfl, t, q2⟩ := pairOf_ok eq r1
      obtain ⟨xs1, z1, z2, z3, z4⟩ := putA_ok (k := q.1) el nd rv q2
      obtain ⟨ps, kvs, ys, f1, f2, f3, f4⟩ := putAll_ok e r2 z3 z4 z2
      refine ⟨p :: ps, (q.1, x) :: kvs, ys, by rw [f1]; rfl, .cons t f2, ?_, f4⟩
      show mergeK (putK (ks.zip xs) q.1 x) kvs = _
      rw [z1]; exact f3
    · cases e
end
section
variable {X : Cx}
/-- dict(a list of pairs), to stay as it is -/
def vDictP : PFn := fun h l => match l with
  | [v] => match seqL h v with
    | some m => (putAll [] [] m).map fun r => .dct r.1 r.2
    | none => none
  | _ => none
theorem VCall.dictP (hc : X.calm = true) : VCall X (.type "dict") vDictP := by
  intro pins s σ H xs us Q I r hh
  obtain ⟨Z, μ, h, l, v, rh, rl, ev, o⟩ := hh
  unfold vDictP at ev
  split at ev
  · rename_i w
    split at ev
    · rename_i m el
      cases ep : putAll [] [] m with
      | none => rw [ep] at ev; cases ev
      | some q =>
        obtain ⟨ks, vs⟩ := q
        rw [ep] at ev; cases ev
        obtain ⟨x, rfl, rx⟩ := rl.one
        obtain ⟨a, zs, rfl, t, rz⟩ := seqL_sq rh rx el
        obtain ⟨ps, kvs, ys, rfl, f2, f3, f4, f5, _⟩ := putAll_ok (xs := []) ep rz rfl List.nodup_nil .nil
        refine call_dictP hc pins s σ H _ us Q I r ⟨a, ps, kvs, rfl, t, f2, fun p hp => ?_⟩
        refine o.new rh hp (.dct ⟨rh.fresh hp, rh.freshZ hp, f5, ?_⟩ (f4.mono (.laid μ hp)))
        rw [upd_same]
        exact congrArg (fun z => some (HO.dK z)) f3
    · cases ev
  · cases ev
/-- a dict's keys and values -/
def seqD (h : AHeap) : AV → Option (List Key × List AV)
  | .dct ks vs => some (ks, vs)
  | .ref n => match h[n]? with
    | some (.dct ks vs) => some (ks, vs)
    | _ => none
  | _ => none
theorem seqD_ok {C : Ctx} {μ : Mu} {H : Hp} {h : AHeap} {v : AV} {x : V} {ks : List Key} {vs : List AV} (rh : RepH C μ h H) (r : RV C μ H v x) (e : seqD h v = some (ks, vs)) : ∃ a xs, x = .ref a ∧ ks.length = xs.length ∧ H a = some (.dK (ks.zip xs)) ∧ RVs C μ H vs xs := by
  cases v with
  | dct ks' l => cases e; obtain ⟨a, xs, rfl, t, q⟩ := r.dct_inv; exact ⟨a, xs, rfl, t.2.2.1, t.2.2.2, q⟩
  | ref n =>
    obtain ⟨a, rfl, ha⟩ := r.ref_inv
    unfold seqD at e
    dsimp only at e
    split at e
    · rename_i ks' m hm
      cases e
      obtain ⟨xs, e0, _, e1, e2⟩ := rh.obj n _ a hm ha
      exact ⟨a, xs, rfl, e0, e1, e2⟩
    · cases e
  | _ => cases e
def vIxD : POp2 := fun h a b => match seqD h a, keyOf b with
  | some (ks, vs), some k => dGet ks vs k
  | _, _ => none
theorem VIx.or {op op' : POp2} (a : VIx X op) (b : VIx X op') : VIx X (vOr op op') := by
  intro value slice pins s σ H x y v u Q I rx ry hh hs
  obtain ⟨Z, μ, h, p, q, r, rh, rp, rq, ev, o⟩ := hh
  unfold vOr at ev
  cases e : op h p q with
  | some w =>
    rw [e] at ev; cases ev
    exact a value slice pins s σ H x y v u Q I rx ry ⟨Z, μ, h, p, q, _, rh, rp, rq, e, o⟩ hs
  | none =>
    rw [e] at ev
    exact b value slice pins s σ H x y v u Q I rx ry ⟨Z, μ, h, p, q, r, rh, rp, rq, ev, o⟩ hs
theorem VIx.dct (hu : X.A.units + 64 < cLine) : VIx X vIxD := by
  intro value slice pins s σ H x y v u Q I rx ry hh hs
  obtain ⟨Z, μ, h, p, q, r, rh, rp, rq, ev, o⟩ := hh
  unfold vIxD at ev
  split at ev
  · rename_i ks vs k ed ek
    have := key_rv rq ek
    subst this
    obtain ⟨a, xs, rfl, e0, e1, rl⟩ := seqD_ok rh rp ed
    obtain ⟨z, ez, rz⟩ := (dGet_ok (k := k) e0 rl).1 _ ev
    cases (show v = Value.ref a from rx)
    have g : DGet H a (kV k) (some z) := by rw [← ez]; exact DGet.k e1
    exact tail_any (dict_typeIs I g) PySem.F.slot_dict_getitem.lookup (d_getItem (by omega) I g ry fun w' s' I' rw' => ⟨z, H, I', rw', o.val rh rz⟩) hs
  · cases ev
def vIxA : POp2 := vOr vIx vIxD
section
variable {W : WX} {pos p : Pos}
theorem DE.ixA {a b : Expr} {f g : AE} (hu : X.A.units + 64 < cLine) (ha : DE X W a f) (hb : DE X W b g) (hs : PlainIx b := by intro _ _; rfl) : DE X W (.Subscript a b pos) (aBin vIxA f g) :=
  ⟨PE.wk (pe_ix (VIx.seq.or (.dct hu)) ha.pe hb.pe hs) fun σ H Q h => tOp_of h⟩
end
/-- y in a dict -/
def vInD (neg : Bool) : POp2 := fun h a b => match seqD h b, keyOf a with
  | some (ks, vs), some k => some (.bl (if neg = true then !(dGet ks vs k).isSome else (dGet ks vs k).isSome))
  | _, _ => none
theorem isSome_get {C : Ctx} {μ : Mu} {H : Hp} {ks : List Key} {vs : List AV} {xs : List V} {k : Key} (e : ks.length = xs.length) (r : RVs C μ H vs xs) : (valV (ks.zip xs) k).isSome = (dGet ks vs k).isSome := by
  have q := dGet_ok (k := k) e r
  cases ed : dGet ks vs k with
  | none => rw [q.2 ed]; rfl
  | some v => obtain ⟨x, e1, _⟩ := q.1 v ed; rw [e1]; rfl
theorem VOp.inD (hu : X.A.units + 65 < cLine) : VOp X (compareOp .In) (vInD false) := by
  intro pins s σ H x y v u Q I rx ry hh
  obtain ⟨Z, μ, h, p, q, r, rh, rp, rq, ev, o⟩ := hh
  unfold vInD at ev
  split at ev
  · rename_i ks vs k ed ek
    cases ev
    have := key_rv rp ek
    subst this
    obtain ⟨a, xs, rfl, e0, e1, rl⟩ := seqD_ok rh rq ed
    cases (show u = Value.ref a from ry)
    refine d_in (by omega) I (DGet.k e1) rx fun s' I' => ⟨.bl (valV (ks.zip xs) k).isSome, H, I', rfl, o.val rh ?_⟩
    rw [isSome_get e0 rl]
    exact .bl
  · cases ev
theorem VOp.notInD (hu : X.A.units + 65 < cLine) : VOp X (compareOp .NotIn) (vInD true) := by
  intro pins s σ H x y v u Q I rx ry hh
  obtain ⟨Z, μ, h, p, q, r, rh, rp, rq, ev, o⟩ := hh
  unfold vInD at ev
  split at ev
  · rename_i ks vs k ed ek
    cases ev
    have := key_rv rp ek
    subst this
    obtain ⟨a, xs, rfl, e0, e1, rl⟩ := seqD_ok rh rq ed
    cases (show u = Value.ref a from ry)
    refine d_notIn (by omega) I (DGet.k e1) rx fun s' I' => ⟨.bl (!(valV (ks.zip xs) k).isSome), H, I', rfl, o.val rh ?_⟩
    rw [isSome_get e0 rl]
    exact .bl
  · cases ev
def vInA : POp2 := vOr vIn (vOr (vInSet false) (vInD false))
def vNotInA : POp2 := vOr vNotIn (vOr (vInSet true) (vInD true))
theorem VOp.inA (hu : X.A.units + 65 < cLine) : VOp X (compareOp .In) vInA := (VOp.in_ hu).or (VOp.inSet.or (.inD hu))
theorem VOp.notInA (hu : X.A.units + 65 < cLine) : VOp X (compareOp .NotIn) vNotInA := (VOp.notIn hu).or (VOp.notInSet.or (.notInD hu))
def vLenA : PFn := cOr vLen vLenSet
theorem VCall.lenA : VCall X (.builtin "len") vLenA := VCall.len.or .lenSet
end
theorem GV.x {X : Cx} {x : Str} {v : AV} (h : GV X.K X.mg x v) : ∃ u, X.mg x = some u ∧ ∀ Z μ H, ∃ y, RelV y u ∧ RV (cc X Z) μ H v y := let ⟨u, h1, h2⟩ := h; ⟨u, h1, fun Z μ H => h2 _ _ _ _ _ _⟩
end AI
namespace AI
open PySem PySem.Spec PyProof.Rows
open L2

/-! ### what a mirror gives -/
def EnsR {α : Type} (r : Res α) (P : α → AHeap → Prop) : Prop := match r with
  | .ok a h => P a h
  | _ => False
def EnSR (r : SRes) (N : AEnv → AHeap → Prop) (R : AV → AHeap → Prop) (B C : AEnv → AHeap → Prop) : Prop := match r with
  | .nx ρ h => N ρ h
  | .rt v h => R v h
  | .bk ρ h => B ρ h
  | .ct ρ h => C ρ h
  | _ => False
def EnGR (o : Option (AEnv × AHeap)) (N : AEnv → AHeap → Prop) : Prop := match o with
  | some q => N q.1 q.2
  | none => False
section
variable {α β : Type} {ρ : AEnv} {h : AHeap} {P : AV → AHeap → Prop} {N B C : AEnv → AHeap → Prop} {R : AV → AHeap → Prop}
theorem EnsR.mono {r : Res α} {P Q : α → AHeap → Prop} (e : EnsR r P) (k : ∀ a h, P a h → Q a h) : EnsR r Q := by
  cases r with
  | ok a h => exact k a h e
  | exc _ _ => exact e
  | bad => exact e
theorem EnsR.ex {r : Res α} {P : α → AHeap → Prop} (e : EnsR r P) : ∃ a h, r = .ok a h ∧ P a h := by
  cases r with
  | ok a h => exact ⟨a, h, rfl, e⟩
  | exc _ _ => exact e.elim
  | bad => exact e.elim
theorem EnSR.mono {r : SRes} {N' B' C' : AEnv → AHeap → Prop} {R' : AV → AHeap → Prop} (e : EnSR r N R B C) (h1 : ∀ a h, N a h → N' a h) (h2 : ∀ a h, R a h → R' a h) (h3 : ∀ a h, B a h → B' a h) (h4 : ∀ a h, C a h → C' a h) : EnSR r N' R' B' C' := by
  cases r with
  | nx _ _ => exact h1 _ _ e
  | rt _ _ => exact h2 _ _ e
  | bk _ _ => exact h3 _ _ e
  | ct _ _ => exact h4 _ _ e
  | exc _ _ _ => exact e
  | bad => exact e
theorem en_bindQ {r : Res α} {k : α → AHeap → Res β} {P : β → AHeap → Prop} : EnsR (r.bind k) P = EnsR r fun a h => EnsR (k a h) P := by cases r <;> rfl
theorem en_okQ {a : α} {P : α → AHeap → Prop} : EnsR (.ok a h) P = P a h := propext Iff.rfl
theorem en_badQ {P : α → AHeap → Prop} : EnsR (.bad : Res α) P = False := propext Iff.rfl
theorem en_liftQ {o : Option AV} : EnsR (lift1 o h) P = ∃ v, o = some v ∧ P v h := by
  cases o <;> simp [lift1, EnsR]
theorem en_varQ {i : Nat} : EnsR (aVar i ρ h) P = ∃ v, ρ[i]? = some (some v) ∧ P v h := by
  unfold aVar
  split
  · rename_i v e
    simp [e, EnsR]
  · rename_i e
    apply propext
    constructor
    · exact fun z => z.elim
    · rintro ⟨v, e2, _⟩; exact (e v e2).elim
theorem en_cQ {v : AV} : EnsR (aC v ρ h) P = P v h := propext Iff.rfl
theorem en_binQ {op : POp2} {f g : AE} : EnsR (aBin op f g ρ h) P = EnsR (f ρ h) fun a h1 => EnsR (g ρ h1) fun b h2 => ∃ v, op h2 a b = some v ∧ P v h2 := by
  unfold aBin; simp only [en_bindQ, en_liftQ]
theorem en_unQ {op : POp1} {f : AE} : EnsR (aUn op f ρ h) P = EnsR (f ρ h) fun a h1 => ∃ v, op h1 a = some v ∧ P v h1 := by
  unfold aUn; simp only [en_bindQ, en_liftQ]
theorem en_toBQ {v : AV} {P : Bool → AHeap → Prop} : EnsR (toB v h) P = ∃ b, v = .bl b ∧ P b h := by
  cases v <;> simp [toB, EnsR]
theorem en_testQ {f : AE} {P : Bool → AHeap → Prop} : EnsR (aTest f ρ h) P = EnsR (f ρ h) fun v h1 => ∃ b, v = .bl b ∧ P b h1 := by
  unfold aTest; simp only [en_bindQ, en_toBQ]
theorem en_chainQ {op op' : POp2} {f g k : AE} : EnsR (aChain op op' f g k ρ h) P = EnsR (f ρ h) fun a h1 => EnsR (g ρ h1) fun b h2 => ∃ q, op h2 a b = some (.bl q) ∧ (if q = true then EnsR (k ρ h2) fun c h5 => ∃ v, op' h5 b c = some v ∧ P v h5 else P (.bl false) h2) := by
  unfold aChain
  simp only [en_bindQ, en_liftQ, en_toBQ]
  congr 1; funext a h1; congr 1; funext b h2
  apply propext
  constructor
  · rintro ⟨v, e, q, rfl, z⟩
    refine ⟨q, e, ?_⟩
    cases q with
    | true => rw [if_pos rfl] at z ⊢; simpa only [en_bindQ, en_liftQ] using z
    | false => rw [if_neg Bool.false_ne_true] at z ⊢; exact z
  · rintro ⟨q, e, z⟩
    refine ⟨_, e, q, rfl, ?_⟩
    cases q with
    | true => rw [if_pos rfl] at z ⊢; simpa only [en_bindQ, en_liftQ] using z
    | false => rw [if_neg Bool.false_ne_true] at z ⊢; exact z
theorem en_andTQ {f g : AT} {P : Bool → AHeap → Prop} : EnsR (aAndT f g ρ h) P = EnsR (f ρ h) fun b h1 => if b = true then EnsR (g ρ h1) P else P false h1 := by
  unfold aAndT; simp only [en_bindQ]; congr 1; funext b h1; cases b <;> rfl
theorem en_orTQ {f g : AT} {P : Bool → AHeap → Prop} : EnsR (aOrT f g ρ h) P = EnsR (f ρ h) fun b h1 => if b = true then P true h1 else EnsR (g ρ h1) P := by
  unfold aOrT; simp only [en_bindQ]; congr 1; funext b h1; cases b <;> rfl
theorem en_notTQ {f : AT} {P : Bool → AHeap → Prop} : EnsR (aNotT f ρ h) P = EnsR (f ρ h) fun b h1 => P (!b) h1 := by
  unfold aNotT; simp only [en_bindQ, en_okQ]
theorem en_andQ {f g : AE} : EnsR (aAnd f g ρ h) P = EnsR (f ρ h) fun v h1 => ∃ b, v = .bl b ∧ (if b = true then EnsR (g ρ h1) P else P (.bl false) h1) := by
  unfold aAnd; simp only [en_bindQ, en_toBQ]; congr 1; funext v h1; apply propext
  constructor
  · rintro ⟨b, rfl, z⟩; refine ⟨b, rfl, ?_⟩; cases b <;> exact z
  · rintro ⟨b, rfl, z⟩; refine ⟨b, rfl, ?_⟩; cases b <;> exact z
theorem en_orQ {f g : AE} : EnsR (aOr f g ρ h) P = EnsR (f ρ h) fun v h1 => ∃ b, v = .bl b ∧ (if b = true then P (.bl true) h1 else EnsR (g ρ h1) P) := by
  unfold aOr; simp only [en_bindQ, en_toBQ]; congr 1; funext v h1; apply propext
  constructor
  · rintro ⟨b, rfl, z⟩; refine ⟨b, rfl, ?_⟩; cases b <;> exact z
  · rintro ⟨b, rfl, z⟩; refine ⟨b, rfl, ?_⟩; cases b <;> exact z
theorem en_notQ {f : AE} : EnsR (aNot f ρ h) P = EnsR (f ρ h) fun v h1 => ∃ b, v = .bl b ∧ P (.bl (!b)) h1 := by
  unfold aNot; simp only [en_bindQ, en_toBQ, en_okQ]
theorem en_ifQ {t : AT} {f g : AE} : EnsR (aIf t f g ρ h) P = EnsR (t ρ h) fun b h1 => if b = true then EnsR (f ρ h1) P else EnsR (g ρ h1) P := by
  unfold aIf; simp only [en_bindQ]; congr 1; funext b h1; cases b <;> rfl
theorem en_nilQ {P : List AV → AHeap → Prop} : EnsR (aNil ρ h) P = P [] h := propext Iff.rfl
theorem en_consQ {f : AE} {g : AA} {P : List AV → AHeap → Prop} : EnsR (aCons f g ρ h) P = EnsR (f ρ h) fun v h1 => EnsR (g ρ h1) fun l h2 => P (v :: l) h2 := by
  unfold aCons; simp only [en_bindQ, en_okQ]
theorem en_iteQ {c : Prop} [Decidable c] {a b : Res α} {P : α → AHeap → Prop} : EnsR (if c then a else b) P = if c then EnsR a P else EnsR b P := by
  split <;> rfl
theorem en_tupQ {g : AA} : EnsR (aTup g ρ h) P = EnsR (g ρ h) fun l h1 => szOk l = true ∧ P (.tup l) h1 := by
  unfold aTup; simp only [en_bindQ]; congr 1; funext l h1
  by_cases hs : szOk l = true <;> simp [hs, EnsR]
theorem en_listQ {g : AA} {P : List AV → AHeap → Prop} : EnsR (aList g ρ h) P = EnsR (g ρ h) fun l h1 => szOk l = true ∧ P l h1 := by
  unfold aList; simp only [en_bindQ]; congr 1; funext l h1
  by_cases hs : szOk l = true <;> simp [hs, EnsR]
theorem en_pureLQ {g : AA} : EnsR (pureL g ρ h) P = EnsR (g ρ h) fun l h1 => P (.lst l) h1 := by
  unfold pureL; simp only [en_bindQ, en_okQ]
theorem en_newLQ {g : AA} : EnsR (newL g ρ h) P = EnsR (g ρ h) fun l h1 => P (.ref h1.length) (h1 ++ [.list l]) := by
  unfold newL; simp only [en_bindQ, en_okQ]
theorem en_fnQ {op : PFn} {f : AA} : EnsR (aFn op f ρ h) P = EnsR (f ρ h) fun l h1 => ∃ v, op h1 l = some v ∧ P v h1 := by
  unfold aFn; simp only [en_bindQ, en_liftQ]
theorem en_callQ {m : MF} {f : AA} : EnsR (aCall m f ρ h) P = EnsR (f ρ h) fun l h1 => EnsR (m l h1) P := by
  unfold aCall; simp only [en_bindQ]
theorem en_callKQ {m : MF} {n k : Nat} {arr : List AV → List AV → List AV} {f g : AA} : EnsR (aCallK m n k arr f g ρ h) P = EnsR (f ρ h) fun l h1 => EnsR (g ρ h1) fun r h2 => (l.length = n ∧ r.length = k) ∧ EnsR (m (arr l r) h2) P := by
  unfold aCallK; simp only [en_bindQ]; congr 1; funext l h1; congr 1; funext r h2
  by_cases hs : l.length = n ∧ r.length = k <;> simp [hs, EnsR]
theorem en_methSQ {op : PMs} {f : AE} {g : AA} : EnsR (aMethS op f g ρ h) P = EnsR (f ρ h) fun o h1 => ∃ s, o = .str s ∧ EnsR (g ρ h1) fun l h2 => ∃ v, op s h2 l = some v ∧ P v h2 := by
  unfold aMethS; simp only [en_bindQ]; congr 1; funext o h1
  cases o with
  | str s =>
    dsimp only
    apply propext
    rw [en_bindQ]
    simp only [en_liftQ]
    constructor
    · intro z; exact ⟨s, rfl, z⟩
    · rintro ⟨t, e, z⟩; cases e; exact z
  | _ => simp [EnsR]
theorem en_oNQ {P : Option Int → AHeap → Prop} : EnsR (aoN ρ h) P = P none h := propext Iff.rfl
theorem en_oSQ {f : AE} {P : Option Int → AHeap → Prop} : EnsR (aoS f ρ h) P = EnsR (f ρ h) fun v h1 => ∃ i, v = .int i ∧ P (some i) h1 := by
  unfold aoS; simp only [en_bindQ]; congr 1; funext v h1
  cases v <;> simp [EnsR]
theorem en_slQ {f : AE} {l u : AO1} : EnsR (aSl f l u ρ h) P = EnsR (f ρ h) fun a h1 => EnsR (l ρ h1) fun i h2 => EnsR (u ρ h2) fun j h3 => ∃ v, vSl h3 a i j = some v ∧ P v h3 := by
  unfold aSl; simp only [en_bindQ, en_liftQ]
theorem en_rng1Q {f : AA} {P : List AV → AHeap → Prop} : EnsR (aRng1 f ρ h) P = EnsR (f ρ h) fun l h1 => ∃ j, l = [.int j] ∧ inR j = true ∧ P (iInts 0 j.toNat) h1 := by
  unfold aRng1; simp only [en_bindQ]; congr 1; funext l h1
  apply propext
  constructor
  · intro z
    split at z
    · rename_i j
      by_cases hs : inR j = true
      · rw [if_pos hs] at z; exact ⟨j, rfl, hs, z⟩
      · rw [if_neg hs] at z; exact z.elim
    · exact z.elim
  · rintro ⟨j, rfl, hs, z⟩
    simp only [hs, if_true]; exact z
theorem en_iterQ {f : AE} {P : List AV → AHeap → Prop} : EnsR (aIter f ρ h) P = EnsR (f ρ h) fun v h1 => ∃ l, itemsOf v = some l ∧ P l h1 := by
  unfold aIter; simp only [en_bindQ]; congr 1; funext v h1
  cases itemsOf v <;> simp [EnsR]
theorem en_lcQ {fi : AA} {g : AG} {t : AT} {fe : AE} {vs : List Nat} {P : List AV → AHeap → Prop} : EnsR (aLc fi g t fe vs ρ h) P = EnsR (fi ρ h) fun l h1 => szOk l = true ∧ EnsR (lcL g t fe l (wipeA ρ vs) h1) P := by
  unfold aLc; simp only [en_bindQ]; congr 1; funext l h1
  by_cases hs : szOk l = true <;> simp [hs, EnsR]
/-! statements -/
theorem es_ofQ {r : Res α} {k : α → AHeap → SRes} : EnSR (.ofRes ρ r k) N R B C = EnsR r fun a h => EnSR (k a h) N R B C := by cases r <;> rfl
theorem es_seqQ {f g : AS} : EnSR (aSeq f g ρ h) N R B C = EnSR (f ρ h) (fun ρ1 h1 => EnSR (g ρ1 h1) N R B C) R B C := by
  unfold aSeq; cases f ρ h <;> rfl
theorem es_skipQ : EnSR (aSkip ρ h) N R B C = N ρ h := propext Iff.rfl
theorem es_retQ {f : AE} : EnSR (aRet f ρ h) N R B C = EnsR (f ρ h) R := by unfold aRet; rw [es_ofQ]; rfl
theorem es_retNQ : EnSR (aRetN ρ h) N R B C = R .non h := propext Iff.rfl
theorem es_ifQ {t : AT} {f g : AS} : EnSR (aIfS t f g ρ h) N R B C = EnsR (t ρ h) fun b h1 => if b = true then EnSR (f ρ h1) N R B C else EnSR (g ρ h1) N R B C := by
  unfold aIfS; rw [es_ofQ]; congr 1; funext b h1; cases b <;> rfl
theorem es_asgQ {f : AE} {g : AG} : EnSR (aAsg f g ρ h) N R B C = EnsR (f ρ h) fun v h1 => EnGR (g v ρ h1) N := by
  unfold aAsg; rw [es_ofQ]; congr 1; funext v h1
  cases g v ρ h1 <;> rfl
theorem eg_nameQ {i : Nat} {v : AV} : EnGR (agName i v ρ h) N = N (ρ.set i (some v)) h := propext Iff.rfl
theorem eg_nilQ {l : List AV} : EnGR (agNil l ρ h) N = (l = [] ∧ N ρ h) := by cases l <;> simp [agNil, EnGR]
theorem eg_consQ {g : AG} {gs : AGs} {l : List AV} : EnGR (agCons g gs l ρ h) N = ∃ v r, l = v :: r ∧ EnGR (g v ρ h) fun ρ1 h1 => EnGR (gs r ρ1 h1) N := by
  cases l with
  | nil => simp [agCons, EnGR]
  | cons v r =>
    apply propext
    constructor
    · intro z
      refine ⟨v, r, rfl, ?_⟩
      unfold agCons at z
      dsimp only at z
      cases e : g v ρ h with
      | none => rw [e] at z; exact z
      | some q => rw [e] at z; exact z
    · rintro ⟨v', r', e, z⟩
      cases e
      unfold agCons
      dsimp only
      cases e : g v ρ h with
      | none => rw [e] at z; exact z
      | some q => rw [e] at z; exact z
theorem eg_tupQ {n : Nat} {gs : AGs} {v : AV} : EnGR (agTup n gs v ρ h) N = ∃ l, v = .tup l ∧ l.length = n ∧ EnGR (gs l ρ h) N := by
  cases v with
  | tup l =>
    unfold agTup
    dsimp only
    by_cases hl : l.length = n
    · simp [hl]
    · simp [hl, EnGR]
  | _ => simp [agTup, EnGR]
theorem eg_subQ {f k : AE} {v : AV} : EnGR (agSub f k v ρ h) N = EnsR (f ρ h) fun o h1 => EnsR (k ρ h1) fun i h2 => ∃ n q l j, o = .ref n ∧ i = .int q ∧ h2[n]? = some (.list l) ∧ ixN l.length q = some j ∧ N ρ (h2.set n (.list (l.set j v))) := by
  unfold agSub
  cases f ρ h with
  | bad => rfl
  | exc _ _ => rfl
  | ok o h1 =>
    cases o with
    | ref n =>
      dsimp only
      cases ek : k ρ h1 with
      | bad => simp only [EnsR, EnGR, ek]
      | exc _ _ => simp only [EnsR, EnGR, ek]
      | ok i h2 =>
        cases i with
        | int q =>
          simp only [EnsR, ek]
          apply propext
          constructor
          · intro z
            cases ho : h2[n]? with
            | none => rw [ho] at z; exact z.elim
            | some o =>
              rw [ho] at z
              cases o with
              | list l =>
                dsimp only at z
                cases ej : ixN l.length q with
                | none => rw [ej] at z; exact z.elim
                | some j => rw [ej] at z; exact ⟨n, q, l, j, rfl, rfl, ho, ej, z⟩
              | set _ => exact z.elim
              | dct _ _ => exact z.elim
          · rintro ⟨n', q', l, j, e1, e2, el, ej, z⟩
            cases e1; cases e2
            rw [el]; dsimp only; rw [ej]; exact z
        | _ => simp [EnsR, EnGR, ek]
    | _ =>
      simp only [EnsR, EnGR]
      apply propext
      constructor
      · exact fun z => z.elim
      · intro z
        cases ek : k ρ h1 with
        | bad => rw [ek] at z; exact z
        | exc _ _ => rw [ek] at z; exact z
        | ok i h2 => rw [ek] at z; obtain ⟨_, _, _, _, e, _⟩ := z; cases e
theorem es_par2Q {i j : Nat} {f : AA} : EnSR (aPar2 i j f ρ h) N R B C = EnsR (f ρ h) fun l h1 => ∃ a b, l = [a, b] ∧ N ((ρ.set i (some a)).set j (some b)) h1 := by
  unfold aPar2; rw [es_ofQ]; congr 1; funext l h1
  apply propext
  constructor
  · intro z
    split at z
    · rename_i a b; exact ⟨a, b, rfl, z⟩
    · exact z.elim
  · rintro ⟨a, b, rfl, z⟩; exact z
theorem es_forQ {f : AA} {g : AG} {b : AS} : EnSR (aFor f g b ρ h) N R B C = EnsR (f ρ h) fun l h1 => EnSR (loopS g b l ρ h1) N R B C := by
  unfold aFor; rw [es_ofQ]
/-- one statement, then the rest -/
theorem es_cutQ {f g : AS} (M : AEnv → AHeap → Prop) (a : EnSR (f ρ h) M R B C) (b : ∀ ρ1 h1, M ρ1 h1 → EnSR (g ρ1 h1) N R B C) : EnSR (aSeq f g ρ h) N R B C := by
  rw [es_seqQ]; exact a.mono b (fun _ _ z => z) (fun _ _ z => z) (fun _ _ z => z)
/-- a loop by an invariant over what is left -/
theorem es_loopQ {g : AG} {b : AS} (I : List AV → AEnv → AHeap → Prop) (hs : ∀ v r ρ h, I (v :: r) ρ h → EnGR (g v ρ h) fun ρ1 h1 => EnSR (b ρ1 h1) (fun ρ2 h2 => I r ρ2 h2) R N (fun ρ2 h2 => I r ρ2 h2)) (he : ∀ ρ h, I [] ρ h → N ρ h) :
    ∀ {l : List AV} {ρ : AEnv} {h : AHeap}, I l ρ h → EnSR (loopS g b l ρ h) N R B C
  | [], ρ, h, i => he ρ h i
  | v :: r, ρ, h, i => by
    have z := hs v r ρ h i
    unfold loopS
    cases e : g v ρ h with
    | none => rw [e] at z; exact z.elim
    | some q =>
    rw [e] at z
    have z : EnSR (b q.1 q.2) (fun ρ2 h2 => I r ρ2 h2) R N (fun ρ2 h2 => I r ρ2 h2) := z
    dsimp only
    cases eb : b q.1 q.2 with
    | nx ρ2 h2 => rw [eb] at z; exact es_loopQ I hs he z
    | ct ρ2 h2 => rw [eb] at z; exact es_loopQ I hs he z
    | bk ρ2 h2 => rw [eb] at z; exact z
    | rt v h2 => rw [eb] at z; exact z
    | exc x ρ2 h2 => rw [eb] at z; exact z
    | bad => rw [eb] at z; exact z
/-- a def -/
theorem en_defQ {gc : Bool} {np nl : Nat} {b : AS} {as : List AV} (hl : as.length = np) (z : EnSR (b (as.map some ++ List.replicate (nl - np) none) h) (fun _ h' => h'.length ≤ h.length ∧ P .non h') (fun v h' => h'.length ≤ h.length ∧ P v h') (fun _ _ => False) (fun _ _ => False)) :
    EnsR (aDef gc np nl b as h) P := by
  unfold aDef
  rw [if_pos hl]
  have keep : ∀ {v : AV} {h' : AHeap}, h'.length ≤ h.length → P v h' → EnsR (gcIf gc h.length (.ok v h')) P := fun {v h'} hh p => by
    cases gc with
    | true => show EnsR (gcRes h.length (.ok v h')) P; unfold gcRes; dsimp only; rw [if_pos hh]; exact p
    | false => exact p
  cases eb : b (as.map some ++ List.replicate (nl - np) none) h with
  | nx ρ2 h2 => rw [eb] at z; exact keep z.1 z.2
  | rt v h2 => rw [eb] at z; exact keep z.1 z.2
  | ct ρ2 h2 => rw [eb] at z; exact z.elim
  | bk ρ2 h2 => rw [eb] at z; exact z.elim
  | exc x ρ2 h2 => rw [eb] at z; exact z.elim
  | bad => rw [eb] at z; exact z.elim
/-- a def that leaves objects behind, its answer known -/
theorem en_defGQ {np nl : Nat} {b : AS} {as : List AV} (hl : as.length = np) (z : EnSR (b (as.map some ++ List.replicate (nl - np) none) h) (fun _ _ => False) (fun v h' => EnsR (gcRes h.length (.ok v h')) P) (fun _ _ => False) (fun _ _ => False)) :
    EnsR (aDef true np nl b as h) P := by
  unfold aDef
  rw [if_pos hl]
  cases eb : b (as.map some ++ List.replicate (nl - np) none) h with
  | nx ρ2 h2 => rw [eb] at z; exact z.elim
  | rt v h2 => rw [eb] at z; exact z
  | ct ρ2 h2 => rw [eb] at z; exact z.elim
  | bk ρ2 h2 => rw [eb] at z; exact z.elim
  | exc x ρ2 h2 => rw [eb] at z; exact z.elim
  | bad => rw [eb] at z; exact z.elim
/-- a def that does not build, leaves nothing -/
theorem en_def0Q {np nl : Nat} {b : AS} {as : List AV} (hl : as.length = np) (z : EnSR (b (as.map some ++ List.replicate (nl - np) none) h) (fun _ h' => P .non h') (fun v h' => P v h') (fun _ _ => False) (fun _ _ => False)) :
    EnsR (aDef false np nl b as h) P := by
  unfold aDef
  rw [if_pos hl]
  cases eb : b (as.map some ++ List.replicate (nl - np) none) h with
  | nx ρ2 h2 => rw [eb] at z; exact z
  | rt v h2 => rw [eb] at z; exact z
  | ct ρ2 h2 => rw [eb] at z; exact z.elim
  | bk ρ2 h2 => rw [eb] at z; exact z.elim
  | exc x ρ2 h2 => rw [eb] at z; exact z.elim
  | bad => rw [eb] at z; exact z.elim
/-- a comprehension without a test: each element by an invariant of the heap -/
theorem en_lcLQ {g : AG} {fe : AE} {ρ : AEnv} (I : AHeap → Prop) (Y : AV → Prop) : ∀ {l : List AV} {h : AHeap} {P : List AV → AHeap → Prop}, (∀ v ∈ l, ∀ h, I h → ∃ ρ1, g v ρ h = some (ρ1, h) ∧ EnsR (fe ρ1 h) fun y h' => Y y ∧ I h') → I h →
    (∀ ys h', ys.length = l.length → (∀ y ∈ ys, Y y) → I h' → P ys h') → EnsR (lcL g aYes fe l ρ h) P
  | [], h, P, _, hi, hp => hp [] h rfl (by simp) hi
  | v :: r, h, P, hs, hi, hp => by
    obtain ⟨ρ1, e, z⟩ := hs v (List.mem_cons_self ..) h hi
    obtain ⟨y, h3, e3, hy, hi3⟩ := z.ex
    unfold lcL
    rw [e]
    dsimp only
    unfold aYes
    dsimp only
    rw [e3]
    dsimp only
    have q := en_lcLQ (g := g) (fe := fe) (ρ := ρ) I Y (l := r) (h := h3) (P := fun ys h' => P (y :: ys) h') (fun v hv => hs v (List.mem_cons_of_mem _ hv)) hi3 (fun ys h' hl hY hI => hp (y :: ys) h' (by simp [hl]) (fun z hz => by
      rcases List.mem_cons.mp hz with e | e
      · rw [e]; exact hy
      · exact hY z e) hI)
    obtain ⟨ys, h4, e4, p4⟩ := q.ex
    have e4 : lcL g aYes fe r ρ h3 = .ok ys h4 := e4
    unfold aYes at e4
    rw [e4]
    exact p4
/-- a comprehension whose elements change nothing -/
theorem lcL_map {g : AG} {fe : AE} {ρ : AEnv} {h : AHeap} (F : AV → AV) : ∀ {l : List AV}, (∀ v ∈ l, ∃ ρ1, g v ρ h = some (ρ1, h) ∧ fe ρ1 h = .ok (F v) h) → lcL g aYes fe l ρ h = .ok (l.map F) h
  | [], _ => rfl
  | v :: r, hs => by
    obtain ⟨ρ1, e, z⟩ := hs v (List.mem_cons_self ..)
    have q := lcL_map F (l := r) fun v hv => hs v (List.mem_cons_of_mem _ hv)
    unfold lcL
    rw [e]
    dsimp only
    have : aYes ρ1 h = .ok true h := rfl
    rw [this]
    dsimp only
    rw [z]
    dsimp only
    rw [q]
    rfl
theorem EnsR.eq {r : Res α} {a : α} {h : AHeap} (e : EnsR r fun b h' => b = a ∧ h' = h) : r = .ok a h := by
  obtain ⟨b, h', e2, rfl, rfl⟩ := e.ex
  exact e2
end
/-! ### operators at values -/
section
variable {h : AHeap}
theorem vAdd_ii {i j : Int} : vAdd h (.int i) (.int j) = some (.int (i + j)) := rfl
theorem vAdd_ss {s t : List Nat} : vAdd h (.str s) (.str t) = if decide (s.length + t.length ≤ szM) = true then some (.str (s ++ t)) else none := by
  show (match vAddStr h (.str s) (.str t) with | some v => some v | none => _) = _
  unfold vAddStr
  dsimp only
  by_cases hc : decide (s.length + t.length ≤ szM) = true
  · rw [if_pos hc]
  · rw [if_neg hc]; rfl
theorem vAdd_ll {l m : List AV} : vAdd h (.lst l) (.lst m) = if decide (l.length + m.length ≤ szM) = true then some (.lst (l ++ m)) else none := rfl
theorem vSub_ii {i j : Int} : vSub h (.int i) (.int j) = some (.int (i - j)) := rfl
theorem vMul_ii {i j : Int} : vMul h (.int i) (.int j) = if cMul i j = true then some (.int (i * j)) else none := rfl
theorem vDiv_ii {i j : Int} : vDiv h (.int i) (.int j) = if cDiv i j = true then some (.int (i / j)) else none := rfl
theorem vMod_ii {i j : Int} : vMod h (.int i) (.int j) = if cMod i j = true then some (.int (i % j)) else none := rfl
theorem vLt_ii {i j : Int} : vLt h (.int i) (.int j) = some (.bl (decide (i < j))) := rfl
theorem vLe_ii {i j : Int} : vLe h (.int i) (.int j) = some (.bl (decide (i ≤ j))) := rfl
theorem vGt_ii {i j : Int} : vGt h (.int i) (.int j) = some (.bl (decide (j < i))) := rfl
theorem vGe_ii {i j : Int} : vGe h (.int i) (.int j) = some (.bl (decide (j ≤ i))) := rfl
theorem vEq_ii {i j : Int} : vEq h (.int i) (.int j) = some (.bl (decide (i = j))) := by
  show some (AV.bl (decide (V.int i = V.int j))) = _
  simp
theorem vEq_ss {s t : List Nat} : vEq h (.str s) (.str t) = some (.bl (decide (s = t))) := by
  show some (AV.bl (decide (V.str ⟨s.toArray⟩ = V.str ⟨t.toArray⟩))) = _
  simp
theorem vNe_ii {i j : Int} : vNe h (.int i) (.int j) = some (.bl (!decide (i = j))) := by
  show some (AV.bl (!decide (V.int i = V.int j))) = _
  simp
theorem vNe_ss {s t : List Nat} : vNe h (.str s) (.str t) = some (.bl (!decide (s = t))) := by
  show some (AV.bl (!decide (V.str ⟨s.toArray⟩ = V.str ⟨t.toArray⟩))) = _
  simp
theorem vIx_t {l : List AV} {i : Int} : vIx h (.tup l) (.int i) = atI l i := rfl
theorem vIx_l {l : List AV} {i : Int} : vIx h (.lst l) (.int i) = atI l i := rfl
theorem vIx_s {s : List Nat} {i : Int} : vIx h (.str s) (.int i) = if decide (s.length ≤ szM) = true then (atI s i).map fun c => .str [c] else none := rfl
theorem vIx_r {n : Nat} {i : Int} : vIx h (.ref n) (.int i) = match h[n]? with
    | some (.list l) => atI l i
    | _ => none := by
  show (match seqL h (.ref n) with | some l => atI l i | none => none) = _
  unfold seqL
  dsimp only
  cases h[n]? with
  | none => rfl
  | some o => cases o <;> rfl
theorem vLen_s {s : List Nat} : vLen h [.str s] = if decide (s.length ≤ szM) = true then some (.int s.length) else none := rfl
theorem vLen_t {l : List AV} : vLen h [.tup l] = some (.int l.length) := rfl
theorem vLen_l {l : List AV} : vLen h [.lst l] = some (.int l.length) := rfl
theorem vLen_r {n : Nat} : vLen h [.ref n] = match h[n]? with
    | some (.list l) => some (.int l.length)
    | _ => none := by
  show (match seqL h (.ref n) with | some l => some (AV.int l.length) | none => none) = _
  unfold seqL
  dsimp only
  cases h[n]? with
  | none => rfl
  | some o => cases o <;> rfl
theorem vIsi_v {v : AV} {t : Tag} {a : Tag} (ht : t ≠ .non) (e : tagOf h v = some a) : vIsi h [v, .ty t] = some (.bl (isT a t)) := by
  unfold vIsi
  simp only [ht, if_false, e]
theorem atI_0 {α : Type} {x : α} {l : List α} : atI (x :: l) 0 = some x := by
  show atI (x :: l) ((0 : Nat) : Int) = some x
  exact atI_nat rfl
theorem atI_nat' {α : Type} {l : List α} {i : Int} (h0 : 0 ≤ i) (h1 : i < l.length) : ∃ v, atI l i = some v ∧ v ∈ l := by
  obtain ⟨j, rfl⟩ := Int.eq_ofNat_of_zero_le h0
  have hj : j < l.length := by omega
  exact ⟨l[j], atI_nat (List.getElem?_eq_getElem hj), List.getElem_mem hj⟩
end
end AI
namespace AI
open PySem PySem.Spec PyProof.Rows
open L2

/-! ### closed values -/
mutual
theorem closed_mono {a b : Nat} (hab : a ≤ b) : ∀ {v : AV}, v.closed a = true → v.closed b = true
  | .non, _ => rfl
  | .bl _, _ => rfl
  | .int _, _ => rfl
  | .str _, _ => rfl
  | .tup l, c => by unfold AV.closed at c ⊢; exact closeds_mono hab c
  | .lst l, c => by unfold AV.closed at c ⊢; exact closeds_mono hab c
  | .dct _ l, c => by unfold AV.closed at c ⊢; exact closeds_mono hab c
  | .ref n, c => by
    unfold AV.closed at c ⊢
    exact decide_eq_true (Nat.lt_of_lt_of_le (of_decide_eq_true c) hab)
  | .ty _, _ => rfl
  | .gl _, _ => rfl
  | .exn _ _ l, c => by unfold AV.closed at c ⊢; exact closeds_mono hab c
  | .ins _ _ l, c => by unfold AV.closed at c ⊢; exact closeds_mono hab c
theorem closeds_mono {a b : Nat} (hab : a ≤ b) : ∀ {l : List AV}, AV.closeds a l = true → AV.closeds b l = true
  | [], _ => rfl
  | v :: l, c => by
    have c' : v.closed a = true ∧ AV.closeds a l = true := by simpa [AV.closeds] using c
    simp [AV.closeds, closed_mono hab c'.1, closeds_mono hab c'.2]
end
theorem closeds_all {b : Nat} : ∀ {l : List AV}, (∀ v ∈ l, v.closed b = true) → AV.closeds b l = true
  | [], _ => rfl
  | v :: l, c => by
    simp [AV.closeds, c v (List.mem_cons_self ..), closeds_all fun x hx => c x (List.mem_cons_of_mem _ hx)]
theorem closeds_mem {b : Nat} : ∀ {l : List AV}, AV.closeds b l = true → ∀ v ∈ l, v.closed b = true
  | [], _, v, hv => by cases hv
  | w :: l, c, v, hv => by
    have c' : w.closed b = true ∧ AV.closeds b l = true := by simpa [AV.closeds] using c
    rcases List.mem_cons.mp hv with e | e
    · rw [e]; exact c'.1
    · exact closeds_mem c'.2 v e
theorem ao_mono {a b : Nat} (hab : a ≤ b) {o : AO} (c : o.closed a = true) : o.closed b = true := by
  cases o with
  | list l => exact closeds_mono hab c
  | set ks => rfl
  | dct ks l => exact closeds_mono hab c

/-! ### the heap holds b purses, then e -/
def HI (e : AHeap) (b : Nat) (h : AHeap) : Prop := ∃ hp, h = hp ++ e ∧ hp.length = b ∧ ∀ o ∈ hp, ∃ a d t : Int, o = AO.list [.int a, .int d, .int t] ∧ 0 ≤ d
section
variable {e e' : AHeap} {b : Nat}
theorem HI.at {h : AHeap} {n : Nat} (hh : HI e b h) (hn : n < b) : ∃ a d t : Int, h[n]? = some (AO.list [.int a, .int d, .int t]) ∧ 0 ≤ d := by
  obtain ⟨hp, rfl, rfl, q⟩ := hh
  obtain ⟨a, d, t, e, hd⟩ := q hp[n] (List.getElem_mem hn)
  exact ⟨a, d, t, by rw [List.getElem?_append_left hn, List.getElem?_eq_getElem hn, e], hd⟩
theorem HI.set {h : AHeap} {n : Nat} {a d t : Int} (hh : HI e b h) (hn : n < b) (hd : 0 ≤ d) : HI e b (h.set n (AO.list [.int a, .int d, .int t])) := by
  obtain ⟨hp, rfl, rfl, q⟩ := hh
  refine ⟨hp.set n (AO.list [.int a, .int d, .int t]), ?_, by simp, fun o ho => ?_⟩
  · rw [List.set_append_left _ _ hn]
  · rcases List.mem_or_eq_of_mem_set ho with z | z
    · exact q o z
    · exact ⟨a, d, t, z, hd⟩
theorem HI.len {h : AHeap} (hh : HI e b h) : h.length = b + e.length := by
  obtain ⟨hp, rfl, rfl, q⟩ := hh
  simp
theorem HI.push {h : AHeap} (hh : HI e b h) (e' : AHeap) : HI (e ++ e') b (h ++ e') := by
  obtain ⟨hp, rfl, h1, q⟩ := hh
  exact ⟨hp, by simp, h1, q⟩
theorem HI.atE {h : AHeap} {n i : Nat} (hh : HI e b h) (hi : n = b + i) : h[n]? = e[i]? := by
  obtain ⟨hp, rfl, rfl, q⟩ := hh
  subst hi
  rw [List.getElem?_append_right (by omega)]
  congr 1; omega
theorem HI.setE {h : AHeap} {n i : Nat} {o : AO} (hh : HI e b h) (hi : n = b + i) : HI (e.set i o) b (h.set n o) := by
  obtain ⟨hp, rfl, rfl, q⟩ := hh
  subst hi
  refine ⟨hp, ?_, rfl, q⟩
  rw [List.set_append_right _ _ (by omega)]
  congr 2; omega
theorem HI.cut {h : AHeap} (hh : HI (e ++ e') b h) : HI e b (h.take (b + e.length)) := by
  obtain ⟨hp, rfl, rfl, q⟩ := hh
  refine ⟨hp, ?_, rfl, q⟩
  rw [← List.append_assoc, List.take_append_of_le_length (by simp), List.take_of_length_le (by simp)]
theorem HI.closed {h : AHeap} {k : Nat} (hh : HI e b h) (hc : e.all (AO.closed 0) = true) : h.all (AO.closed k) = true := by
  obtain ⟨hp, rfl, rfl, q⟩ := hh
  rw [List.all_append, Bool.and_eq_true]
  refine ⟨List.all_eq_true.mpr fun o ho => ?_, List.all_eq_true.mpr fun o ho => ao_mono (Nat.zero_le _) (List.all_eq_true.mp hc o ho)⟩
  obtain ⟨a, d, t, e, _⟩ := q o ho
  rw [e]; rfl
end
/-- what a def's answer v is to its caller: itself, or the list it stands for -/
def Sees (h' : AHeap) (n0 : Nat) (v w : AV) : Prop := (v = w ∧ v.closed 0 = true) ∨ ∃ n l, v = .ref n ∧ n0 ≤ n ∧ h'[n]? = some (.list l) ∧ AV.closeds 0 l = true ∧ w = .lst l
theorem Sees.pure {h' : AHeap} {n0 : Nat} {v : AV} (c : v.closed 0 = true) : Sees h' n0 v v := .inl ⟨rfl, c⟩
theorem Sees.list {h' : AHeap} {n0 n : Nat} {l : List AV} (hn : n0 ≤ n) (e : h'[n]? = some (.list l)) (c : AV.closeds 0 l = true) : Sees h' n0 (.ref n) (.lst l) := .inr ⟨n, l, rfl, hn, e, c, rfl⟩
theorem gc_seesQ {e e' : AHeap} {b : Nat} {h h' : AHeap} {v w : AV} {P : AV → AHeap → Prop} (hc : e.all (AO.closed 0) = true) (hh : HI e b h) (h1 : HI (e ++ e') b h') (s : Sees h' h.length v w) (k : ∀ h2, HI e b h2 → P w h2) :
    EnsR (gcRes h.length (.ok v h')) P := by
  have hl := hh.len
  have hl' := h1.len
  unfold gcRes
  dsimp only
  by_cases hle : h'.length ≤ h.length
  · rw [if_pos hle]
    have : e' = [] := List.eq_nil_of_length_eq_zero (by rw [List.length_append] at hl'; omega)
    subst this
    rw [List.append_nil] at h1
    rcases s with ⟨rfl, _⟩ | ⟨n, l, rfl, hn, e1, _⟩
    · exact k _ h1
    · have := (List.getElem?_eq_some_iff.mp e1).1
      omega
  · rw [if_neg hle]
    have cv : convV h' h.length v = some w := by
      unfold convV
      rcases s with ⟨rfl, c⟩ | ⟨n, l, rfl, hn, e1, c, rfl⟩
      · have : convOne h' h.length v = some v := by
          unfold convOne
          cases v with
          | ref n => simp [AV.closed] at c
          | _ => dsimp only; rw [if_pos (closed_mono (Nat.zero_le _) c)]
        rw [this]
      · have : convOne h' h.length (.ref n) = some (.lst l) := by
          unfold convOne
          dsimp only
          rw [if_neg (by omega), e1]
          dsimp only
          rw [if_pos (closeds_mono (Nat.zero_le _) c)]
        rw [this]
    have h2 : HI e b (h'.take h.length) := by rw [hl]; exact h1.cut
    rw [cv]
    dsimp only
    rw [if_pos (h2.closed hc)]
    exact k _ h2
/-- a def over b purses and e: what it builds is forgotten -/
theorem en_defHQ {np nl : Nat} {b : AS} {as : List AV} {e : AHeap} {bb : Nat} {h : AHeap} {P : AV → AHeap → Prop} (hl : as.length = np) (hc : e.all (AO.closed 0) = true) (hh : HI e bb h)
    (z : EnSR (b (as.map some ++ List.replicate (nl - np) none) h) (fun _ h' => ∃ e', HI (e ++ e') bb h' ∧ ∀ h2, HI e bb h2 → P .non h2) (fun v h' => ∃ e' w, HI (e ++ e') bb h' ∧ Sees h' h.length v w ∧ ∀ h2, HI e bb h2 → P w h2) (fun _ _ => False) (fun _ _ => False)) :
    EnsR (aDef true np nl b as h) P := by
  unfold aDef
  rw [if_pos hl]
  cases eb : b (as.map some ++ List.replicate (nl - np) none) h with
  | nx ρ2 h2 => rw [eb] at z; obtain ⟨e', h1, k⟩ := z; exact gc_seesQ hc hh h1 (.pure rfl) k
  | rt v h2 => rw [eb] at z; obtain ⟨e', w, h1, s, k⟩ := z; exact gc_seesQ hc hh h1 s k
  | ct ρ2 h2 => rw [eb] at z; exact z.elim
  | bk ρ2 h2 => rw [eb] at z; exact z.elim
  | exc x ρ2 h2 => rw [eb] at z; exact z.elim
  | bad => rw [eb] at z; exact z.elim

/-! ### more rules -/
def seqX (h : AHeap) (v : AV) : Option (List AV) := match seqT v with
  | some l => some l
  | none => seqL h v
section
variable {α β : Type} {ρ : AEnv} {h : AHeap} {P : AV → AHeap → Prop} {N B C : AEnv → AHeap → Prop} {R : AV → AHeap → Prop}
theorem es_dropQ {f : AE} : EnSR (aDrop f ρ h) N R B C = EnsR (f ρ h) fun _ h1 => N ρ h1 := by unfold aDrop; rw [es_ofQ]; rfl
theorem es_badQ : EnSR (aBadS ρ h) N R B C = False := propext Iff.rfl
theorem es_try0Q {f : AS} : EnSR (aTry0 f ρ h) N R B C = EnSR (f ρ h) N R B C := by
  unfold aTry0; cases f ρ h <;> rfl
theorem en_listOfQ {f : AA} {P : List AV → AHeap → Prop} : EnsR (aListOf f ρ h) P = EnsR (f ρ h) fun l h1 => ∃ v m, l = [v] ∧ seqX h1 v = some m ∧ P m h1 := by
  unfold aListOf; simp only [en_bindQ]; congr 1; funext l h1
  apply propext
  constructor
  · intro z
    split at z
    · rename_i v
      have z : EnsR (match seqX h1 v with | some m => Res.ok m h1 | none => .bad) P := z
      cases e : seqX h1 v with
      | none => rw [e] at z; exact z.elim
      | some m => rw [e] at z; exact ⟨v, m, rfl, e, z⟩
    · exact z.elim
  · rintro ⟨v, m, rfl, e, z⟩
    show EnsR (match seqX h1 v with | some m => Res.ok m h1 | none => .bad) P
    rw [e]; exact z
theorem en_methOQ {isO : AO → Bool} {op : PMo} {fo : AE} {fa : AA} : EnsR (aMethO isO op fo fa ρ h) P = EnsR (fo ρ h) fun o h1 => ∃ n u, o = .ref n ∧ h1[n]? = some u ∧ isO u = true ∧ EnsR (fa ρ h1) fun l h2 => ∃ u2 v u3, h2[n]? = some u2 ∧ op h2 l u2 = some (v, u3) ∧ P v (h2.set n u3) := by
  unfold aMethO; simp only [en_bindQ]; congr 1; funext o h1
  apply propext
  constructor
  · intro z
    cases o with
    | ref n =>
      dsimp only at z
      cases eu : h1[n]? with
      | none => rw [eu] at z; exact z.elim
      | some u =>
        rw [eu] at z
        dsimp only at z
        by_cases hi : isO u = true
        · rw [if_pos hi, en_bindQ] at z
          refine ⟨n, u, rfl, eu, hi, z.mono fun l h2 z => ?_⟩
          cases e2 : h2[n]? with
          | none => rw [e2] at z; exact z.elim
          | some u2 =>
            rw [e2] at z
            dsimp only at z
            cases e3 : op h2 l u2 with
            | none => rw [e3] at z; exact z.elim
            | some q => rw [e3] at z; exact ⟨u2, q.1, q.2, rfl, e3, z⟩
        · rw [if_neg hi] at z; exact z.elim
    | _ => exact z.elim
  · rintro ⟨n, u, rfl, eu, hi, z⟩
    dsimp only
    rw [eu]
    dsimp only
    rw [if_pos hi, en_bindQ]
    refine z.mono fun l h2 z => ?_
    obtain ⟨u2, v, u3, e2, e3, z⟩ := z
    rw [e2]; dsimp only; rw [e3]; exact z
theorem es_setL1Q {i : Nat} {f : AA} : EnSR (aSetL true i f ρ h) N R B C = EnsR (f ρ h) fun l h1 => N (ρ.set i (some (.ref h1.length))) (h1 ++ [.list l]) := by
  unfold aSetL; rw [es_ofQ]; rfl
theorem es_setL0Q {i : Nat} {f : AA} : EnSR (aSetL false i f ρ h) N R B C = EnsR (f ρ h) fun l h1 => N (ρ.set i (some (.lst l))) h1 := by
  unfold aSetL; rw [es_ofQ]; rfl
theorem en_set0Q : EnsR (aSet0 ρ h) P = P (.ref h.length) (h ++ [.set []]) := propext Iff.rfl
theorem en_fmtQ {f : AE} : EnsR (aFmt f ρ h) P = EnsR (f ρ h) fun v h1 => ∃ s, toTxt v = some s ∧ P (.str s) h1 := by
  unfold aFmt; simp only [en_bindQ]; congr 1; funext v h1
  cases toTxt v <;> simp [EnsR]
theorem en_joinNQ {acc : List Nat} : EnsR (joinF [] acc ρ h) P = P (.str acc) h := propext Iff.rfl
theorem en_joinCQ {f : AE} {fs : List AE} {acc : List Nat} : EnsR (joinF (f :: fs) acc ρ h) P = EnsR (f ρ h) fun v h1 => ∃ s, v = .str s ∧ (acc ++ s).length ≤ szM ∧ EnsR (joinF fs (acc ++ s) ρ h1) P := by
  show EnsR ((f ρ h).bind _) P = _
  simp only [en_bindQ]; congr 1; funext v h1
  apply propext
  constructor
  · intro z
    cases v with
    | str s =>
      dsimp only at z
      by_cases hc : decide ((acc ++ s).length ≤ szM) = true
      · rw [if_pos hc] at z; exact ⟨s, rfl, of_decide_eq_true hc, z⟩
      · rw [if_neg hc] at z; exact z.elim
    | _ => exact z.elim
  · rintro ⟨s, rfl, hc, z⟩
    dsimp only
    rw [if_pos (decide_eq_true hc)]; exact z
theorem en_enumQ {f : AA} {P : List AV → AHeap → Prop} : EnsR (aEnum f ρ h) P = EnsR (f ρ h) fun l h1 => ∃ m, (l = [.tup m] ∨ l = [.lst m]) ∧ P (pairUp 0 m) h1 := by
  unfold aEnum; simp only [en_bindQ]; congr 1; funext l h1
  apply propext
  constructor
  · intro z
    split at z
    · rename_i m; exact ⟨m, .inl rfl, z⟩
    · rename_i m; exact ⟨m, .inr rfl, z⟩
    · exact z.elim
  · rintro ⟨m, rfl | rfl, z⟩ <;> exact z
theorem en_sortSQ {f : AA} {P : List AV → AHeap → Prop} : EnsR (aSortS f ρ h) P = EnsR (f ρ h) fun l h1 => ∃ v m ys, l = [v] ∧ seqL h1 v = some m ∧ strs? m = some ys ∧ ys.length < 64 ∧ P ((isortS (ys.map fun a => a.cps.toList)).map AV.str) h1 := by
  unfold aSortS; simp only [en_bindQ]; congr 1; funext l h1
  apply propext
  constructor
  · intro z
    split at z
    · rename_i v
      cases e1 : seqL h1 v with
      | none => rw [e1] at z; exact z.elim
      | some m =>
        rw [e1] at z; dsimp only at z
        cases e2 : strs? m with
        | none => rw [e2] at z; exact z.elim
        | some ys =>
          rw [e2] at z; dsimp only at z
          by_cases hc : decide (ys.length < 64) = true
          · rw [if_pos hc] at z; exact ⟨v, m, ys, rfl, e1, e2, of_decide_eq_true hc, z⟩
          · rw [if_neg hc] at z; exact z.elim
    · exact z.elim
  · rintro ⟨v, m, ys, rfl, e1, e2, hc, z⟩
    dsimp only
    rw [e1]; dsimp only; rw [e2]; dsimp only; rw [if_pos (decide_eq_true hc)]; exact z
theorem en_splitQ {fo : AE} {fa : AA} {P : List AV → AHeap → Prop} : EnsR (aSplit fo fa ρ h) P = EnsR (fo ρ h) fun o h1 => ∃ s, o = .str s ∧ EnsR (fa ρ h1) fun l h2 => ∃ t, l = [.str t] ∧ (t.length ≠ 0 ∧ s.length + 2 ≤ szM) ∧ P ((Txt.split (sOf s) (sOf t)).map fun a => .str a.cps.toList) h2 := by
  unfold aSplit; simp only [en_bindQ]; congr 1; funext o h1
  apply propext
  constructor
  · intro z
    cases o with
    | str s =>
      dsimp only at z
      rw [en_bindQ] at z
      refine ⟨s, rfl, z.mono fun l h2 z => ?_⟩
      split at z
      · rename_i t
        split at z
        · rename_i hc
          simp only [Bool.and_eq_true, decide_eq_true_eq] at hc
          exact ⟨t, rfl, hc, z⟩
        · exact z.elim
      · exact z.elim
    | _ => exact z.elim
  · rintro ⟨s, rfl, z⟩
    dsimp only
    rw [en_bindQ]
    refine z.mono fun l h2 z => ?_
    obtain ⟨t, rfl, hc, z⟩ := z
    dsimp only
    rw [if_pos (by simp only [Bool.and_eq_true, decide_eq_true_eq]; exact hc)]
    exact z
theorem en_rng2Q {f : AA} {P : List AV → AHeap → Prop} : EnsR (aRng2 f ρ h) P = EnsR (f ρ h) fun l h1 => ∃ i j, l = [.int i, .int j] ∧ inR i = true ∧ inR j = true ∧ P (iInts i (j - i).toNat) h1 := by
  unfold aRng2; simp only [en_bindQ]; congr 1; funext l h1
  apply propext
  constructor
  · intro z
    split at z
    · rename_i i j
      by_cases hs : (inR i && inR j) = true
      · rw [if_pos hs] at z; rw [Bool.and_eq_true] at hs; exact ⟨i, j, rfl, hs.1, hs.2, z⟩
      · rw [if_neg hs] at z; exact z.elim
    · exact z.elim
  · rintro ⟨i, j, rfl, h1, h2, z⟩
    simp only [h1, h2, Bool.and_self, if_true]; exact z
end
/-- a comprehension without a test: each element and what it gives -/
theorem en_lcRQ {g : AG} {fe : AE} {ρ : AEnv} (I : AHeap → Prop) (Y : AV → AV → Prop) : ∀ {l : List AV} {h : AHeap} {P : List AV → AHeap → Prop}, (∀ v ∈ l, ∀ h, I h → ∃ ρ1, g v ρ h = some (ρ1, h) ∧ EnsR (fe ρ1 h) fun y h' => Y v y ∧ I h') → I h →
    (∀ ys h', Paired Y l ys → I h' → P ys h') → EnsR (lcL g aYes fe l ρ h) P
  | [], h, P, _, hi, hp => hp [] h .nil hi
  | v :: r, h, P, hs, hi, hp => by
    obtain ⟨ρ1, e, z⟩ := hs v (List.mem_cons_self ..) h hi
    obtain ⟨y, h3, e3, hy, hi3⟩ := z.ex
    unfold lcL
    rw [e]
    dsimp only
    unfold aYes
    dsimp only
    rw [e3]
    dsimp only
    have q := en_lcRQ (g := g) (fe := fe) (ρ := ρ) I Y (l := r) (h := h3) (P := fun ys h' => P (y :: ys) h') (fun v hv => hs v (List.mem_cons_of_mem _ hv)) hi3 (fun ys h' hY hI => hp (y :: ys) h' (.cons hy hY) hI)
    obtain ⟨ys, h4, e4, p4⟩ := q.ex
    have e4 : lcL g aYes fe r ρ h3 = .ok ys h4 := e4
    unfold aYes at e4
    rw [e4]
    exact p4
/-! operators -/
section
variable {h : AHeap}
theorem vIxA_t {l : List AV} {i : Int} : vIxA h (.tup l) (.int i) = atI l i := by
  show (match atI l i with | some v => some v | none => none) = _
  cases atI l i <;> rfl
theorem vIxA_l {l : List AV} {i : Int} : vIxA h (.lst l) (.int i) = atI l i := by
  show (match atI l i with | some v => some v | none => none) = _
  cases atI l i <;> rfl
theorem vIxA_s {s : List Nat} {i : Int} : vIxA h (.str s) (.int i) = if decide (s.length ≤ szM) = true then (atI s i).map fun c => .str [c] else none := by
  show (match (if decide (s.length ≤ szM) = true then (atI s i).map fun c => AV.str [c] else none) with | some v => some v | none => none) = _
  cases (if decide (s.length ≤ szM) = true then (atI s i).map fun c => AV.str [c] else none) <;> rfl
theorem vIxA_rl {n : Nat} {i : Int} {l : List AV} (e : h[n]? = some (.list l)) : vIxA h (.ref n) (.int i) = atI l i := by
  unfold vIxA vOr
  rw [vIx_r, e]
  dsimp only
  cases ea : atI l i with
  | some v => rfl
  | none =>
    unfold vIxD seqD
    dsimp only
    rw [e]
theorem vIxA_d {ks : List Key} {vs : List AV} {k : AV} {q : Key} (hk : keyOf k = some q) : vIxA h (.dct ks vs) k = dGet ks vs q := by
  unfold vIxA vOr
  have : vIx h (.dct ks vs) k = none := by cases k <;> rfl
  rw [this]
  unfold vIxD seqD
  dsimp only
  rw [hk]
theorem vLenA_s {s : List Nat} : vLenA h [.str s] = if decide (s.length ≤ szM) = true then some (.int s.length) else none := by
  show (match (if decide (s.length ≤ szM) = true then some (AV.int s.length) else none) with | some v => some v | none => none) = _
  split <;> simp_all
theorem vLenA_t {l : List AV} : vLenA h [.tup l] = some (.int l.length) := rfl
theorem vLenA_l {l : List AV} : vLenA h [.lst l] = some (.int l.length) := rfl
theorem vLenA_rl {n : Nat} {l : List AV} (e : h[n]? = some (.list l)) : vLenA h [.ref n] = some (.int l.length) := by
  unfold vLenA cOr
  rw [vLen_r, e]
theorem vLenA_rs {n : Nat} {l : List Key} (e : h[n]? = some (.set l)) : vLenA h [.ref n] = some (.int l.length) := by
  unfold vLenA cOr
  rw [vLen_r, e]
  dsimp only
  unfold vLenSet
  dsimp only
  rw [e]
theorem vMulA_ii {i j : Int} : vMulA h (.int i) (.int j) = if cMul i j = true then some (.int (i * j)) else none := by
  show (match (if cMul i j = true then some (AV.int (i * j)) else none) with | some v => some v | none => _) = _
  split
  · rename_i v e; rw [e]
  · rename_i e; rw [e]; rfl
end
/-! ### what repr shows of values without dicts -/
def RpW (w k : Nat) (v : AV) : Prop := ∃ d, v.dataR = some d ∧ d.showable = true ∧ d.leavesShort 60 = true ∧ d.weight ≤ w ∧ d.depth ≤ k ∧ d.hasDict = false
theorem RpW.str {w : Nat} {s : List Nat} (hl : s.length ≤ w) (hc : ∀ c ∈ s, c < 128) : RpW w 0 (.str s) := by
  refine ⟨.str ⟨s.toArray⟩, rfl, rfl, ?_, ?_, Nat.le_refl _, rfl⟩
  · show (s.toArray.toList.all fun c => decide (c < 16 ^ 8)) = true
    refine List.all_eq_true.mpr fun c hm => decide_eq_true ?_
    have := hc c (by simpa using hm)
    omega
  · show s.toArray.size ≤ w
    simpa using hl
theorem RpW.bl {w : Nat} {b : Bool} : RpW w 0 (.bl b) := ⟨.bool b, rfl, rfl, rfl, Nat.zero_le _, Nat.le_refl _, rfl⟩
theorem RpW.non {w : Nat} : RpW w 0 .non := ⟨.none, rfl, rfl, rfl, Nat.zero_le _, Nat.le_refl _, rfl⟩
theorem RpW.all {w k : Nat} : ∀ {l : List AV}, (∀ x ∈ l, RpW w k x) → ∃ ds, AV.dataRs l = some ds ∧ PyData.showableAll ds = true ∧ PyData.leavesShortAll 60 ds = true ∧ PyData.weightAll ds ≤ (w + 1) * l.length ∧ PyData.depthAll ds ≤ k ∧ PyData.hasDictAll ds = false
  | [], _ => ⟨[], rfl, rfl, rfl, Nat.zero_le _, Nat.zero_le _, rfl⟩
  | x :: m, h => by
    obtain ⟨d, e, d1, d2, d3, d4, d5⟩ := h x (List.mem_cons_self ..)
    obtain ⟨ds, e', s1, s2, s3, s4, s5⟩ := RpW.all fun y hy => h y (List.mem_cons_of_mem _ hy)
    refine ⟨d :: ds, ?_, ?_, ?_, ?_, ?_, ?_⟩
    · unfold AV.dataRs; rw [e, e']
    · show (d.showable && PyData.showableAll ds) = true
      rw [d1, s1]; rfl
    · show (d.leavesShort 60 && PyData.leavesShortAll 60 ds) = true
      rw [d2, s2]; rfl
    · show d.weight + 1 + PyData.weightAll ds ≤ (w + 1) * (x :: m).length
      rw [List.length_cons, Nat.mul_add]; omega
    · show max d.depth (PyData.depthAll ds) ≤ k
      omega
    · show (d.hasDict || PyData.hasDictAll ds) = false
      rw [d5, s5]; rfl
theorem RpW.tup {w k n : Nat} {l : List AV} (h : ∀ x ∈ l, RpW w k x) (hn : (w + 1) * l.length ≤ n) : RpW n (k + 1) (.tup l) := by
  obtain ⟨ds, e, s1, s2, s3, s4, s5⟩ := RpW.all h
  refine ⟨.tuple ds, ?_, s1, s2, Nat.le_trans s3 hn, ?_, s5⟩
  · unfold AV.dataR; rw [e]; rfl
  · show PyData.depthAll ds + 1 ≤ k + 1
    omega
theorem RpW.lst {w k n : Nat} {l : List AV} (h : ∀ x ∈ l, RpW w k x) (hn : (w + 1) * l.length ≤ n) : RpW n (k + 1) (.lst l) := by
  obtain ⟨ds, e, s1, s2, s3, s4, s5⟩ := RpW.all h
  refine ⟨.list ds, ?_, s1, s2, Nat.le_trans s3 hn, ?_, s5⟩
  · unfold AV.dataR; rw [e]; rfl
  · show PyData.depthAll ds + 1 ≤ k + 1
    omega
theorem RpW.repr {w k : Nat} {v : AV} (h : RpW w k v) (hw : w ≤ 200000) (hk : k ≤ 64) : ∃ r, ∀ h, vRepr h [v] = some (.str r) := by
  obtain ⟨d, e, h1, h2, h3, h4, h5⟩ := h
  have hs := PyData.shown_le 60 (by decide) d h2
  have ok : okR v d = true := by
    unfold okR
    simp only [Bool.and_eq_true, Bool.or_eq_true, decide_eq_true_eq, Bool.not_eq_true']
    refine ⟨⟨⟨h1, .inr h5⟩, ?_⟩, by omega⟩
    unfold szM
    omega
  refine ⟨d.shown.cps.toList, fun h => ?_⟩
  unfold vRepr
  dsimp only
  rw [e]
  dsimp only
  rw [if_pos ok]
theorem es_nowQ {r : SRes} {ρ' : AEnv} {h' : AHeap} {N B C : AEnv → AHeap → Prop} {R : AV → AHeap → Prop} (e : r = .nx ρ' h') (n : N ρ' h') : EnSR r N R B C := by
  rw [e]; exact n
theorem bools_true : ∀ {ys : List AV}, (∀ y ∈ ys, y = AV.bl true) → bools? ys = some (ys.map fun _ => true)
  | [], _ => rfl
  | y :: ys, h => by
    have e := h y (List.mem_cons_self ..)
    subst e
    show (bools? ys).map (true :: ·) = _
    rw [bools_true fun z hz => h z (List.mem_cons_of_mem _ hz)]; rfl
theorem all_true {h : AHeap} {ys : List AV} (hy : ∀ y ∈ ys, y = AV.bl true) : vAll h [.lst ys] = some (.bl true) := by
  show (bools? ys).map (fun bs => AV.bl (bs.all _root_.id)) = _
  rw [bools_true hy]
  simp
end AI
namespace AI
open PySem PySem.Spec PyProof.Rows
open L2
/-! ### what a mirror gives, sealed -/
@[irreducible] def Ens {α : Type} (r : Res α) (P : α → AHeap → Prop) : Prop := EnsR r P
@[irreducible] def EnS (r : SRes) (N : AEnv → AHeap → Prop) (R : AV → AHeap → Prop) (B C : AEnv → AHeap → Prop) : Prop := EnSR r N R B C
@[irreducible] def EnG (o : Option (AEnv × AHeap)) (N : AEnv → AHeap → Prop) : Prop := EnGR o N
theorem Ens_eq : @Ens = @EnsR := by funext α r P; unfold Ens; rfl
theorem EnS_eq : @EnS = @EnSR := by funext r N R B C; unfold EnS; rfl
theorem EnG_eq : @EnG = @EnGR := by funext o N; unfold EnG; rfl
section
variable {α β : Type} {ρ : AEnv} {h : AHeap} {P : AV → AHeap → Prop} {N B C : AEnv → AHeap → Prop} {R : AV → AHeap → Prop}
theorem Ens.mono {r : Res α} {P Q : α → AHeap → Prop} (e : Ens r P) (k : ∀ a h, P a h → Q a h) : Ens r Q := by
  simp only [Ens_eq, EnS_eq, EnG_eq] at *
  first | exact EnsR.mono | assumption | (apply EnsR.mono <;> assumption) | (intros; apply EnsR.mono <;> assumption)
theorem Ens.ex {r : Res α} {P : α → AHeap → Prop} (e : Ens r P) : ∃ a h, r = .ok a h ∧ P a h := by
  simp only [Ens_eq, EnS_eq, EnG_eq] at *
  first | exact EnsR.ex | assumption | (apply EnsR.ex <;> assumption) | (intros; apply EnsR.ex <;> assumption)
theorem EnS.mono {r : SRes} {N' B' C' : AEnv → AHeap → Prop} {R' : AV → AHeap → Prop} (e : EnS r N R B C) (h1 : ∀ a h, N a h → N' a h) (h2 : ∀ a h, R a h → R' a h) (h3 : ∀ a h, B a h → B' a h) (h4 : ∀ a h, C a h → C' a h) : EnS r N' R' B' C' := by
  simp only [Ens_eq, EnS_eq, EnG_eq] at *
  first | exact EnSR.mono | assumption | (apply EnSR.mono <;> assumption) | (intros; apply EnSR.mono <;> assumption)
theorem en_bind {r : Res α} {k : α → AHeap → Res β} {P : β → AHeap → Prop} : Ens (r.bind k) P = Ens r fun a h => Ens (k a h) P := by
  simp only [Ens_eq, EnS_eq, EnG_eq] at *
  first | exact en_bindQ | assumption | (apply en_bindQ <;> assumption) | (intros; apply en_bindQ <;> assumption)
theorem en_ok {a : α} {P : α → AHeap → Prop} : Ens (.ok a h) P = P a h := by
  simp only [Ens_eq, EnS_eq, EnG_eq] at *
  first | exact en_okQ | assumption | (apply en_okQ <;> assumption) | (intros; apply en_okQ <;> assumption)
theorem en_bad {P : α → AHeap → Prop} : Ens (.bad : Res α) P = False := by
  simp only [Ens_eq, EnS_eq, EnG_eq] at *
  first | exact en_badQ | assumption | (apply en_badQ <;> assumption) | (intros; apply en_badQ <;> assumption)
theorem en_lift {o : Option AV} : Ens (lift1 o h) P = ∃ v, o = some v ∧ P v h := by
  simp only [Ens_eq, EnS_eq, EnG_eq] at *
  first | exact en_liftQ | assumption | (apply en_liftQ <;> assumption) | (intros; apply en_liftQ <;> assumption)
theorem en_var {i : Nat} : Ens (aVar i ρ h) P = ∃ v, ρ[i]? = some (some v) ∧ P v h := by
  simp only [Ens_eq, EnS_eq, EnG_eq] at *
  first | exact en_varQ | assumption | (apply en_varQ <;> assumption) | (intros; apply en_varQ <;> assumption)
theorem en_c {v : AV} : Ens (aC v ρ h) P = P v h := by
  simp only [Ens_eq, EnS_eq, EnG_eq] at *
  first | exact en_cQ | assumption | (apply en_cQ <;> assumption) | (intros; apply en_cQ <;> assumption)
theorem en_bin {op : POp2} {f g : AE} : Ens (aBin op f g ρ h) P = Ens (f ρ h) fun a h1 => Ens (g ρ h1) fun b h2 => ∃ v, op h2 a b = some v ∧ P v h2 := by
  simp only [Ens_eq, EnS_eq, EnG_eq] at *
  first | exact en_binQ | assumption | (apply en_binQ <;> assumption) | (intros; apply en_binQ <;> assumption)
theorem en_un {op : POp1} {f : AE} : Ens (aUn op f ρ h) P = Ens (f ρ h) fun a h1 => ∃ v, op h1 a = some v ∧ P v h1 := by
  simp only [Ens_eq, EnS_eq, EnG_eq] at *
  first | exact en_unQ | assumption | (apply en_unQ <;> assumption) | (intros; apply en_unQ <;> assumption)
theorem en_toB {v : AV} {P : Bool → AHeap → Prop} : Ens (toB v h) P = ∃ b, v = .bl b ∧ P b h := by
  simp only [Ens_eq, EnS_eq, EnG_eq] at *
  first | exact en_toBQ | assumption | (apply en_toBQ <;> assumption) | (intros; apply en_toBQ <;> assumption)
theorem en_test {f : AE} {P : Bool → AHeap → Prop} : Ens (aTest f ρ h) P = Ens (f ρ h) fun v h1 => ∃ b, v = .bl b ∧ P b h1 := by
  simp only [Ens_eq, EnS_eq, EnG_eq] at *
  first | exact en_testQ | assumption | (apply en_testQ <;> assumption) | (intros; apply en_testQ <;> assumption)
theorem en_chain {op op' : POp2} {f g k : AE} : Ens (aChain op op' f g k ρ h) P = Ens (f ρ h) fun a h1 => Ens (g ρ h1) fun b h2 => ∃ q, op h2 a b = some (.bl q) ∧ (if q = true then Ens (k ρ h2) fun c h5 => ∃ v, op' h5 b c = some v ∧ P v h5 else P (.bl false) h2) := by
  simp only [Ens_eq, EnS_eq, EnG_eq] at *
  first | exact en_chainQ | assumption | (apply en_chainQ <;> assumption) | (intros; apply en_chainQ <;> assumption)
theorem en_andT {f g : AT} {P : Bool → AHeap → Prop} : Ens (aAndT f g ρ h) P = Ens (f ρ h) fun b h1 => if b = true then Ens (g ρ h1) P else P false h1 := by
  simp only [Ens_eq, EnS_eq, EnG_eq] at *
  first | exact en_andTQ | assumption | (apply en_andTQ <;> assumption) | (intros; apply en_andTQ <;> assumption)
theorem en_orT {f g : AT} {P : Bool → AHeap → Prop} : Ens (aOrT f g ρ h) P = Ens (f ρ h) fun b h1 => if b = true then P true h1 else Ens (g ρ h1) P := by
  simp only [Ens_eq, EnS_eq, EnG_eq] at *
  first | exact en_orTQ | assumption | (apply en_orTQ <;> assumption) | (intros; apply en_orTQ <;> assumption)
theorem en_notT {f : AT} {P : Bool → AHeap → Prop} : Ens (aNotT f ρ h) P = Ens (f ρ h) fun b h1 => P (!b) h1 := by
  simp only [Ens_eq, EnS_eq, EnG_eq] at *
  first | exact en_notTQ | assumption | (apply en_notTQ <;> assumption) | (intros; apply en_notTQ <;> assumption)
theorem en_and {f g : AE} : Ens (aAnd f g ρ h) P = Ens (f ρ h) fun v h1 => ∃ b, v = .bl b ∧ (if b = true then Ens (g ρ h1) P else P (.bl false) h1) := by
  simp only [Ens_eq, EnS_eq, EnG_eq] at *
  first | exact en_andQ | assumption | (apply en_andQ <;> assumption) | (intros; apply en_andQ <;> assumption)
theorem en_or {f g : AE} : Ens (aOr f g ρ h) P = Ens (f ρ h) fun v h1 => ∃ b, v = .bl b ∧ (if b = true then P (.bl true) h1 else Ens (g ρ h1) P) := by
  simp only [Ens_eq, EnS_eq, EnG_eq] at *
  first | exact en_orQ | assumption | (apply en_orQ <;> assumption) | (intros; apply en_orQ <;> assumption)
theorem en_not {f : AE} : Ens (aNot f ρ h) P = Ens (f ρ h) fun v h1 => ∃ b, v = .bl b ∧ P (.bl (!b)) h1 := by
  simp only [Ens_eq, EnS_eq, EnG_eq] at *
  first | exact en_notQ | assumption | (apply en_notQ <;> assumption) | (intros; apply en_notQ <;> assumption)
theorem en_if {t : AT} {f g : AE} : Ens (aIf t f g ρ h) P = Ens (t ρ h) fun b h1 => if b = true then Ens (f ρ h1) P else Ens (g ρ h1) P := by
  simp only [Ens_eq, EnS_eq, EnG_eq] at *
  first | exact en_ifQ | assumption | (apply en_ifQ <;> assumption) | (intros; apply en_ifQ <;> assumption)
theorem en_nil {P : List AV → AHeap → Prop} : Ens (aNil ρ h) P = P [] h := by
  simp only [Ens_eq, EnS_eq, EnG_eq] at *
  first | exact en_nilQ | assumption | (apply en_nilQ <;> assumption) | (intros; apply en_nilQ <;> assumption)
theorem en_cons {f : AE} {g : AA} {P : List AV → AHeap → Prop} : Ens (aCons f g ρ h) P = Ens (f ρ h) fun v h1 => Ens (g ρ h1) fun l h2 => P (v :: l) h2 := by
  simp only [Ens_eq, EnS_eq, EnG_eq] at *
  first | exact en_consQ | assumption | (apply en_consQ <;> assumption) | (intros; apply en_consQ <;> assumption)
theorem en_ite {c : Prop} [Decidable c] {a b : Res α} {P : α → AHeap → Prop} : Ens (if c then a else b) P = if c then Ens a P else Ens b P := by
  simp only [Ens_eq, EnS_eq, EnG_eq] at *
  first | exact en_iteQ | assumption | (apply en_iteQ <;> assumption) | (intros; apply en_iteQ <;> assumption)
theorem en_tup {g : AA} : Ens (aTup g ρ h) P = Ens (g ρ h) fun l h1 => szOk l = true ∧ P (.tup l) h1 := by
  simp only [Ens_eq, EnS_eq, EnG_eq] at *
  first | exact en_tupQ | assumption | (apply en_tupQ <;> assumption) | (intros; apply en_tupQ <;> assumption)
theorem en_list {g : AA} {P : List AV → AHeap → Prop} : Ens (aList g ρ h) P = Ens (g ρ h) fun l h1 => szOk l = true ∧ P l h1 := by
  simp only [Ens_eq, EnS_eq, EnG_eq] at *
  first | exact en_listQ | assumption | (apply en_listQ <;> assumption) | (intros; apply en_listQ <;> assumption)
theorem en_pureL {g : AA} : Ens (pureL g ρ h) P = Ens (g ρ h) fun l h1 => P (.lst l) h1 := by
  simp only [Ens_eq, EnS_eq, EnG_eq] at *
  first | exact en_pureLQ | assumption | (apply en_pureLQ <;> assumption) | (intros; apply en_pureLQ <;> assumption)
theorem en_newL {g : AA} : Ens (newL g ρ h) P = Ens (g ρ h) fun l h1 => P (.ref h1.length) (h1 ++ [.list l]) := by
  simp only [Ens_eq, EnS_eq, EnG_eq] at *
  first | exact en_newLQ | assumption | (apply en_newLQ <;> assumption) | (intros; apply en_newLQ <;> assumption)
theorem en_fn {op : PFn} {f : AA} : Ens (aFn op f ρ h) P = Ens (f ρ h) fun l h1 => ∃ v, op h1 l = some v ∧ P v h1 := by
  simp only [Ens_eq, EnS_eq, EnG_eq] at *
  first | exact en_fnQ | assumption | (apply en_fnQ <;> assumption) | (intros; apply en_fnQ <;> assumption)
theorem en_call {m : MF} {f : AA} : Ens (aCall m f ρ h) P = Ens (f ρ h) fun l h1 => Ens (m l h1) P := by
  simp only [Ens_eq, EnS_eq, EnG_eq] at *
  first | exact en_callQ | assumption | (apply en_callQ <;> assumption) | (intros; apply en_callQ <;> assumption)
theorem en_callK {m : MF} {n k : Nat} {arr : List AV → List AV → List AV} {f g : AA} : Ens (aCallK m n k arr f g ρ h) P = Ens (f ρ h) fun l h1 => Ens (g ρ h1) fun r h2 => (l.length = n ∧ r.length = k) ∧ Ens (m (arr l r) h2) P := by
  simp only [Ens_eq, EnS_eq, EnG_eq] at *
  first | exact en_callKQ | assumption | (apply en_callKQ <;> assumption) | (intros; apply en_callKQ <;> assumption)
theorem en_methS {op : PMs} {f : AE} {g : AA} : Ens (aMethS op f g ρ h) P = Ens (f ρ h) fun o h1 => ∃ s, o = .str s ∧ Ens (g ρ h1) fun l h2 => ∃ v, op s h2 l = some v ∧ P v h2 := by
  simp only [Ens_eq, EnS_eq, EnG_eq] at *
  first | exact en_methSQ | assumption | (apply en_methSQ <;> assumption) | (intros; apply en_methSQ <;> assumption)
theorem en_oN {P : Option Int → AHeap → Prop} : Ens (aoN ρ h) P = P none h := by
  simp only [Ens_eq, EnS_eq, EnG_eq] at *
  first | exact en_oNQ | assumption | (apply en_oNQ <;> assumption) | (intros; apply en_oNQ <;> assumption)
theorem en_oS {f : AE} {P : Option Int → AHeap → Prop} : Ens (aoS f ρ h) P = Ens (f ρ h) fun v h1 => ∃ i, v = .int i ∧ P (some i) h1 := by
  simp only [Ens_eq, EnS_eq, EnG_eq] at *
  first | exact en_oSQ | assumption | (apply en_oSQ <;> assumption) | (intros; apply en_oSQ <;> assumption)
theorem en_sl {f : AE} {l u : AO1} : Ens (aSl f l u ρ h) P = Ens (f ρ h) fun a h1 => Ens (l ρ h1) fun i h2 => Ens (u ρ h2) fun j h3 => ∃ v, vSl h3 a i j = some v ∧ P v h3 := by
  simp only [Ens_eq, EnS_eq, EnG_eq] at *
  first | exact en_slQ | assumption | (apply en_slQ <;> assumption) | (intros; apply en_slQ <;> assumption)
theorem en_rng1 {f : AA} {P : List AV → AHeap → Prop} : Ens (aRng1 f ρ h) P = Ens (f ρ h) fun l h1 => ∃ j, l = [.int j] ∧ inR j = true ∧ P (iInts 0 j.toNat) h1 := by
  simp only [Ens_eq, EnS_eq, EnG_eq] at *
  first | exact en_rng1Q | assumption | (apply en_rng1Q <;> assumption) | (intros; apply en_rng1Q <;> assumption)
theorem en_iter {f : AE} {P : List AV → AHeap → Prop} : Ens (aIter f ρ h) P = Ens (f ρ h) fun v h1 => ∃ l, itemsOf v = some l ∧ P l h1 := by
  simp only [Ens_eq, EnS_eq, EnG_eq] at *
  first | exact en_iterQ | assumption | (apply en_iterQ <;> assumption) | (intros; apply en_iterQ <;> assumption)
theorem en_lc {fi : AA} {g : AG} {t : AT} {fe : AE} {vs : List Nat} {P : List AV → AHeap → Prop} : Ens (aLc fi g t fe vs ρ h) P = Ens (fi ρ h) fun l h1 => szOk l = true ∧ Ens (lcL g t fe l (wipeA ρ vs) h1) P := by
  simp only [Ens_eq, EnS_eq, EnG_eq] at *
  first | exact en_lcQ | assumption | (apply en_lcQ <;> assumption) | (intros; apply en_lcQ <;> assumption)
theorem es_of {r : Res α} {k : α → AHeap → SRes} : EnS (.ofRes ρ r k) N R B C = Ens r fun a h => EnS (k a h) N R B C := by
  simp only [Ens_eq, EnS_eq, EnG_eq] at *
  first | exact es_ofQ | assumption | (apply es_ofQ <;> assumption) | (intros; apply es_ofQ <;> assumption)
theorem es_seq {f g : AS} : EnS (aSeq f g ρ h) N R B C = EnS (f ρ h) (fun ρ1 h1 => EnS (g ρ1 h1) N R B C) R B C := by
  simp only [Ens_eq, EnS_eq, EnG_eq] at *
  first | exact es_seqQ | assumption | (apply es_seqQ <;> assumption) | (intros; apply es_seqQ <;> assumption)
theorem es_skip : EnS (aSkip ρ h) N R B C = N ρ h := by
  simp only [Ens_eq, EnS_eq, EnG_eq] at *
  first | exact es_skipQ | assumption | (apply es_skipQ <;> assumption) | (intros; apply es_skipQ <;> assumption)
theorem es_ret {f : AE} : EnS (aRet f ρ h) N R B C = Ens (f ρ h) R := by
  simp only [Ens_eq, EnS_eq, EnG_eq] at *
  first | exact es_retQ | assumption | (apply es_retQ <;> assumption) | (intros; apply es_retQ <;> assumption)
theorem es_retN : EnS (aRetN ρ h) N R B C = R .non h := by
  simp only [Ens_eq, EnS_eq, EnG_eq] at *
  first | exact es_retNQ | assumption | (apply es_retNQ <;> assumption) | (intros; apply es_retNQ <;> assumption)
theorem es_if {t : AT} {f g : AS} : EnS (aIfS t f g ρ h) N R B C = Ens (t ρ h) fun b h1 => if b = true then EnS (f ρ h1) N R B C else EnS (g ρ h1) N R B C := by
  simp only [Ens_eq, EnS_eq, EnG_eq] at *
  first | exact es_ifQ | assumption | (apply es_ifQ <;> assumption) | (intros; apply es_ifQ <;> assumption)
theorem es_asg {f : AE} {g : AG} : EnS (aAsg f g ρ h) N R B C = Ens (f ρ h) fun v h1 => EnG (g v ρ h1) N := by
  simp only [Ens_eq, EnS_eq, EnG_eq] at *
  first | exact es_asgQ | assumption | (apply es_asgQ <;> assumption) | (intros; apply es_asgQ <;> assumption)
theorem eg_name {i : Nat} {v : AV} : EnG (agName i v ρ h) N = N (ρ.set i (some v)) h := by
  simp only [Ens_eq, EnS_eq, EnG_eq] at *
  first | exact eg_nameQ | assumption | (apply eg_nameQ <;> assumption) | (intros; apply eg_nameQ <;> assumption)
theorem eg_nil {l : List AV} : EnG (agNil l ρ h) N = (l = [] ∧ N ρ h) := by
  simp only [Ens_eq, EnS_eq, EnG_eq] at *
  first | exact eg_nilQ | assumption | (apply eg_nilQ <;> assumption) | (intros; apply eg_nilQ <;> assumption)
theorem eg_cons {g : AG} {gs : AGs} {l : List AV} : EnG (agCons g gs l ρ h) N = ∃ v r, l = v :: r ∧ EnG (g v ρ h) fun ρ1 h1 => EnG (gs r ρ1 h1) N := by
  simp only [Ens_eq, EnS_eq, EnG_eq] at *
  first | exact eg_consQ | assumption | (apply eg_consQ <;> assumption) | (intros; apply eg_consQ <;> assumption)
theorem eg_tup {n : Nat} {gs : AGs} {v : AV} : EnG (agTup n gs v ρ h) N = ∃ l, v = .tup l ∧ l.length = n ∧ EnG (gs l ρ h) N := by
  simp only [Ens_eq, EnS_eq, EnG_eq] at *
  first | exact eg_tupQ | assumption | (apply eg_tupQ <;> assumption) | (intros; apply eg_tupQ <;> assumption)
theorem eg_sub {f k : AE} {v : AV} : EnG (agSub f k v ρ h) N = Ens (f ρ h) fun o h1 => Ens (k ρ h1) fun i h2 => ∃ n q l j, o = .ref n ∧ i = .int q ∧ h2[n]? = some (.list l) ∧ ixN l.length q = some j ∧ N ρ (h2.set n (.list (l.set j v))) := by
  simp only [Ens_eq, EnS_eq, EnG_eq] at *
  first | exact eg_subQ | assumption | (apply eg_subQ <;> assumption) | (intros; apply eg_subQ <;> assumption)
theorem es_par2 {i j : Nat} {f : AA} : EnS (aPar2 i j f ρ h) N R B C = Ens (f ρ h) fun l h1 => ∃ a b, l = [a, b] ∧ N ((ρ.set i (some a)).set j (some b)) h1 := by
  simp only [Ens_eq, EnS_eq, EnG_eq] at *
  first | exact es_par2Q | assumption | (apply es_par2Q <;> assumption) | (intros; apply es_par2Q <;> assumption)
theorem es_for {f : AA} {g : AG} {b : AS} : EnS (aFor f g b ρ h) N R B C = Ens (f ρ h) fun l h1 => EnS (loopS g b l ρ h1) N R B C := by
  simp only [Ens_eq, EnS_eq, EnG_eq] at *
  first | exact es_forQ | assumption | (apply es_forQ <;> assumption) | (intros; apply es_forQ <;> assumption)
theorem es_cut {f g : AS} (M : AEnv → AHeap → Prop) (a : EnS (f ρ h) M R B C) (b : ∀ ρ1 h1, M ρ1 h1 → EnS (g ρ1 h1) N R B C) : EnS (aSeq f g ρ h) N R B C := by
  simp only [Ens_eq, EnS_eq, EnG_eq] at *
  first | exact es_cutQ | assumption | (apply es_cutQ <;> assumption) | (intros; apply es_cutQ <;> assumption)
theorem es_loop {g : AG} {b : AS} (I : List AV → AEnv → AHeap → Prop) (hs : ∀ v r ρ h, I (v :: r) ρ h → EnG (g v ρ h) fun ρ1 h1 => EnS (b ρ1 h1) (fun ρ2 h2 => I r ρ2 h2) R N (fun ρ2 h2 => I r ρ2 h2)) (he : ∀ ρ h, I [] ρ h → N ρ h) :
    ∀ {l : List AV} {ρ : AEnv} {h : AHeap}, I l ρ h → EnS (loopS g b l ρ h) N R B C := by
  simp only [Ens_eq, EnS_eq, EnG_eq] at *
  first | exact es_loopQ | assumption | (apply es_loopQ <;> assumption) | (intros; apply es_loopQ <;> assumption)
theorem en_def {gc : Bool} {np nl : Nat} {b : AS} {as : List AV} (hl : as.length = np) (z : EnS (b (as.map some ++ List.replicate (nl - np) none) h) (fun _ h' => h'.length ≤ h.length ∧ P .non h') (fun v h' => h'.length ≤ h.length ∧ P v h') (fun _ _ => False) (fun _ _ => False)) :
    Ens (aDef gc np nl b as h) P := by
  simp only [Ens_eq, EnS_eq, EnG_eq] at *
  first | exact en_defQ | assumption | (apply en_defQ <;> assumption) | (intros; apply en_defQ <;> assumption)
theorem en_defG {np nl : Nat} {b : AS} {as : List AV} (hl : as.length = np) (z : EnS (b (as.map some ++ List.replicate (nl - np) none) h) (fun _ _ => False) (fun v h' => Ens (gcRes h.length (.ok v h')) P) (fun _ _ => False) (fun _ _ => False)) :
    Ens (aDef true np nl b as h) P := by
  simp only [Ens_eq, EnS_eq, EnG_eq] at *
  first | exact en_defGQ | assumption | (apply en_defGQ <;> assumption) | (intros; apply en_defGQ <;> assumption)
theorem en_def0 {np nl : Nat} {b : AS} {as : List AV} (hl : as.length = np) (z : EnS (b (as.map some ++ List.replicate (nl - np) none) h) (fun _ h' => P .non h') (fun v h' => P v h') (fun _ _ => False) (fun _ _ => False)) :
    Ens (aDef false np nl b as h) P := by
  simp only [Ens_eq, EnS_eq, EnG_eq] at *
  first | exact en_def0Q | assumption | (apply en_def0Q <;> assumption) | (intros; apply en_def0Q <;> assumption)
theorem en_lcL {g : AG} {fe : AE} {ρ : AEnv} (I : AHeap → Prop) (Y : AV → Prop) : ∀ {l : List AV} {h : AHeap} {P : List AV → AHeap → Prop}, (∀ v ∈ l, ∀ h, I h → ∃ ρ1, g v ρ h = some (ρ1, h) ∧ Ens (fe ρ1 h) fun y h' => Y y ∧ I h') → I h →
    (∀ ys h', ys.length = l.length → (∀ y ∈ ys, Y y) → I h' → P ys h') → Ens (lcL g aYes fe l ρ h) P := by
  simp only [Ens_eq, EnS_eq, EnG_eq] at *
  first | exact en_lcLQ | assumption | (apply en_lcLQ <;> assumption) | (intros; apply en_lcLQ <;> assumption)
theorem Ens.eq {r : Res α} {a : α} {h : AHeap} (e : Ens r fun b h' => b = a ∧ h' = h) : r = .ok a h := by
  simp only [Ens_eq, EnS_eq, EnG_eq] at *
  first | exact EnsR.eq | assumption | (apply EnsR.eq <;> assumption) | (intros; apply EnsR.eq <;> assumption)
end
section
variable {h : AHeap}
end
section
variable {e e' : AHeap} {b : Nat}
end
theorem gc_sees {e e' : AHeap} {b : Nat} {h h' : AHeap} {v w : AV} {P : AV → AHeap → Prop} (hc : e.all (AO.closed 0) = true) (hh : HI e b h) (h1 : HI (e ++ e') b h') (s : Sees h' h.length v w) (k : ∀ h2, HI e b h2 → P w h2) :
    Ens (gcRes h.length (.ok v h')) P := by
  simp only [Ens_eq, EnS_eq, EnG_eq] at *
  first | exact gc_seesQ | assumption | (apply gc_seesQ <;> assumption) | (intros; apply gc_seesQ <;> assumption)
theorem en_defH {np nl : Nat} {b : AS} {as : List AV} {e : AHeap} {bb : Nat} {h : AHeap} {P : AV → AHeap → Prop} (hl : as.length = np) (hc : e.all (AO.closed 0) = true) (hh : HI e bb h)
    (z : EnS (b (as.map some ++ List.replicate (nl - np) none) h) (fun _ h' => ∃ e', HI (e ++ e') bb h' ∧ ∀ h2, HI e bb h2 → P .non h2) (fun v h' => ∃ e' w, HI (e ++ e') bb h' ∧ Sees h' h.length v w ∧ ∀ h2, HI e bb h2 → P w h2) (fun _ _ => False) (fun _ _ => False)) :
    Ens (aDef true np nl b as h) P := by
  simp only [Ens_eq, EnS_eq, EnG_eq] at *
  first | exact en_defHQ | assumption | (apply en_defHQ <;> assumption) | (intros; apply en_defHQ <;> assumption)
section
variable {α β : Type} {ρ : AEnv} {h : AHeap} {P : AV → AHeap → Prop} {N B C : AEnv → AHeap → Prop} {R : AV → AHeap → Prop}
theorem es_drop {f : AE} : EnS (aDrop f ρ h) N R B C = Ens (f ρ h) fun _ h1 => N ρ h1 := by
  simp only [Ens_eq, EnS_eq, EnG_eq] at *
  first | exact es_dropQ | assumption | (apply es_dropQ <;> assumption) | (intros; apply es_dropQ <;> assumption)
theorem es_bad : EnS (aBadS ρ h) N R B C = False := by
  simp only [Ens_eq, EnS_eq, EnG_eq] at *
  first | exact es_badQ | assumption | (apply es_badQ <;> assumption) | (intros; apply es_badQ <;> assumption)
theorem es_try0 {f : AS} : EnS (aTry0 f ρ h) N R B C = EnS (f ρ h) N R B C := by
  simp only [Ens_eq, EnS_eq, EnG_eq] at *
  first | exact es_try0Q | assumption | (apply es_try0Q <;> assumption) | (intros; apply es_try0Q <;> assumption)
theorem en_listOf {f : AA} {P : List AV → AHeap → Prop} : Ens (aListOf f ρ h) P = Ens (f ρ h) fun l h1 => ∃ v m, l = [v] ∧ seqX h1 v = some m ∧ P m h1 := by
  simp only [Ens_eq, EnS_eq, EnG_eq] at *
  first | exact en_listOfQ | assumption | (apply en_listOfQ <;> assumption) | (intros; apply en_listOfQ <;> assumption)
theorem en_methO {isO : AO → Bool} {op : PMo} {fo : AE} {fa : AA} : Ens (aMethO isO op fo fa ρ h) P = Ens (fo ρ h) fun o h1 => ∃ n u, o = .ref n ∧ h1[n]? = some u ∧ isO u = true ∧ Ens (fa ρ h1) fun l h2 => ∃ u2 v u3, h2[n]? = some u2 ∧ op h2 l u2 = some (v, u3) ∧ P v (h2.set n u3) := by
  simp only [Ens_eq, EnS_eq, EnG_eq] at *
  first | exact en_methOQ | assumption | (apply en_methOQ <;> assumption) | (intros; apply en_methOQ <;> assumption)
theorem es_setL1 {i : Nat} {f : AA} : EnS (aSetL true i f ρ h) N R B C = Ens (f ρ h) fun l h1 => N (ρ.set i (some (.ref h1.length))) (h1 ++ [.list l]) := by
  simp only [Ens_eq, EnS_eq, EnG_eq] at *
  first | exact es_setL1Q | assumption | (apply es_setL1Q <;> assumption) | (intros; apply es_setL1Q <;> assumption)
theorem es_setL0 {i : Nat} {f : AA} : EnS (aSetL false i f ρ h) N R B C = Ens (f ρ h) fun l h1 => N (ρ.set i (some (.lst l))) h1 := by
  simp only [Ens_eq, EnS_eq, EnG_eq] at *
  first | exact es_setL0Q | assumption | (apply es_setL0Q <;> assumption) | (intros; apply es_setL0Q <;> assumption)
theorem en_set0 : Ens (aSet0 ρ h) P = P (.ref h.length) (h ++ [.set []]) := by
  simp only [Ens_eq, EnS_eq, EnG_eq] at *
  first | exact en_set0Q | assumption | (apply en_set0Q <;> assumption) | (intros; apply en_set0Q <;> assumption)
theorem en_fmt {f : AE} : Ens (aFmt f ρ h) P = Ens (f ρ h) fun v h1 => ∃ s, toTxt v = some s ∧ P (.str s) h1 := by
  simp only [Ens_eq, EnS_eq, EnG_eq] at *
  first | exact en_fmtQ | assumption | (apply en_fmtQ <;> assumption) | (intros; apply en_fmtQ <;> assumption)
theorem en_joinN {acc : List Nat} : Ens (joinF [] acc ρ h) P = P (.str acc) h := by
  simp only [Ens_eq, EnS_eq, EnG_eq] at *
  first | exact en_joinNQ | assumption | (apply en_joinNQ <;> assumption) | (intros; apply en_joinNQ <;> assumption)
theorem en_joinC {f : AE} {fs : List AE} {acc : List Nat} : Ens (joinF (f :: fs) acc ρ h) P = Ens (f ρ h) fun v h1 => ∃ s, v = .str s ∧ (acc ++ s).length ≤ szM ∧ Ens (joinF fs (acc ++ s) ρ h1) P := by
  simp only [Ens_eq, EnS_eq, EnG_eq] at *
  first | exact en_joinCQ | assumption | (apply en_joinCQ <;> assumption) | (intros; apply en_joinCQ <;> assumption)
theorem en_enum {f : AA} {P : List AV → AHeap → Prop} : Ens (aEnum f ρ h) P = Ens (f ρ h) fun l h1 => ∃ m, (l = [.tup m] ∨ l = [.lst m]) ∧ P (pairUp 0 m) h1 := by
  simp only [Ens_eq, EnS_eq, EnG_eq] at *
  first | exact en_enumQ | assumption | (apply en_enumQ <;> assumption) | (intros; apply en_enumQ <;> assumption)
theorem en_sortS {f : AA} {P : List AV → AHeap → Prop} : Ens (aSortS f ρ h) P = Ens (f ρ h) fun l h1 => ∃ v m ys, l = [v] ∧ seqL h1 v = some m ∧ strs? m = some ys ∧ ys.length < 64 ∧ P ((isortS (ys.map fun a => a.cps.toList)).map AV.str) h1 := by
  simp only [Ens_eq, EnS_eq, EnG_eq] at *
  first | exact en_sortSQ | assumption | (apply en_sortSQ <;> assumption) | (intros; apply en_sortSQ <;> assumption)
theorem en_split {fo : AE} {fa : AA} {P : List AV → AHeap → Prop} : Ens (aSplit fo fa ρ h) P = Ens (fo ρ h) fun o h1 => ∃ s, o = .str s ∧ Ens (fa ρ h1) fun l h2 => ∃ t, l = [.str t] ∧ (t.length ≠ 0 ∧ s.length + 2 ≤ szM) ∧ P ((Txt.split (sOf s) (sOf t)).map fun a => .str a.cps.toList) h2 := by
  simp only [Ens_eq, EnS_eq, EnG_eq] at *
  first | exact en_splitQ | assumption | (apply en_splitQ <;> assumption) | (intros; apply en_splitQ <;> assumption)
theorem en_rng2 {f : AA} {P : List AV → AHeap → Prop} : Ens (aRng2 f ρ h) P = Ens (f ρ h) fun l h1 => ∃ i j, l = [.int i, .int j] ∧ inR i = true ∧ inR j = true ∧ P (iInts i (j - i).toNat) h1 := by
  simp only [Ens_eq, EnS_eq, EnG_eq] at *
  first | exact en_rng2Q | assumption | (apply en_rng2Q <;> assumption) | (intros; apply en_rng2Q <;> assumption)
end
theorem en_lcR {g : AG} {fe : AE} {ρ : AEnv} (I : AHeap → Prop) (Y : AV → AV → Prop) : ∀ {l : List AV} {h : AHeap} {P : List AV → AHeap → Prop}, (∀ v ∈ l, ∀ h, I h → ∃ ρ1, g v ρ h = some (ρ1, h) ∧ Ens (fe ρ1 h) fun y h' => Y v y ∧ I h') → I h →
    (∀ ys h', Paired Y l ys → I h' → P ys h') → Ens (lcL g aYes fe l ρ h) P := by
  simp only [Ens_eq, EnS_eq, EnG_eq] at *
  first | exact en_lcRQ | assumption | (apply en_lcRQ <;> assumption) | (intros; apply en_lcRQ <;> assumption)
section
variable {h : AHeap}
end
theorem es_now {r : SRes} {ρ' : AEnv} {h' : AHeap} {N B C : AEnv → AHeap → Prop} {R : AV → AHeap → Prop} (e : r = .nx ρ' h') (n : N ρ' h') : EnS r N R B C := by
  simp only [Ens_eq, EnS_eq, EnG_eq] at *
  first | exact es_nowQ | assumption | (apply es_nowQ <;> assumption) | (intros; apply es_nowQ <;> assumption)
end AI
namespace AI
open PySem PySem.Spec PyProof.Rows
open L2

/-! ### values that do not name the handled exception -/
mutual
def AV.noX : AV → Bool
  | .exn _ _ _ => false
  | .tup l => AV.noXs l
  | .lst l => AV.noXs l
  | .dct _ l => AV.noXs l
  | .ins _ _ l => AV.noXs l
  | .non => true
  | .bl _ => true
  | .int _ => true
  | .str _ => true
  | .ref _ => true
  | .ty _ => true
  | .gl _ => true
def AV.noXs : List AV → Bool
  | [] => true
  | v :: l => AV.noX v && AV.noXs l
end
def AO.noX : AO → Bool
  | .list l => AV.noXs l
  | .set _ => true
  | .dct _ l => AV.noXs l
def oNoX : Option AV → Bool
  | some v => v.noX
  | none => true
section
variable {C C' : Ctx} {μ : Mu} {H : Hp}
theorem noXs_inv {v : AV} {l : List AV} (h : AV.noXs (v :: l) = true) : v.noX = true ∧ AV.noXs l = true := by simpa [AV.noXs] using h
mutual
/-- where no exception is handled, no value names one -/
theorem RV.noX (hn : C.hx = none) : ∀ {v : AV} {x : V}, RV C μ H v x → v.noX = true
  | .exn _ _ _, _, h => by
    simp only [RV] at h
    obtain ⟨p, _, _, _, e, _⟩ := h
    rw [hn] at e; cases e
  | .tup l, _, h => by obtain ⟨a, xs, _, _, q⟩ := h.tup_inv; exact RVs.noX hn q
  | .lst l, _, h => by obtain ⟨a, xs, _, _, q⟩ := h.lst_inv; exact RVs.noX hn q
  | .dct _ l, _, h => by obtain ⟨a, xs, _, _, q⟩ := h.dct_inv; exact RVs.noX hn q
  | .ins _ _ l, _, h => by
    simp only [RV] at h
    obtain ⟨a, Ca, dx, xs, _, _, _, _, q⟩ := h
    exact RVs.noX hn q
  | .non, _, _ => rfl
  | .bl _, _, _ => rfl
  | .int _, _, _ => rfl
  | .str _, _, _ => rfl
  | .ref _, _, _ => rfl
  | .ty _, _, _ => rfl
  | .gl _, _, _ => rfl
theorem RVs.noX (hn : C.hx = none) : ∀ {l : List AV} {xs : List V}, RVs C μ H l xs → AV.noXs l = true
  | [], _, _ => rfl
  | v :: l, _, h => by
    obtain ⟨x, r, rfl, h1, h2⟩ := h.inv
    simp [AV.noXs, RV.noX hn h1, RVs.noX hn h2]
end
mutual
theorem RV.swapX (hK : C'.K = C.K) (hm : C'.mg = C.mg) (hZ : C'.Z = C.Z) : ∀ {v : AV} {x : V}, v.noX = true → RV C μ H v x → RV C' μ H v x
  | .exn _ _ _, _, n, _ => by cases n
  | .tup l, _, n, h => by
    obtain ⟨a, xs, rfl, t, q⟩ := h.tup_inv
    refine .tup ?_ (RVs.swapX hK hm hZ n q)
    unfold TupAt at t ⊢
    rw [hK]; exact t
  | .lst l, _, n, h => by
    obtain ⟨a, xs, rfl, t, q⟩ := h.lst_inv
    refine .lst ?_ (RVs.swapX hK hm hZ n q)
    unfold LstAt at t ⊢
    rw [hK, hZ]; exact t
  | .dct _ l, _, n, h => by
    obtain ⟨a, xs, rfl, t, q⟩ := h.dct_inv
    refine .dct ?_ (RVs.swapX hK hm hZ n q)
    unfold DctAt at t ⊢
    rw [hZ]; exact t
  | .ins _ _ l, _, n, h => by
    simp only [RV] at h ⊢
    obtain ⟨a, Ca, dx, xs, h1, h2, h3, h4, q⟩ := h
    exact ⟨a, Ca, dx, xs, h1, by rw [hm]; exact h2, h3, h4, RVs.swapX hK hm hZ n q⟩
  | .non, _, _, h => by simpa [RV] using h
  | .bl _, _, _, h => by simpa [RV] using h
  | .int _, _, _, h => by simpa [RV] using h
  | .str _, _, _, h => by simpa [RV] using h
  | .ref _, _, _, h => by simpa [RV] using h
  | .ty _, _, _, h => by simpa [RV] using h
  | .gl _, _, _, h => by simpa [RV, hm] using h
theorem RVs.swapX (hK : C'.K = C.K) (hm : C'.mg = C.mg) (hZ : C'.Z = C.Z) : ∀ {l : List AV} {xs : List V}, AV.noXs l = true → RVs C μ H l xs → RVs C' μ H l xs
  | [], _, _, h => by simpa [RVs] using h
  | v :: l, _, n, h => by
    obtain ⟨x, r, rfl, h1, h2⟩ := h.inv
    have n := noXs_inv n
    exact .cons (RV.swapX hK hm hZ n.1 h1) (RVs.swapX hK hm hZ n.2 h2)
end
theorem OR.noX (hn : C.hx = none) {o : AO} {a : Addr} (r : OR C μ H o a) : o.noX = true := by
  cases o with
  | list l => obtain ⟨xs, _, q⟩ := r; exact RVs.noX hn q
  | set ks => rfl
  | dct ks l => obtain ⟨xs, _, _, _, q⟩ := r; exact RVs.noX hn q
theorem OR.swapX (hK : C'.K = C.K) (hm : C'.mg = C.mg) (hZ : C'.Z = C.Z) (hP : C'.prog = C.prog) (hw : C'.w = C.w) {o : AO} {a : Addr} (n : o.noX = true) (r : OR C μ H o a) : OR C' μ H o a := by
  cases o with
  | list l => obtain ⟨xs, e, q⟩ := r; exact ⟨xs, e, q.swapX hK hm hZ n⟩
  | set ks => unfold OR at r ⊢; rw [hP, hw]; exact r
  | dct ks l => obtain ⟨xs, e0, en, e1, q⟩ := r; exact ⟨xs, e0, en, e1, q.swapX hK hm hZ n⟩
theorem RepH.noX (hn : C.hx = none) {h : AHeap} (r : RepH C μ h H) : h.all AO.noX = true := by
  refine List.all_eq_true.mpr fun o ho => ?_
  obtain ⟨n, hn', e⟩ := List.getElem_of_mem ho
  obtain ⟨a, _, q⟩ := r.of_ix (n := n) (o := o) (by rw [List.getElem?_eq_getElem hn', e])
  exact q.noX hn
theorem RepH.swapX (hK : C'.K = C.K) (hm : C'.mg = C.mg) (hZ : C'.Z = C.Z) (hP : C'.prog = C.prog) (hw : C'.w = C.w) {h : AHeap} (n : h.all AO.noX = true) (r : RepH C μ h H) : RepH C' μ h H :=
  ⟨r.len, r.nd, fun i o a h1 h2 => (r.obj i o a h1 h2).swapX hK hm hZ hP hw (List.all_eq_true.mp n o (List.mem_of_getElem? h1)), fun a ha => r.zs a (by rw [hZ] at ha; exact ha)⟩
theorem RepE.noX (hn : C.hx = none) {ρ : AEnv} {σ : L2.St} (r : RepE C μ H ρ σ) : ρ.all oNoX = true := by
  refine List.all_eq_true.mpr fun o ho => ?_
  obtain ⟨n, hn', e⟩ := List.getElem_of_mem ho
  cases o with
  | none => rfl
  | some v =>
    obtain ⟨x, _, q⟩ := r.2 n v (by rw [List.getElem?_eq_getElem hn', e])
    exact q.noX hn
theorem RepE.swapX (hK : C'.K = C.K) (hm : C'.mg = C.mg) (hZ : C'.Z = C.Z) {ρ : AEnv} {σ : L2.St} (n : ρ.all oNoX = true) (r : RepE C μ H ρ σ) : RepE C' μ H ρ σ :=
  ⟨r.1, fun i v e => let ⟨x, h1, h2⟩ := r.2 i v e; ⟨x, h1, h2.swapX hK hm hZ (List.all_eq_true.mp n (some v) (List.mem_of_getElem? e))⟩⟩
end

/-! ### what is told of the own exception classes -/
def oexB (K : PySem.W.Frag) (C : Addr) : Bool := match K.lookup C with
  | some ⟨.type t, _, .cls cd, sl⟩ => (match cd.mro, sl.toList with
    | .ref C' :: bm, [_, _, _, _, some (.builtin n), _] => decide (t = "type") && (decide (C' = C) && (decide (n = "ValueError.__new__") && (!cd.hasDel && (cd.hasDict && PySem.HandSPX.refsVE bm))))
    | _, _ => false)
  | _ => false
theorem oexB_ok {K : PySem.W.Frag} {C : Addr} (h : oexB K C = true) : ∃ nm q N bs bm sn sub ab col dd k0 k1 k2 k3 k5, K.lookup C = some (excClassObj nm q C N bs bm true sn sub ab col dd k0 k1 k2 k3 k5 "ValueError.__new__") ∧ PySem.HandSPX.refsVE bm = true := by
  unfold oexB at h
  split at h
  · rename_i t dd cd sl ho
    split at h
    · rename_i C' bm k0 k1 k2 k3 n k5 hm hs
      simp only [Bool.and_eq_true, decide_eq_true_eq, Bool.not_eq_true'] at h
      obtain ⟨rfl, rfl, rfl, hdel, hdi, hbm⟩ := h
      obtain ⟨nm, bs, mro, ns, qn, hd, sn, sub, ab, col, del⟩ := cd
      dsimp only at hm hdel hdi
      subst hm hdel hdi
      have hsl : sl = #[k0, k1, k2, k3, some (.builtin "ValueError.__new__"), k5] := by
        obtain ⟨l⟩ := sl
        simp only at hs
        rw [hs]
      subst hsl
      exact ⟨nm, qn, ns, bs, bm, sn, sub, ab, col, dd, k0, k1, k2, k3, k5, ho, hbm⟩
    · cases h
  · cases h
/-- all that is wanted of the class at C -/
structure ExC (K : PySem.W.Frag) (C : Addr) : Prop where
  o : OexC K C
  i : ExcC K C
  f : XfC K C
def exCB (K : PySem.W.Frag) (C : Addr) : Bool := oexB K C && (He.eqO (PySem.W.findIn K (.ref C) "__setattr__") (some (some (.builtin "object.__setattr__"))) && (decide (PySem.W.subIn K (.ref C) (.type "BaseException") = some true) && (decide (PySem.W.typeIn K (.ref C) = some (.type "type")) &&
  (PySem.W.keepIn K (.ref C) && (He.eqO (PySem.W.findIn K (.ref C) "__getattribute__") (some (some (.builtin "BaseException.__getattribute__"))) && (He.eqO (PySem.W.findIn K (.ref C) "__getattr__") (some none) && (PySem.W.hasDictIn K C &&
  (He.eqO (PySem.W.findIn K (.ref C) "__class__") (some (some (.builtin "object.__class__"))) && (He.eqO (PySem.W.specialIn K (.builtin "object.__class__") "__get__") (some (some (.builtin "getset_descriptor.__get__"))) &&
  (decide (PySem.W.takesIn K (.builtin "object.__class__") = some true) && decide (PySem.W.mroIn K C (.type "object") = some true)))))))))))
theorem exCB_ok {K : PySem.W.Frag} {C : Addr} (h : exCB K C = true) : ExC K C := by
  unfold exCB at h
  simp only [Bool.and_eq_true, decide_eq_true_eq] at h
  obtain ⟨h1, h2, h3, h4, h5, h6, h7, h8, h9, h10, h11, h12⟩ := h
  exact ⟨⟨oexB_ok h1, He.eqO_ok h2, h3, h4, h5⟩, ⟨He.eqO_ok h6, He.eqO_ok h7, h3, h8, He.eqO_ok h9, He.eqO_ok h10, h11, h12⟩, ⟨He.eqO_ok h6, He.eqO_ok h7, h3, h8⟩⟩
/-- the classes cs are raised; the own classes ys, the built-in ones bs are asked for; fs: the names of the fields -/
structure ExTab where
  cs : List Str
  ys : List Str
  bs : List Tag
  fs : List Str
  sub : Str → Str → Bool
structure ExT (T : ExTab) (K : PySem.W.Frag) (mg : Str → Option Value) : Prop where
  ex : ∀ c ∈ T.cs, ∃ a, mg c = some (.ref a) ∧ ExC K a ∧ (∀ f ∈ T.fs, PySem.W.findIn K (.ref a) f = some none) ∧
    (∀ y ∈ T.ys, ∃ b, mg y = some (.ref b) ∧ PySem.W.kitOne K (.ref a) (.ref b) = some (T.sub c y) ∧ PySem.W.exmOne K (.ref a) (.ref b) = some (T.sub c y)) ∧
    ∀ t ∈ T.bs, PySem.W.kitOne K (.ref a) (.type t.nm) = some (T.sub c t.nm)
def exTB (T : ExTab) (K : PySem.W.Frag) : Bool := T.cs.all fun c => He.eqO (PySem.W.nsIn K mainGlobals c) (some (some (.ref (He.ga K c)))) && (exCB K (He.ga K c) && ((T.fs.all fun f => He.eqO (PySem.W.findIn K (.ref (He.ga K c)) f) (some none)) &&
  ((T.ys.all fun y => He.eqO (PySem.W.nsIn K mainGlobals y) (some (some (.ref (He.ga K y)))) && (decide (PySem.W.kitOne K (.ref (He.ga K c)) (.ref (He.ga K y)) = some (T.sub c y)) && decide (PySem.W.exmOne K (.ref (He.ga K c)) (.ref (He.ga K y)) = some (T.sub c y)))) &&
  T.bs.all fun t => decide (PySem.W.kitOne K (.ref (He.ga K c)) (.type t.nm) = some (T.sub c t.nm)))))
theorem exTB_ok {T : ExTab} {K : PySem.W.Frag} {h : Heap} {mg : Str → Option Value} (X : K.In h) (G : h.Ns mainGlobals mg) (c : exTB T K = true) : ExT T K mg := by
  refine ⟨fun x hx => ?_⟩
  have q := List.all_eq_true.mp c x hx
  simp only [Bool.and_eq_true, List.all_eq_true, decide_eq_true_eq] at q
  obtain ⟨q1, q2, q3, q4, q5⟩ := q
  exact ⟨_, PySem.W.mg_of X G (He.eqO_ok q1), exCB_ok q2, fun f hf => He.eqO_ok (q3 f hf), fun y hy => ⟨_, PySem.W.mg_of X G (He.eqO_ok (q4 y hy).1), (q4 y hy).2.1, (q4 y hy).2.2⟩, q5⟩

/-! ### isinstance(e, C), e.f -/
theorem hxOf_mem {b : Bool} {pn : List (Addr × Obj)} {p : Addr × Obj} (h : hxOf b pn = some p) : p ∈ pn := by
  cases b with
  | true => cases h
  | false =>
    cases pn with
    | nil => cases h
    | cons q r => cases h; exact List.mem_cons_self ..
def vIsiE (T : ExTab) : PFn := fun _ l => match l with
  | [.exn c _ _, .gl y] => if (decide (c ∈ T.cs) && decide (y ∈ T.ys)) = true then some (.bl (T.sub c y)) else none
  | [.exn c _ _, .ty t] => if (decide (c ∈ T.cs) && decide (t ∈ T.bs)) = true then some (.bl (T.sub c t.nm)) else none
  | _ => none
section
variable {X : Cx} {W : WX} {pos : Pos} {T : ExTab}
/-- the handled exception as it stands in the heap -/
theorem exn_at {pins : List (Addr × Obj)} {σ : L2.St} {H : Hp} {s : Shared} {Z : List Addr} {μ : Mu} {c : Str} {ks : List Str} {l : List AV} {x : V} (I : Inv X pins σ H s) (r : RV (cc X Z) μ H (.exn c ks l) x) {Ca : Addr} (hC : X.mg c = some (.ref Ca)) :
    ∃ (a : Addr) (oe : Obj) (xs : List V) (od : Option Obj), x = .ref a ∧ PySem.W.InstAt s.heap a oe Ca od ∧ RVs (cc X Z) μ H l xs ∧ ((ks = [] ∧ xs = []) ∨ ∃ (dx : Addr) (o : Obj) (mA : Str → Option Value), od = some o ∧ (∀ f, RelO ((ks.zip xs).lookup f) (mA f)) ∧ ∀ name, PySem.W.lookIn name o = some (mA name)) := by
  simp only [RV] at r
  obtain ⟨p, Cb, d, xs, h1, h2, h3, h4, ⟨vs, h5⟩, h6, h7⟩ := r
  have e : Cb = Ca := by
    have z : X.mg c = some (.ref Cb) := h3
    rw [hC] at z
    cases z; rfl
  subst e
  obtain ⟨at_, _⟩ := I.pin p (List.mem_append_left _ (hxOf_mem h1))
  have nc : PySem.W.notCls p.2 = true := by unfold PySem.W.notCls; rw [h5]
  rcases h7 with ⟨e1, e2, e3⟩ | ⟨dx, e1, e2, _⟩
  · exact ⟨p.1, p.2, xs, none, h2, ⟨at_, h4.1, nc, by rw [h4.2, e3]; trivial⟩, h6, .inl ⟨e1, e2⟩⟩
  · have own : ObjOk X.prog X.w H s.heap dx (.xd (ks.zip xs)) := I.hok dx _ e2
    obtain ⟨mA, hns, hr⟩ := own
    obtain ⟨o, ho, hl⟩ := lookIn_ns hns
    exact ⟨p.1, p.2, xs, some o, h2, ⟨at_, h4.1, nc, by rw [h4.2, e1]; exact ho⟩, h6, .inr ⟨dx, o, mA, rfl, hr, hl⟩⟩
theorem VCall.isiE (E : ExT T X.K X.mg) : VCall X (.builtin "isinstance") (vIsiE T) := by
  intro pins s σ H xs us Q I r hh
  obtain ⟨Z, μ, h, l, v, rh, rl, ev, o⟩ := hh
  have go : ∀ {c : Str} {ks : List Str} {m : List AV} {x y : V} {u : Value} {b : Bool}, c ∈ T.cs → RV (cc X Z) μ H (.exn c ks m) x → Vals [x, y] us → (∀ z, RelV y z → z = u) → (∀ Ca, X.mg c = some (.ref Ca) → ExC X.K Ca → PySem.W.kitOne X.K (.ref Ca) u = some b) → Q (.bl b) H →
      wpAny (model X.prog X.w) X.A (call (.builtin "isinstance") us) (EP X pins σ Q) X.xe s := fun {c ks m x y u b} hc rx rv hu hk q => by
    obtain ⟨Ca, e1, C, _⟩ := E.ex c hc
    obtain ⟨a, oe, xs, od, rfl, J, _⟩ := exn_at I rx e1
    cases rv with
    | cons ra rr =>
    cases rr with
    | cons rb rr =>
    cases rr
    cases (show _ = Value.ref a from ra)
    have eu := hu _ rb
    subst eu
    obtain ⟨cd, hcd, _⟩ := PySem.W.any_some C.i.hd
    exact PySem.W.kia_one (PySem.W.kitx_exc (by rw [hcd]; rfl) C.i.hg C.i.hk C.i.hs C.i.ha C.i.hn C.i.ht C.i.hm) I.kIn J (hk Ca e1 C) (fun z => nomatch z) fun tk => ⟨.bl b, H, I.kept (t' := tk) fun _ _ z => z, rfl, q⟩
  unfold vIsiE at ev
  split at ev
  · rename_i c ks m y
    split at ev
    · rename_i hc
      cases ev
      simp only [Bool.and_eq_true, decide_eq_true_eq] at hc
      obtain ⟨x, y', rfl, rx, ry⟩ := rl.two
      simp only [RV] at ry
      obtain ⟨b, rfl, eb⟩ := ry
      refine go hc.1 rx r (u := .ref b) (fun z hz => hz) (fun Ca e1 C => ?_) (o.val rh .bl)
      obtain ⟨Cb, f1, _, _, f2, _⟩ := E.ex c hc.1
      obtain ⟨b', g1, g2, _⟩ := f2 y hc.2
      have z1 : b' = b := by
        have z : X.mg y = some (.ref b) := eb
        rw [g1] at z; cases z; rfl
      have z2 : Cb = Ca := by rw [f1] at e1; cases e1; rfl
      subst z1 z2
      exact g2
    · cases ev
  · rename_i c ks m t
    split at ev
    · rename_i hc
      cases ev
      simp only [Bool.and_eq_true, decide_eq_true_eq] at hc
      obtain ⟨x, y', rfl, rx, ry⟩ := rl.two
      rw [ry.ty_inv] at r
      refine go hc.1 rx r (u := .type t.nm) (fun z hz => hz) (fun Ca e1 C => ?_) (o.val rh .bl)
      obtain ⟨Cb, f1, _, _, _, f2⟩ := E.ex c hc.1
      have z2 : Cb = Ca := by rw [f1] at e1; cases e1; rfl
      subst z2
      exact f2 t hc.2
    · cases ev
  · cases ev
theorem DE.glx {x : Str} (hg : Gl X x) (hm : ∃ a, X.mg x = some (.ref a)) (hd : (x == ("__debug__" : Str)) = false := by rfl) : DE X W (.Name x pos) (aC (.gl x)) := by
  obtain ⟨a, hm⟩ := hm
  exact DE.glob hg ⟨.ref a, hm, fun Z μ H => ⟨.ref a, rfl, by simp only [RV]; exact ⟨a, rfl, hm⟩⟩⟩ hd
theorem ExT.raised (E : ExT T X.K X.mg) {x : Str} (h : x ∈ T.cs) : ∃ a, X.mg x = some (.ref a) := let ⟨a, e, _⟩ := E.ex x h; ⟨a, e⟩
theorem zip_at {C : Ctx} {μ : Mu} {H : Hp} {f : Str} {v : AV} : ∀ {ks : List Str} {l : List AV} {xs : List V}, RVs C μ H l xs → (ks.zip l).lookup f = some v → ∃ x, (ks.zip xs).lookup f = some x ∧ RV C μ H v x
  | [], _, _, _, e => by simp at e
  | k :: ks, [], _, _, e => by simp at e
  | k :: ks, w :: l, _, r, e => by
    obtain ⟨x, t, rfl, r1, r2⟩ := r.inv
    rw [List.zip_cons_cons, lookup_cons] at e
    rw [List.zip_cons_cons, lookup_cons]
    by_cases hk : f = k
    · rw [if_pos hk] at e ⊢
      cases e
      exact ⟨x, rfl, r1⟩
    · rw [if_neg hk] at e ⊢
      exact zip_at r2 e
where
  lookup_cons {β : Type} {f k : Str} {y : β} {r : List (Str × β)} : ((k, y) :: r).lookup f = if f = k then some y else r.lookup f := by
    by_cases h : f = k
    · subst h; simp [List.lookup]
    · have e : (f == k) = false := by simpa using h
      rw [if_neg h]; simp [List.lookup, e]
/-- e.f of the handled exception -/
def vAttr (T : ExTab) (f : Str) : POp1 := fun _ a => match a with
  | .exn c ks l => if (decide (c ∈ T.cs) && decide (f ∈ T.fs)) = true then (ks.zip l).lookup f else none
  | _ => none
theorem DE.attr {e : Expr} {f : Str} {fe : AE} (E : ExT T X.K X.mg) (he : DE X W e fe) (hb : attributeBase e f X.env (eval e X.env) = eval e X.env := by rfl) : DE X W (.Attribute e f pos) (aUn (vAttr T f) fe) := by
  refine ⟨⟨fun pins s σ H Q I hh => ?_⟩⟩
  obtain ⟨Z, μ, ρ, h, rh, re, p⟩ := hh
  have go : tD X W fe σ H fun x H1 => ∃ μ1 h1 a v, RepH (cc X Z) μ1 h1 H1 ∧ RV (cc X Z) μ1 H1 a x ∧ vAttr T f h1 a = some v ∧ Out (cc X Z) μ1 H1 h1 v Q :=
    tD.seq rh re p fun μ1 H1 h1 a x e1 rh1 re1 ra p1 => let ⟨v, ev, o⟩ := Out.of p1; ⟨μ1, h1, a, v, rh1, ra, ev, o⟩
  refine attr_of hb (thn (he.pe.run pins s σ H _ I go) fun u s1 hu => ?_)
  obtain ⟨x, H1, I1, ru, μ1, h1, a, v, rh1, ra, ev, o⟩ := hu
  unfold vAttr at ev
  split at ev
  · rename_i c ks l
    split at ev
    · rename_i hc
      simp only [Bool.and_eq_true, decide_eq_true_eq] at hc
      obtain ⟨Ca, e1, C, no, _⟩ := E.ex c hc.1
      obtain ⟨q, oe, xs, od, rfl, J, rl, hk⟩ := exn_at I1 ra e1
      obtain rfl : u = Value.ref q := ru
      rcases hk with ⟨rfl, _⟩ | ⟨dx, ob, mA, rfl, rel, look⟩
      · cases ev
      · obtain ⟨y, ly, ry⟩ := zip_at rl ev
        obtain ⟨w, hw, rw_⟩ := RelO.some_of (v := y) (o := mA f) (by rw [← ly]; exact rel f)
        have fo := PySem.W.findObj_own C.f.hdC (no f hc.2) rfl (by rw [look, hw])
        exact HandSPX.exc_get I1.kIn J C.f.ga C.f.gg C.f.exC fo (handed_of rw_) ⟨y, H1, I1.tok _, rw_, o.val rh1 ry⟩
    · cases ev
  · cases ev
end
end AI
namespace AI
open PySem PySem.Spec PyProof.Rows
open L2

/-! ### raise C(e): C's __init__ keeps its one argument -/
def sp1 (K : PySem.W.Frag) (f : Str) : Sp := fun vs H Q _ => ∃ (a C : Addr) (y : V), vs = [.ref a, y] ∧ OexC K C ∧ PySem.W.findIn K (.ref C) f = some none ∧ H a = some (exo a C none) ∧
  ∀ dx, H dx = none → dx ≠ a → Q .non (upd (upd H dx (exd dx [(f, y)])) a (exo a C (some dx)))
section
variable {P : Program} {w : World} {K : PySem.W.Frag} {mg : Str → Option Value} {base : Heap} {k : Nat}
theorem init1 {q f x : Str} {params : Arguments} {scope : Scope} {fI : Addr} {fd : FuncData} {p1 p2 p3 p4 : Pos} (F : FunD K "__init__" q params [.Assign [.Attribute (.Name "self" p1) f p2] (.Name x p3) p4] scope [] [] fI fd) (S : FnScope ["self", x] ["self", x] scope)
    (v1 : Vis scope "self") (v2 : Vis scope x) (d1 : (x == ("__debug__" : Str)) = false) (d2 : (x == ("__classdict__" : Str)) = false) : FnOk P w K mg base (L2.CX P w) (k + 1) fI fd ["self", x] (sp1 K f) := by
  refine F.ok S (fun vs H Q E h => ?_) fun cdv A outer s H vs Q E _ h => ?_
  · obtain ⟨a, C, y, rfl, _⟩ := h; rfl
  · obtain ⟨a, C, y, rfl, T, hno, ea, h⟩ := h
    refine ⟨tOst K f (tVar 0) (tVar 1), pss_one (ps_ost (pe_var rfl v1) (pe_var rfl v2 d1 d2)), ?_⟩
    exact ⟨y, rfl, .ref a, rfl, a, C, rfl, T, hno, .inl ⟨ea, fun dx n ne => h dx n ne⟩⟩
/-- the own class x with the field f may be raised -/
structure ExI (P : Program) (w : World) (K : PySem.W.Frag) (mg : Str → Option Value) (base : Heap) (k : Nat) (x f : Str) : Prop where
  ex : ∃ (C fI : Addr) (fd : FuncData) (y : Str), mg x = some (.ref C) ∧ OexC K C ∧ PySem.W.findIn K (.ref C) f = some none ∧ PySem.W.findIn K (.ref C) "__init__" = some (some (.ref fI)) ∧ PySem.W.typeIn K (.ref fI) = some (.type "function") ∧
    FnOk P w K mg base (L2.CX P w) k fI fd ["self", y] (sp1 K f) ∧ Binds K fd ["self", y] []
end
def aRaise1 (c f : Str) (fe : AE) : AS := fun ρ h => .ofRes ρ (fe ρ h) fun v h1 => .exc ⟨c, [f], [v]⟩ ρ h1
section
variable {X : Cx} {W : WX} {k : Nat} {x f : Str} {e : Expr} {fe : AE} {p pos pos' : Pos}
theorem DS.raise1 (E : ExI X.prog X.w X.K X.mg X.base k x f) (hc : X.calm = true) (tk : Takes X W) (hr : Room (k + 1) X.A) (he : DE X W e fe) (hg : Gl X x := by rfl) (hdb : (x == ("__debug__" : Str)) = false := by rfl)
    (hst : starEach [e] X.env = (false, eval e X.env) :: starEach [] X.env := by rfl) (hpl : (backTo pos (starEach [] X.env)).any (·.1) = false := by rfl) : DS X W (.Raise (some (.Call (.Name x p) [e] [] pos)) none pos') (aRaise1 x f fe) := by
  obtain ⟨C, fI, fd, y, hm, T, hno, iC, tI, F1, hb⟩ := E.ex
  have mk := pmk_oex (dvs := []) T iC tI F1 hr (ds := []) hb .nil (passes_call (E := fun _ _ _ => False) tk fun _ _ _ _ z => z.elim) hg hm (DA.cons he DA.nil hst).pa hdb hst hpl (p := p)
  refine ⟨PS.wk (ps_raise hc tk mk) fun D σ H hh => ?_⟩
  obtain ⟨Z, μ, ρ, h, rh, re, pp⟩ := hh
  refine ⟨Z, μ, ρ, h, rh, re, ?_⟩
  unfold aRaise1 at pp
  show Post (cc X Z) μ H (fun c d H' => W c d σ H') _ ((fe ρ h).bind fun v h1 => (aNil ρ h1).bind fun l h2 => .ok (v :: l) h2)
  cases ev : fe ρ h with
  | bad => rw [ev] at pp; exact pp
  | exc z h1 => rw [ev] at pp; exact fun μ' H' cls d e1 r1 q => pp μ' H' σ cls d e1 r1 (re.mono e1) q
  | ok v h1 =>
    rw [ev] at pp
    intro μ' H' e1 r1 xs rl
    obtain ⟨x1, t, rfl, rv, rt⟩ := rl.inv
    simp only [RVs] at rt
    subst rt
    refine ⟨by show 1 ≤ 1000; omega, fun a na => ⟨a, C, x1, rfl, T, hno, upd_same, fun dx n ne => ⟨rfl, dx, [(f, x1)], upd_same, by rw [upd_ne ne, upd_same], ?_, ?_⟩⟩⟩
    · rw [upd_ne ne] at n; exact n
    · rw [upd_ne ne] at n
      have same : upd (del (upd (upd (upd H' a (exo a C none)) dx (exd dx [(f, x1)])) a (exo a C (some dx))) a) dx (.xd [(f, x1)]) = upd H' dx (.xd [(f, x1)]) := by
        funext b
        by_cases h1 : b = dx
        · rw [h1, upd_same, upd_same]
        · rw [upd_ne h1, upd_ne h1]
          by_cases h2 : b = a
          · rw [h2, del_same, na]
          · rw [del_ne h2, upd_ne h2, upd_ne h1, upd_ne h2]
      rw [same]
      have la := Ext.laid (H := H') μ' (o := .xd [(f, x1)]) n
      exact pp μ' _ σ _ _ (e1.trans la) (r1.laid n) ((re.mono e1).mono la) ⟨C, hm, rfl, dx, [x1], rfl, upd_same, r1.fresh n, .cons (rv.mono la) .nil⟩
end

/-! ### try .. except -/
theorem RepE.unset {C : Ctx} {μ : Mu} {H : Hp} {ρ : AEnv} {σ : L2.St} (r : RepE C μ H ρ σ) (i : Nat) : RepE C μ H (ρ.set i none) (σ.set i none) := by
  refine ⟨by simp [r.1], fun j v e => ?_⟩
  by_cases h : j = i
  · subst h
    by_cases hl : j < ρ.length
    · rw [List.getElem?_set_self hl] at e; cases e
    · rw [List.getElem?_eq_none (by simpa using hl)] at e; cases e
  · rw [List.getElem?_set_ne (Ne.symm h)] at e
    obtain ⟨x, h1, h2⟩ := r.2 j v e
    exact ⟨x, by rw [List.getElem?_set_ne (Ne.symm h)]; exact h1, h2⟩
/-- does the clause of the classes ys catch it -/
def hitL (T : ExTab) (ys : List Str) (c : Str) : Option Bool := if (decide (c ∈ T.cs) && ys.all fun y => decide (y ∈ T.ys)) = true then some (ys.any fun y => T.sub c y) else none
/-- the suite is left: nothing may name the exception any more -/
def outX : SRes → SRes
  | .nx ρ h => if (ρ.all oNoX && h.all AO.noX) = true then .nx ρ h else .bad
  | .bk ρ h => if (ρ.all oNoX && h.all AO.noX) = true then .bk ρ h else .bad
  | .ct ρ h => if (ρ.all oNoX && h.all AO.noX) = true then .ct ρ h else .bad
  | .rt v h => if (v.noX && h.all AO.noX) = true then .rt v h else .bad
  | .exc _ _ _ => .bad
  | .bad => .bad
def unI (i : Nat) : SRes → SRes
  | .nx ρ h => .nx (ρ.set i none) h
  | .bk ρ h => .bk (ρ.set i none) h
  | .ct ρ h => .ct (ρ.set i none) h
  | r => r
def aTryO (T : ExTab) (ys : List Str) (fb fs : AS) : AS := fun ρ h => match fb ρ h with
  | .exc e ρ1 h1 => (match hitL T ys e.cls with
    | some true => outX (fs ρ1 h1)
    | some false => .exc e ρ1 h1
    | none => .bad)
  | r => r
def aTryA (T : ExTab) (ys : List Str) (i : Nat) (fb fs : AS) : AS := fun ρ h => match fb ρ h with
  | .exc e ρ1 h1 => (match hitL T ys e.cls with
    | some true => outX (unI i (fs (ρ1.set i (some (.exn e.cls e.names e.vals))) h1))
    | some false => .exc e ρ1 h1
    | none => .bad)
  | r => r
section
variable {X : Cx} {W : WX} {T : ExTab} {pos np pos' : Pos} {fb fs : AS}
theorem cc_tr {pn : List (Addr × Obj)} {xe : Value → Shared → Prop} (hc : X.calm = true) : (fun Z => cc (X.tr pn xe) Z) = fun Z => cc X Z := by
  funext Z
  show Ctx.mk X.prog X.w X.K X.mg Z (hxOf X.calm pn) = cc X Z
  rw [cc_calm hc, hxOf_calm hc]
theorem tDS_eq {Y : Cx} {f : AS} (e : (fun Z => cc Y Z) = fun Z => cc X Z) : tDS Y W f = tDS X W f := by
  have key : ∀ c : List Addr → Ctx, (fun Z => cc Y Z) = c → tDS Y W f = fun D σ H => ∃ Z μ ρ h, RepH (c Z) μ h H ∧ RepE (c Z) μ H ρ σ ∧ PostS (c Z) μ H W D (f ρ h) := by
    rintro _ rfl; rfl
  rw [key _ e]; rfl
/-- what is asked of a suite, whatever the exception's object -/
def tSu (X : Cx) (fs : AS) : Addr → Value → Option Addr → TS := fun a cls d D σ H => ∀ (oe : Obj) (pn : List (Addr × Obj)), Zc cls d oe → (∃ vs, oe.data = .fields vs) → tDS (X.suite a ((a, oe) :: pn)) W0 fs D σ H
theorem outX_post {C C' : Ctx} {μ : Mu} {H : Hp} {D : Ends} {r : SRes} (hK : C.K = C'.K) (hm : C.mg = C'.mg) (hZ : C.Z = C'.Z) (hP : C.prog = C'.prog) (hw : C.w = C'.w) (p : PostS C μ H W D (outX r)) : PostS C' μ H W0 D r := by
  cases r with
  | bad => exact p
  | exc _ _ _ => exact p.elim
  | nx ρ h =>
    have p : PostS C μ H W D (if (ρ.all oNoX && h.all AO.noX) = true then .nx ρ h else .bad) := p
    by_cases hn : (ρ.all oNoX && h.all AO.noX) = true
    · rw [if_pos hn] at p
      have hn := Bool.and_eq_true_iff.mp hn
      exact fun μ1 H1 σ1 e1 r1 q1 => p μ1 H1 σ1 e1 (r1.swapX hK hm hZ hP hw hn.2) (q1.swapX hK hm hZ hn.1)
    · rw [if_neg hn] at p; exact (show False from p).elim
  | bk ρ h =>
    have p : PostS C μ H W D (if (ρ.all oNoX && h.all AO.noX) = true then .bk ρ h else .bad) := p
    by_cases hn : (ρ.all oNoX && h.all AO.noX) = true
    · rw [if_pos hn] at p
      have hn := Bool.and_eq_true_iff.mp hn
      exact fun μ1 H1 σ1 e1 r1 q1 => p μ1 H1 σ1 e1 (r1.swapX hK hm hZ hP hw hn.2) (q1.swapX hK hm hZ hn.1)
    · rw [if_neg hn] at p; exact (show False from p).elim
  | ct ρ h =>
    have p : PostS C μ H W D (if (ρ.all oNoX && h.all AO.noX) = true then .ct ρ h else .bad) := p
    by_cases hn : (ρ.all oNoX && h.all AO.noX) = true
    · rw [if_pos hn] at p
      have hn := Bool.and_eq_true_iff.mp hn
      exact fun μ1 H1 σ1 e1 r1 q1 => p μ1 H1 σ1 e1 (r1.swapX hK hm hZ hP hw hn.2) (q1.swapX hK hm hZ hn.1)
    · rw [if_neg hn] at p; exact (show False from p).elim
  | rt v h =>
    have p : PostS C μ H W D (if (v.noX && h.all AO.noX) = true then .rt v h else .bad) := p
    by_cases hn : (v.noX && h.all AO.noX) = true
    · rw [if_pos hn] at p
      have hn := Bool.and_eq_true_iff.mp hn
      exact fun μ1 H1 x e1 r1 q1 => p μ1 H1 x e1 (r1.swapX hK hm hZ hP hw hn.2) (q1.swapX hK hm hZ hn.1)
    · rw [if_neg hn] at p; exact (show False from p).elim
theorem unI_post {C : Ctx} {μ : Mu} {H : Hp} {D : Ends} {r : SRes} {i : Nat} (p : PostS C μ H W D (unI i r)) :
    PostS C μ H W { nx := fun σ' H' => D.nx (σ'.set i none) H', rt := D.rt, bk := fun σ' H' => D.bk (σ'.set i none) H', ct := fun σ' H' => D.ct (σ'.set i none) H' } r := by
  cases r with
  | nx ρ h => exact fun μ1 H1 σ1 e1 r1 q1 => p μ1 H1 _ e1 r1 (q1.unset i)
  | bk ρ h => exact fun μ1 H1 σ1 e1 r1 q1 => p μ1 H1 _ e1 r1 (q1.unset i)
  | ct ρ h => exact fun μ1 H1 σ1 e1 r1 q1 => p μ1 H1 _ e1 r1 (q1.unset i)
  | rt v h => exact p
  | exc _ _ _ => exact p
  | bad => exact p
/-- the caught exception as a value -/
theorem RX.exn {C C' : Ctx} {μ : Mu} {H : Hp} {e : AX} {cls : Value} {d : Option Addr} {a : Addr} {oe : Obj} (hn : C.hx = none) (hK : C'.K = C.K) (hm : C'.mg = C.mg) (hZ : C'.Z = C.Z) (hx : C'.hx = some (a, oe)) (r : RX C μ H e cls d) (z : Zc cls d oe) (hf : ∃ vs, oe.data = .fields vs) :
    RV C' μ H (.exn e.cls e.names e.vals) (.ref a) := by
  obtain ⟨Ca, h1, rfl, h2⟩ := r
  simp only [RV]
  cases hs : e.names with
  | nil =>
    rw [hs] at h2
    exact ⟨(a, oe), Ca, d, [], hx, rfl, by rw [hm]; exact h1, z, hf, by rw [h2.1]; exact .nil, .inl ⟨rfl, rfl, h2.2⟩⟩
  | cons y ys =>
    rw [hs] at h2
    obtain ⟨dx, xs, e1, e2, e3, e4⟩ := h2
    exact ⟨(a, oe), Ca, d, xs, hx, rfl, by rw [hm]; exact h1, z, hf, e4.swapX hK hm hZ (RVs.noX hn e4), .inr ⟨dx, e1, e2, e3⟩⟩
/-- within the suite -/
theorem su_of {Z : List Addr} {μ : Mu} {H : Hp} {ρ : AEnv} {h : AHeap} {σ : L2.St} {D : Ends} {a : Addr} {cls : Value} {d : Option Addr} (hc : X.calm = true) (rh : RepH (cc X Z) μ h H) (re : RepE (cc X Z) μ H ρ σ) (p : PostS (cc X Z) μ H W D (outX (fs ρ h))) : tSu X fs a cls d D σ H := by
  intro oe pn hz hf
  rw [cc_calm hc] at rh re p
  exact ⟨Z, μ, ρ, h, RepH.swapX (C := ⟨X.prog, X.w, X.K, X.mg, Z, none⟩) (C' := cc (X.suite a ((a, oe) :: pn)) Z) rfl rfl rfl rfl rfl (rh.noX rfl) rh, RepE.swapX (C := ⟨X.prog, X.w, X.K, X.mg, Z, none⟩) (C' := cc (X.suite a ((a, oe) :: pn)) Z) rfl rfl rfl (re.noX rfl) re, outX_post (C := ⟨X.prog, X.w, X.K, X.mg, Z, none⟩) (C' := cc (X.suite a ((a, oe) :: pn)) Z) rfl rfl rfl rfl rfl p⟩
theorem su_as {Z : List Addr} {μ : Mu} {H : Hp} {ρ : AEnv} {h : AHeap} {σ : L2.St} {D : Ends} {a : Addr} {cls : Value} {d : Option Addr} {i : Nat} {e : AX} (hc : X.calm = true) (rh : RepH (cc X Z) μ h H) (re : RepE (cc X Z) μ H ρ σ) (rx : RX (cc X Z) μ H e cls d)
    (p : PostS (cc X Z) μ H W D (outX (unI i (fs (ρ.set i (some (.exn e.cls e.names e.vals))) h)))) :
    tSu X fs a cls d { nx := fun σ' H' => D.nx (σ'.set i none) H', rt := D.rt, bk := fun σ' H' => D.bk (σ'.set i none) H', ct := fun σ' H' => D.ct (σ'.set i none) H' } (σ.set i (some (.ref a))) H := by
  intro oe pn hz hf
  rw [cc_calm hc] at rh re p rx
  have q := RX.exn (C := ⟨X.prog, X.w, X.K, X.mg, Z, none⟩) (C' := cc (X.suite a ((a, oe) :: pn)) Z) (a := a) (oe := oe) rfl rfl rfl rfl rfl rx hz hf
  exact ⟨Z, μ, _, h, RepH.swapX (C := ⟨X.prog, X.w, X.K, X.mg, Z, none⟩) (C' := cc (X.suite a ((a, oe) :: pn)) Z) rfl rfl rfl rfl rfl (rh.noX rfl) rh, (RepE.swapX (C := ⟨X.prog, X.w, X.K, X.mg, Z, none⟩) (C' := cc (X.suite a ((a, oe) :: pn)) Z) rfl rfl rfl (re.noX rfl) re).set q i, unI_post (outX_post (C := ⟨X.prog, X.w, X.K, X.mg, Z, none⟩) (C' := cc (X.suite a ((a, oe) :: pn)) Z) rfl rfl rfl rfl rfl p)⟩
theorem hit_ok (E : ExT T X.K X.mg) {y : Str} {c : Value} {cls : Value} {e : AX} {b : Bool} {C : Ctx} {μ : Mu} {H : Hp} {d : Option Addr} (hm : C.mg = X.mg) (r : RX C μ H e cls d) (hc : X.mg y = some c) (h : hitL T [y] e.cls = some b) : PySem.W.exmOne X.K cls c = some b := by
  unfold hitL at h
  split at h
  · rename_i hh
    cases h
    simp only [List.all_cons, List.all_nil, Bool.and_true, Bool.and_eq_true, decide_eq_true_eq] at hh
    obtain ⟨a, e1, _, _, f, _⟩ := E.ex e.cls hh.1
    obtain ⟨b, e2, _, e3⟩ := f y hh.2
    obtain ⟨Ca, g1, rfl, _⟩ := r
    rw [hm, e1] at g1
    rw [e2] at hc
    cases g1; cases hc
    simpa using e3
  · cases h
theorem DS.tryO {y : Str} {body suite : List Stmt} {b₀ : Stmt} (E : ExT T X.K X.mg) (hy : ∃ c, X.mg y = some (.ref c)) (hc : X.calm = true) (hs : X.stack = X.env :: X.outer) (hf : X.env.frame = some X.env.locals) (tk : Takes X W)
    (hb : ∀ (W : WX) (pn : List (Addr × Obj)) (xe : Value → Shared → Prop), Takes (X.tr pn xe) W → PassesOwn (model X.prog X.w) X.A X.env xe → DSs (X.tr pn xe) W body fb)
    (hsu : ∀ (a : Addr) (oe : Obj) (pn : List (Addr × Obj)), (∃ vs, oe.data = .fields vs) → DSs (X.suite a ((a, oe) :: pn)) W0 (b₀ :: suite) fs) (hg : Gl X y := by rfl) (hd : (y == ("__debug__" : Str)) = false := by rfl) :
    DS X W (.Try body [.ExceptHandler (some (.Name y np)) none (b₀ :: suite) pos'] [] [] pos) (aTryO T [y] fb fs) := by
  obtain ⟨c, hy⟩ := hy
  refine ⟨PS.wk (ps_try_only (Wout := W) (tb := fun W => tDS X W fb) (ts := tSu X fs) hs hf ⟨hg, hd, .inl hy⟩ tk (fun W pn xe t o => tDS_eq (cc_tr hc) ▸ (hb W pn xe t o).pss) fun a oe cls d pn hz hf => PSs.wk (hsu a oe pn hf).pss fun D σ H h => h oe pn hz hf) fun D σ H h => ?_⟩
  obtain ⟨Z, μ, ρ, h, rh, re, p⟩ := h
  refine ⟨Z, μ, ρ, h, rh, re, ?_⟩
  unfold aTryO at p
  cases ev : fb ρ h with
  | nx _ _ => rw [ev] at p; exact p
  | rt _ _ => rw [ev] at p; exact p
  | bk _ _ => rw [ev] at p; exact p
  | ct _ _ => rw [ev] at p; exact p
  | bad => rw [ev] at p; exact p
  | exc x ρ1 h1 =>
    rw [ev] at p
    dsimp only at p
    intro μ1 H1 σ1 cls d e1 r1 q1 rx
    cases hh : hitL T [y] x.cls with
    | none => rw [hh] at p; exact p.elim
    | some b =>
      rw [hh] at p
      have ok := hit_ok E rfl rx hy hh
      cases b with
      | true => exact ⟨true, ok, fun _ a _ => su_of hc r1 q1 (PostS.ext e1 p), nofun⟩
      | false => exact ⟨false, ok, nofun, fun _ => p μ1 H1 σ1 cls d e1 r1 q1 rx⟩
theorem DS.tryA {y n : Str} {i : Nat} {body suite : List Stmt} {b₀ : Stmt} (E : ExT T X.K X.mg) (hy : ∃ c, X.mg y = some (.ref c)) (hc : X.calm = true) (hN : X.N.Nodup) (hs : X.stack = X.env :: X.outer) (hf : X.env.frame = some X.env.locals) (tk : Takes X W)
    (hb : ∀ (W : WX) (pn : List (Addr × Obj)) (xe : Value → Shared → Prop), Takes (X.tr pn xe) W → PassesOwn (model X.prog X.w) X.A X.env xe → DSs (X.tr pn xe) W body fb)
    (hsu : ∀ (a : Addr) (oe : Obj) (pn : List (Addr × Obj)), (∃ vs, oe.data = .fields vs) → DSs (X.suite a ((a, oe) :: pn)) W0 (b₀ :: suite) fs) (hi : X.N[i]? = some n := by rfl) (hln : X.env.kindOf n = some .local := by rfl) (hg : Gl X y := by rfl) (hd : (y == ("__debug__" : Str)) = false := by rfl) :
    DS X W (.Try body [.ExceptHandler (some (.Name y np)) (some n) (b₀ :: suite) pos'] [] [] pos) (aTryA T [y] i fb fs) := by
  obtain ⟨c, hy⟩ := hy
  refine ⟨PS.wk (ps_try_as (Wout := W) (i := i) (tb := fun W => tDS X W fb) (ts := tSu X fs) hs hf hN hi hln ⟨hg, hd, .inl hy⟩ tk (fun W pn xe t o => tDS_eq (cc_tr hc) ▸ (hb W pn xe t o).pss) fun a oe cls d pn hz hf => PSs.wk (hsu a oe pn hf).pss fun D σ H h => h oe pn hz hf) fun D σ H h => ?_⟩
  obtain ⟨Z, μ, ρ, h, rh, re, p⟩ := h
  refine ⟨Z, μ, ρ, h, rh, re, ?_⟩
  unfold aTryA at p
  cases ev : fb ρ h with
  | nx _ _ => rw [ev] at p; exact p
  | rt _ _ => rw [ev] at p; exact p
  | bk _ _ => rw [ev] at p; exact p
  | ct _ _ => rw [ev] at p; exact p
  | bad => rw [ev] at p; exact p
  | exc x ρ1 h1 =>
    rw [ev] at p
    dsimp only at p
    intro μ1 H1 σ1 cls d e1 r1 q1 rx
    cases hh : hitL T [y] x.cls with
    | none => rw [hh] at p; exact p.elim
    | some b =>
      rw [hh] at p
      have ok := hit_ok E rfl rx hy hh
      cases b with
      | true => exact ⟨true, ok, fun _ a _ => su_as hc r1 q1 rx (PostS.ext e1 p), nofun⟩
      | false => exact ⟨false, ok, nofun, fun _ => p μ1 H1 σ1 cls d e1 r1 q1 rx⟩
end
end AI
namespace AI
open PySem PySem.Spec PyProof.Rows
open L2

/-! ### try .. except (C1, C2, C3, C4) as n -/
theorem flying_keeps {B : Heap} {l : List Env} {e : Addr} {Z : Obj → Prop} {h h' : Heap} (f : PySem.HandSPX.FlyingZ B l e Z h) (k : ∀ b o, h.get? b = some o → h'.get? b = some o) : PySem.HandSPX.FlyingZ B l e Z h' := by
  obtain ⟨f1, f2, f3, oe, vs, T, oT, ts, g1, g2, g3, g4, g5, g6, g7, g8, g9⟩ := f
  exact ⟨fun b o q => k b o (f1 b o q), f2, .of_keeps (fun b o q _ => ⟨o, k b o q, rfl⟩) f3, oe, vs, T, oT, ts, k _ _ g1, g2, g3, g4, g5, g6, k _ _ g7, g8, g9⟩
section
variable {X : Cx} {W : WX} {x1 x2 x3 x4 n : Str} {c1 c2 c3 c4 : Addr} {i kt : Nat} {body suite : List Stmt} {b₀ : Stmt} {q1 q2 q3 q4 np pos pos' : Pos} {tb : WX → TS} {ts : Addr → Value → Option Addr → TS} {Wout : WX}
def wFour (K : PySem.W.Frag) (cs : List Value) (i : Nat) (ts : Addr → Value → Option Addr → TS) (Wout : WX) (D : Ends) : WX := fun cls d σ H => ∃ b, PySem.W.exmAny K cls cs = some b ∧
  (b = true → ∀ a, H a = none → ts a cls d { nx := fun s z => D.nx (s.set i none) z, rt := D.rt, bk := fun s z => D.bk (s.set i none) z, ct := fun s z => D.ct (s.set i none) z } (σ.set i (some (.ref a))) H) ∧ (b = false → Wout cls d σ H)
/-- the tuple of the classes is made -/
theorem four_names {pins : List (Addr × Obj)} {σ : L2.St} {H : Hp} {s : Shared} {Q E : Value → Shared → Prop} (I : Inv X pins σ H s) (g1 : Gl X x1) (g2 : Gl X x2) (g3 : Gl X x3) (g4 : Gl X x4) (m1 : X.mg x1 = some (.ref c1)) (m2 : X.mg x2 = some (.ref c2)) (m3 : X.mg x3 = some (.ref c3)) (m4 : X.mg x4 = some (.ref c4))
    (d1 : (x1 == ("__debug__" : Str)) = false) (d2 : (x2 == ("__debug__" : Str)) = false) (d3 : (x3 == ("__debug__" : Str)) = false) (d4 : (x4 == ("__debug__" : Str)) = false)
    (q : Q (.ref s.heap.objs.size) { s with heap := s.heap.push { cls := .type "tuple", data := .seq [Value.ref c1, .ref c2, .ref c3, .ref c4].toArray } }) :
    wpAny (model X.prog X.w) X.A (eval (.Tuple [.Name x1 q1, .Name x2 q2, .Name x3 q3, .Name x4 q4] kt np) X.env) Q E s := by
  refine wpAny_Tuple_spliced ?_
  show wpAny _ _ (spliced [(false, eval (.Name x1 q1) X.env), (false, eval (.Name x2 q2) X.env), (false, eval (.Name x3 q3) X.env), (false, eval (.Name x4 q4) X.env)]) _ _ _
  refine Calls.spliced_cons (ld_glob I g1 m1 ?_ d1)
  refine Calls.spliced_cons (ld_glob I g2 m2 ?_ d2)
  refine Calls.spliced_cons (ld_glob I g3 m3 ?_ d3)
  refine Calls.spliced_cons (ld_glob I g4 m4 ?_ d4)
  exact Calls.spliced_nil ⟨by show 4 ≤ sizeLine; rw [sizeLine_eq]; omega, q⟩
theorem ps_try_four (hs : X.stack = X.env :: X.outer) (hf : X.env.frame = some X.env.locals) (hN : X.N.Nodup) (hi : X.N[i]? = some n) (hln : X.env.kindOf n = some .local) (g1 : Gl X x1) (g2 : Gl X x2) (g3 : Gl X x3) (g4 : Gl X x4)
    (m1 : X.mg x1 = some (.ref c1)) (m2 : X.mg x2 = some (.ref c2)) (m3 : X.mg x3 = some (.ref c3)) (m4 : X.mg x4 = some (.ref c4)) (d1 : (x1 == ("__debug__" : Str)) = false) (d2 : (x2 == ("__debug__" : Str)) = false) (d3 : (x3 == ("__debug__" : Str)) = false) (d4 : (x4 == ("__debug__" : Str)) = false) (tk : Takes X Wout)
    (hb : ∀ (W : WX) (pn : List (Addr × Obj)) (xe : Value → Shared → Prop), Takes (X.tr pn xe) W → PassesOwn (model X.prog X.w) X.A X.env xe → PSs (X.tr pn xe) body (tb W))
    (hsu : ∀ (a : Addr) (oe : Obj) (cls : Value) (d : Option Addr) (pn : List (Addr × Obj)), Zc cls d oe → (∃ vs, oe.data = .fields vs) → PSs (X.suite a ((a, oe) :: pn)) (b₀ :: suite) (ts a cls d)) :
    PS X (.Try body [.ExceptHandler (some (.Tuple [.Name x1 q1, .Name x2 q2, .Name x3 q3, .Name x4 q4] kt np)) (some n) (b₀ :: suite) pos'] [] [] pos) (fun D σ H => tb (wFour X.K [.ref c1, .ref c2, .ref c3, .ref c4] i ts Wout D) D σ H) := by
  refine ⟨fun pins s σ H D I h => ?_⟩
  have ok := I.ok
  have fr := show X.A.frames = some (X.env :: X.outer) by rw [ok.frames, hs]
  refine wpAny_Try_except ?_
  refine wpAny_mono ((hb (wFour X.K [.ref c1, .ref c2, .ref c3, .ref c4] i ts Wout D) (X.pn ++ pins) (fun u t0 => wpAny (model X.prog X.w) X.A (noteFrame u X.env) (fun _ t1 => wpAny (model X.prog X.w) X.A (setFlight u none) (fun _ t2 => wpAny (model X.prog X.w) X.A (handleBy u X.env
    [.ExceptHandler (some (.Tuple [.Name x1 q1, .Name x2 q2, .Name x3 q3, .Name x4 q4] kt np)) (some n) (b₀ :: suite) pos']) (SP X pins D) X.xe t2) X.xe t1) X.xe t0) (fun u s' air => ?_) PassesOwn.looking).run [] s σ H D (I.toTry _) h) (fun f s1 done => ?_) (fun _ _ z => z)
  · obtain ⟨a, B, s0, pins', σ', H', cls, d, rfl, J', nb, up, sky, na, os, ag, b, hit, yes, no⟩ := air
    have J : Inv X pins σ' H' s0 := J'.ofTry ok
    rw [show (X.tr (X.pn ++ pins) _).stack = X.env :: X.outer from hs] at sky
    show wpAny (model X.prog X.w) X.A (noteFrame (.ref a) X.env) _ _ _
    refine Sky.land Zc.steady fr hf sky fun h1 f1 u1 => ?_
    have J1 : Inv X pins σ' H' { s' with heap := h1 } := J.landed nb f1.1 (up.trans u1) os ag
    obtain ⟨o1, v1, at1, z1, w1⟩ := f1.there
    have off : ∀ {h : Heap} {o : Obj} {vs : Array Value}, h.FunFrames B (X.env :: X.outer) → h.get? a = some o → o.data = .fields vs → a ∉ frs (X.env :: X.outer) := fun {h o vs} ff g dd m => by
      obtain ⟨_, o', g', nf⟩ := ff.mem m
      rw [g] at g'; cases g'
      exact nf _ dd
    have nfr := off f1.2.2.1 at1 w1
    have nL : a ≠ X.env.locals := fun z => nfr (List.mem_filterMap.mpr ⟨X.env, List.mem_cons_self, by rw [hf, z]⟩)
    have nF : a ∉ X.fs := fun m => let ⟨e, he, q⟩ := List.mem_filterMap.mp m; nfr (List.mem_filterMap.mpr ⟨e, List.mem_cons_of_mem _ he, q⟩)
    have S1 := J1.suite at1 w1 na nL nF
    refine PySem.W.exc_clause_as ?_
    refine four_names (X := X.suite a ((a, o1) :: (X.pn ++ pins))) S1 g1 g2 g3 g4 m1 m2 m3 m4 d1 d2 d3 d4 ?_
    let h2 : Heap := h1.push { cls := .type "tuple", data := .seq [Value.ref c1, .ref c2, .ref c3, .ref c4].toArray }
    have kp : ∀ b o, h1.get? b = some o → h2.get? b = some o := fun b o e => Heap.get?_push_of_some _ e
    have J2 : Inv X pins σ' H' { s' with heap := h2 } := J1.kept (t' := s'.toks) kp
    have LT : PySem.W.Looks (model X.prog X.w) h2 (typeOf (.ref a)) cls := fun A Q E s k q => wpAny_typeOf_ref (k _ _ (kp _ _ at1)) (by rw [z1.1]; exact q)
    refine ⟨b, PySem.W.exm_tup4 J2.kIn LT (Heap.get?_push_size _ rfl) hit, ?_⟩
    have f2 : PySem.HandSPX.FlyingZ B (X.env :: X.outer) a (Zc cls d) h2 := flying_keeps f1 kp
    cases b with
    | true =>
      refine PySem.HandSPX.lands_againZ f2 fun h4 f4 u4 => ?_
      have J4 : Inv X pins σ' H' { s' with heap := h4 } := J.landed nb f4.1 (((up.trans u1).trans (Heap.UpToSlots.of_keeps kp)).trans u4) os ag
      obtain ⟨o4, v4, at4, z4, w4⟩ := f4.there
      have S4 := J4.suite at4 w4 na nL nF
      refine store_ok (X := X.suite a ((a, o4) :: (X.pn ++ pins))) (v := .ref a) S4 hN hi (.inl hln) rfl (fun s5 S5 => ?_) (.inr hln)
      refine wpAny_mono ((hsu a o4 cls d (X.pn ++ pins) z4 ⟨_, w4⟩).run [] s5 _ H' _ S5 (yes rfl a na)) (fun f s6 r6 => ?_) (fun _ _ z => False.elim z)
      cases f with
      | next => obtain ⟨σ6, H6, S6, q6⟩ := r6; exact gone_ok (S6.unsuite ok) hN hi hln fun s7 J7 => ⟨_, _, J7, q6⟩
      | brk => obtain ⟨σ6, H6, S6, q6⟩ := r6; exact gone_ok (S6.unsuite ok) hN hi hln fun s7 J7 => ⟨_, _, J7, q6⟩
      | cont => obtain ⟨σ6, H6, S6, q6⟩ := r6; exact gone_ok (S6.unsuite ok) hN hi hln fun s7 J7 => ⟨_, _, J7, q6⟩
      | ret u => obtain ⟨v6, σ6, H6, S6, rv, q6⟩ := r6; exact gone_ok (S6.unsuite ok) hN hi hln fun s7 J7 => ⟨_, _, _, J7, rv, q6⟩
    | false =>
      show wpAny _ X.A (handleBy (.ref a) X.env []) _ _ _
      refine wpAny_handleBy_nil ?_
      obtain ⟨k1, k2, k3, oe, vs, tb1, ot, tv, e1, e2, e3, e4, e5⟩ := id f2
      have fin : wpAny (model X.prog X.w) X.A (setFlight (.ref a) X.env.frame) (fun _ t4 => wpAny (model X.prog X.w) X.A (throw (.ref a) : Sem Flow) (SP X pins D) X.xe t4) X.xe { s' with heap := h2 } := by
        rw [hf]
        refine PySem.HandSPX.setFlight_upZ f2 fun h4 held u4 => wpAny_throw (tk _ _ ?_)
        exact ⟨a, B, s0, pins, σ', H', cls, d, rfl, J, nb, ((up.trans u1).trans (Heap.UpToSlots.of_keeps kp)).trans u4, .inr (.inr (by rw [hs]; exact held)), na, os, ag, no rfl⟩
      unfold PySem.passOn
      refine wpAny_bind (wpAny_field e1 e3 e4 ?_)
      rw [if_neg (show ¬ ((Value.ref tb1 == Value.none) = true) by simp)]
      first
        | exact wpAny_bind fin
        | exact wpAny_bind (wpAny_pure (wpAny_bind fin))
  · cases f with
    | next => obtain ⟨σ', H', J', q⟩ := done; exact wpAny_execs_nil ⟨σ', H', J'.ofTry ok, q⟩
    | brk => obtain ⟨σ', H', J', q⟩ := done; exact ⟨σ', H', J'.ofTry ok, q⟩
    | cont => obtain ⟨σ', H', J', q⟩ := done; exact ⟨σ', H', J'.ofTry ok, q⟩
    | ret u => obtain ⟨v, σ', H', J', rv, q⟩ := done; exact ⟨v, σ', H', J'.ofTry ok, rv, q⟩
end
section
variable {X : Cx} {W : WX} {T : ExTab} {pos np pos' : Pos} {fb fs : AS}
theorem hit_any {K : PySem.W.Frag} {cls : Value} : ∀ {cs : List Value} {bs : List Bool}, cs.length = bs.length → (∀ (i : Nat) (c : Value) (b : Bool), cs[i]? = some c → bs[i]? = some b → PySem.W.exmOne K cls c = some b) → PySem.W.exmAny K cls cs = some (bs.any _root_.id)
  | [], [], _, _ => rfl
  | c :: cs, b :: bs, hl, h => by
    have h1 := h 0 c b rfl rfl
    have h2 := hit_any (cs := cs) (bs := bs) (by simpa using hl) fun i c b e1 e2 => h (i + 1) c b (by simpa using e1) (by simpa using e2)
    unfold PySem.W.exmAny
    rw [h1, h2]
    simp
  | [], _ :: _, hl, _ => by simp at hl
  | _ :: _, [], hl, _ => by simp at hl
theorem hit_four (E : ExT T X.K X.mg) {y1 y2 y3 y4 : Str} {c1 c2 c3 c4 : Addr} {cls : Value} {e : AX} {b : Bool} {C : Ctx} {μ : Mu} {H : Hp} {d : Option Addr} (hm : C.mg = X.mg) (r : RX C μ H e cls d)
    (m1 : X.mg y1 = some (.ref c1)) (m2 : X.mg y2 = some (.ref c2)) (m3 : X.mg y3 = some (.ref c3)) (m4 : X.mg y4 = some (.ref c4)) (h : hitL T [y1, y2, y3, y4] e.cls = some b) : PySem.W.exmAny X.K cls [.ref c1, .ref c2, .ref c3, .ref c4] = some b := by
  have one : ∀ {y : Str} {c : Addr}, e.cls ∈ T.cs → y ∈ T.ys → X.mg y = some (.ref c) → PySem.W.exmOne X.K cls (.ref c) = some (T.sub e.cls y) := fun {y c} h1 h2 m =>
    hit_ok E hm r m (by unfold hitL; simp [h1, h2])
  unfold hitL at h
  split at h
  · rename_i hh
    cases h
    simp only [List.all_cons, List.all_nil, Bool.and_true, Bool.and_eq_true, decide_eq_true_eq] at hh
    obtain ⟨h0, h1, h2, h3, h4⟩ := hh
    have z := hit_any (K := X.K) (cls := cls) (cs := [.ref c1, .ref c2, .ref c3, .ref c4]) (bs := [T.sub e.cls y1, T.sub e.cls y2, T.sub e.cls y3, T.sub e.cls y4]) rfl fun i c b e1 e2 => by
      match i with
      | 0 => cases e1; cases e2; exact one h0 h1 m1
      | 1 => cases e1; cases e2; exact one h0 h2 m2
      | 2 => cases e1; cases e2; exact one h0 h3 m3
      | 3 => cases e1; cases e2; exact one h0 h4 m4
      | n + 4 => simp at e1
    rw [z]; rfl
  · cases h
theorem DS.tryF {y1 y2 y3 y4 n : Str} {i kt : Nat} {p1 p2 p3 p4 : Pos} {body suite : List Stmt} {b₀ : Stmt} (E : ExT T X.K X.mg) (m1 : ∃ c, X.mg y1 = some (.ref c)) (m2 : ∃ c, X.mg y2 = some (.ref c)) (m3 : ∃ c, X.mg y3 = some (.ref c)) (m4 : ∃ c, X.mg y4 = some (.ref c)) (hc : X.calm = true) (hN : X.N.Nodup)
    (hs : X.stack = X.env :: X.outer) (hf : X.env.frame = some X.env.locals) (tk : Takes X W)
    (hb : ∀ (W : WX) (pn : List (Addr × Obj)) (xe : Value → Shared → Prop), Takes (X.tr pn xe) W → PassesOwn (model X.prog X.w) X.A X.env xe → DSs (X.tr pn xe) W body fb)
    (hsu : ∀ (a : Addr) (oe : Obj) (pn : List (Addr × Obj)), (∃ vs, oe.data = .fields vs) → DSs (X.suite a ((a, oe) :: pn)) W0 (b₀ :: suite) fs) (hi : X.N[i]? = some n := by rfl) (hln : X.env.kindOf n = some .local := by rfl)
    (g1 : Gl X y1 := by rfl) (g2 : Gl X y2 := by rfl) (g3 : Gl X y3 := by rfl) (g4 : Gl X y4 := by rfl) (d1 : (y1 == ("__debug__" : Str)) = false := by rfl) (d2 : (y2 == ("__debug__" : Str)) = false := by rfl) (d3 : (y3 == ("__debug__" : Str)) = false := by rfl) (d4 : (y4 == ("__debug__" : Str)) = false := by rfl) :
    DS X W (.Try body [.ExceptHandler (some (.Tuple [.Name y1 p1, .Name y2 p2, .Name y3 p3, .Name y4 p4] kt np)) (some n) (b₀ :: suite) pos'] [] [] pos) (aTryA T [y1, y2, y3, y4] i fb fs) := by
  obtain ⟨c1, m1⟩ := m1
  obtain ⟨c2, m2⟩ := m2
  obtain ⟨c3, m3⟩ := m3
  obtain ⟨c4, m4⟩ := m4
  refine ⟨PS.wk (ps_try_four (Wout := W) (i := i) (tb := fun W => tDS X W fb) (ts := tSu X fs) hs hf hN hi hln g1 g2 g3 g4 m1 m2 m3 m4 d1 d2 d3 d4 tk (fun W pn xe t o => tDS_eq (cc_tr hc) ▸ (hb W pn xe t o).pss) fun a oe cls d pn hz hf => PSs.wk (hsu a oe pn hf).pss fun D σ H h => h oe pn hz hf) fun D σ H h => ?_⟩
  obtain ⟨Z, μ, ρ, h, rh, re, p⟩ := h
  refine ⟨Z, μ, ρ, h, rh, re, ?_⟩
  unfold aTryA at p
  cases ev : fb ρ h with
  | nx _ _ => rw [ev] at p; exact p
  | rt _ _ => rw [ev] at p; exact p
  | bk _ _ => rw [ev] at p; exact p
  | ct _ _ => rw [ev] at p; exact p
  | bad => rw [ev] at p; exact p
  | exc x ρ1 h1 =>
    rw [ev] at p
    dsimp only at p
    intro μ1 H1 σ1 cls d e1 r1 q1 rx
    cases hh : hitL T [y1, y2, y3, y4] x.cls with
    | none => rw [hh] at p; exact p.elim
    | some b =>
      rw [hh] at p
      have ok := hit_four E rfl rx m1 m2 m3 m4 hh
      cases b with
      | true => exact ⟨true, ok, fun _ a _ => su_as hc r1 q1 rx (PostS.ext e1 p), nofun⟩
      | false => exact ⟨false, ok, nofun, fun _ => p μ1 H1 σ1 cls d e1 r1 q1 rx⟩
end
/-! ### defs that are called within an except suite -/
/-- the handled exception's object -/
def spH (P : Program) (w : World) (K : PySem.W.Frag) (mg : Str → Option Value) (p : Addr × Obj) (n : Nat) (m : MF) (vs : List V) (H : Hp) (Q : VK) : Prop :=
  vs.length = n ∧ ∃ Z μ h as, RepH ⟨P, w, K, mg, Z, some p⟩ μ h H ∧ RVs ⟨P, w, K, mg, Z, some p⟩ μ H as vs ∧ Post ⟨P, w, K, mg, Z, some p⟩ μ H (fun _ _ _ => False) (RVK ⟨P, w, K, mg, Z, some p⟩ Q) (m as h)
structure FGH (P : Program) (w : World) (K : PySem.W.Frag) (mg : Str → Option Value) (base : Heap) (k : Nat) (f : Addr) (fd : FuncData) (ps : List Str) (m : MF) : Prop where
  run : ∀ (A : Around) (outer : List Env) (s : Shared) (H : Hp) (args : Args) (us : List Value) (vs : List V) (Q : VK) (p : Addr × Obj), L2H.RoomH k A → A.guards = some [] → L2H.PinOk outer H s p → Env0 P w K mg base A outer s H → BindsTo s fd args (ps.zip us) →
    Vals vs us → spH P w K mg p ps.length m vs H Q → codeAny (model P w) A (.call (.ref f) args) (CR (L2.CX P w) outer P w H s Q fun _ _ _ => False) s
/-- what such a def's derivation leans on -/
structure Ch (k : Nat) (X : Cx) : Prop where
  nd : X.N.Nodup
  rm : L2H.RoomH k X.A
  gd : X.A.guards = some []
  hx : ∃ p : Addr × Obj, X.calm = false ∧ X.pn.head? = some p
section
variable {X : Cx} {k : Nat}
theorem Ch.u1 (c : Ch k X) : X.A.units + 64 < cLine := by have := c.rm.un; omega
theorem Ch.u2 (c : Ch k X) : X.A.units + 65 < cLine := by have := c.rm.un; omega
theorem Ch.u3 (c : Ch k X) : X.A.units + 100 < cLine := by have := c.rm.un; omega
/-- the suite of an except clause -/
theorem Cn.su (c : Cn k X) {a : Addr} {oe : Obj} {pn : List (Addr × Obj)} : Ch k (X.suite a ((a, oe) :: pn)) := ⟨c.nd, ⟨c.rm.dp, c.rm.un⟩, c.gd, ⟨(a, oe), rfl, rfl⟩⟩
theorem Cn.t (c : Cn k X) {pn : List (Addr × Obj)} {xe : Value → Shared → Prop} : Cn k (X.tr pn xe) := ⟨c.cm, c.nd, c.rm, c.gd⟩
end
section
variable {P : Program} {w : World} {K : PySem.W.Frag} {mg : Str → Option Value} {base : Heap} {k : Nat} {f : Addr} {fd : FuncData} {x qual : Str} {params : Arguments} {body : List Stmt} {scope : Scope} {dvs : List V} {kws : List (Str × V)} {N ps : List Str} {fb : AS}
theorem FGH.of (gc : Bool) (F : FunD K x qual params body scope dvs kws f fd) (S : FnScope N ps scope)
    (hbody : ∀ (cdv : Value) (A : Around) (outer : List Env) (s : Shared) (H : Hp) (p : Addr × Obj), L2H.RoomH k (A.deeper (envOfC qual scope s.heap.objs.size f cdv)) → A.guards = some [] →
      DSs (L2H.cxH (L2.CX P w) P w K mg base N qual scope f cdv A outer s H (fun _ _ _ => False) p) W0 body fb) : FGH P w K mg base (k + 1) f fd ps (aDef gc ps.length N.length fb) := by
  obtain ⟨oc, od, dV, kV, doc, pm, an, cdv, ct, osl, rfl, look, code, _, _⟩ := F.ex
  refine ⟨fun A outer s H args us vs Q p room quiet pin e0 binding vals spec => ?_⟩
  obtain ⟨hlen, Z, μ, h, as, rh, ra, post⟩ := spec
  have inK : K.In s.heap := e0.mod.kin.keeps fun b o e => (e0.bs b o e).1
  have noLim : s.heap.NoLimit := e0.mod.nolimit.keeps fun b o e => (e0.bs b o e).1
  refine codeAny_call_function room.depth (inK _ _ look) rfl S.co S.gen rfl (PySem.W.codeRec_of inK code) (binding _ _ _ _ ?_)
  refine wpAny_newFunctionEnv_cells S.kind (fun ⟨nm, vl⟩ hy => ?_) fun env henv s1 started => ?_
  · rcases S.par nm (List.of_mem_zip hy).1 with q | q
    · exact .inl q
    · exact .inr ⟨q, PySem.W.cellsFrom_some _ _ _ (.inl q)⟩
  · subst henv
    refine ⟨noLim.keeps started.toInCall.keep, codeAny_func ?_⟩
    have I := L2H.inv_startH (CX := L2.CX P w) (N := N) (E := fun _ _ _ => False) (cd := cdv) (f := f) (qual := qual) (p := p) S pin e0 hlen vals started
    have hal : as.length = ps.length := by rw [← ra.length]; exact hlen
    unfold aDef at post
    rw [if_pos hal] at post
    have p1 := gcIf_post rh post
    have run := (hbody cdv A outer s H p (room.deeper _) quiet).pss.run [] s1 (L2.start N vs) H { nx := fun _ H' => Q .non H', rt := Q } I ⟨Z, μ, _, h, rh, repE_start (N := N) ra, by
      rw [hal]
      cases eb : fb (as.map some ++ List.replicate (N.length - ps.length) none) h with
      | rt v h' => rw [eb] at p1; exact fun μ' H' x e' r' rx => p1 μ' H' e' r' x rx
      | nx ρ' h' => rw [eb] at p1; exact fun μ' H' σ' e' r' _ => p1 μ' H' e' r' .non .non
      | exc x ρ' h' => rw [eb] at p1; exact fun μ' H' σ' cls d e' r' _ rx => p1 μ' H' cls d e' r' rx
      | bk ρ' h' => rw [eb] at p1; exact p1.elim
      | ct ρ' h' => rw [eb] at p1; exact p1.elim
      | bad => rw [eb] at p1; exact p1⟩
    refine wpAny_mono run (fun fl s' hs => ?_) fun e s' hs => hs
    cases fl with
    | ret u => obtain ⟨v, σ', H', J, rv, q⟩ := hs; exact ⟨v, H', J.os, J.bare, J.base, J.hok, rv, q⟩
    | next => obtain ⟨σ', H', J, q⟩ := hs; exact ⟨V.non, H', J.os, J.bare, J.base, J.hok, rfl, q⟩
    | brk => obtain ⟨_, _, _, q⟩ := hs; exact q.elim
    | cont => obtain ⟨_, _, _, q⟩ := hs; exact q.elim
/-- the text's def x, called within an except suite -/
structure FnX (P : Program) (w : World) (K : PySem.W.Frag) (mg : Str → Option Value) (base : Heap) (k : Nat) (x : Str) (m : MF) : Prop where
  ex : ∃ f fd ps, mg x = some (.ref f) ∧ PySem.W.keepIn K (.ref f) = true ∧ Binds K fd ps [] ∧ (∀ l h, l.length ≠ ps.length → m l h = .bad) ∧ FGH P w K mg base k f fd ps m
theorem FGH.mono {j : Nat} {m : MF} (F : FGH P w K mg base j f fd ps m) (h : j ≤ k) : FGH P w K mg base k f fd ps m := ⟨fun A outer s H args us vs Q p hr => F.run A outer s H args us vs Q p (hr.mono h)⟩
theorem FnX.mono {j : Nat} {m : MF} (F : FnX P w K mg base j x m) (h : j ≤ k) : FnX P w K mg base k x m := by
  obtain ⟨f, fd, ps, h1, h2, h3, h4, h5⟩ := F.ex
  exact ⟨f, fd, ps, h1, h2, h3, h4, h5.mono h⟩
theorem FnX.of {st : Stmt} {m : MF} (F : FnP K x st f fd) (g : mg x = some (.ref f)) (hl : ∀ l h, l.length ≠ ps.length → m l h = .bad)
    (hb : ∀ (kV doc pm : Value) (an : Option Addr) (cdv ct : Value) (us : List Value), us.length = ps.length → bindArgs (PySem.W.fnOf x x (defArgs st) (defBody st) (defScope st) .none kV doc pm an cdv ct) ⟨us, []⟩ = pure (ps.zip us))
    (G : FGH P w K mg base k f fd ps m) : FnX P w K mg base k x m := ⟨f, fd, ps, g, F.kp, F.bindsN hb, hl, G⟩
end
section
variable {X : Cx} {W : WX} {k : Nat} {x : Str} {m : MF} {e : Expr} {es : List Expr} {fa : AA} {p pos : Pos}
theorem DE.callX (F : FnX X.prog X.w X.K X.mg X.base k x m) (c : Ch k X) (ha : DA X W0 (e :: es) fa) (hgl : Gl X x := by rfl) (hdb : (x == ("__debug__" : Str)) = false := by rfl)
    (he : starEach (e :: es) X.env = (false, eval e X.env) :: starEach es X.env := by rfl) (hpl : (backTo pos (starEach es X.env)).any (·.1) = false := by rfl) : DE X W0 (.Call (.Name x p) (e :: es) [] pos) (aCall m fa) := by
  obtain ⟨f, fd, ps, hm, hk, hb, hlen, FF⟩ := F.ex
  obtain ⟨pin, calm, head⟩ := c.hx
  have ctx : ∀ Z, cc X Z = ⟨X.prog, X.w, X.K, X.mg, Z, some pin⟩ := fun Z => by
    unfold cc
    rw [show hxOf X.calm X.pn = some pin by rw [calm]; exact head]
  refine ⟨⟨fun pins s σ H Q I h => ?_⟩⟩
  refine wpAny_Call_Name_kw (ld_glob I hgl hm ?_ hdb)
  obtain ⟨Z, μ, ρ, h, rh, re, pp⟩ := h
  have go : tDA X W0 fa σ H fun xs H1 => spH X.prog X.w X.K X.mg pin ps.length m xs H1 Q := by
    refine tDA.seq rh re pp fun μ1 H1 h1 l xs e1 rh1 re1 rl p1 => ?_
    by_cases hl : l.length = ps.length
    · rw [ctx Z] at rh1 rl p1; exact ⟨rl.length.trans hl, Z, μ1, h1, l, rh1, rl, p1⟩
    · rw [hlen l h1 hl] at p1; exact p1.elim
  refine PySem.W.callWith_K (h₀ := X.base) I.ok.mod.kin hk (thn (ha.pa.run pos pins s σ H _ I go) fun us s1 ⟨vs, H1, I1, r, q⟩ => ⟨I1.kIn, ?_⟩) he hpl
  have bt := hb s1 us I1.kIn (by rw [List.append_nil, ← r.length]; exact q.1)
  rw [List.append_nil] at bt
  have hp : pin ∈ X.pn := by
    cases hq : X.pn with
    | nil => rw [hq] at head; cases head
    | cons a b => rw [hq] at head; cases head; exact List.mem_cons_self ..
  have P1 := I1.pin pin (List.mem_append_left _ hp)
  have ok : L2H.PinOk X.stack H1 s1 pin := ⟨P1.1, P1.2.1, fun z => (List.mem_cons.mp (I1.stkSub pin.1 z)).elim P1.2.2.1 P1.2.2.2.1, P1.2.2.2.2⟩
  refine wpAny_call (codeAny_mono (FF.run X.A X.stack s1 H1 ⟨us, []⟩ us vs Q pin c.rm c.gd ok I1.env0 bt r q) fun res s' back => ?_)
  cases res with
  | error u =>
    obtain ⟨_, _, _, _, _, _, _, _, _, _, _, _, z⟩ := back
    exact z.elim
  | ok fl =>
    cases fl with
    | ret u => exact I1.after back
    | next => exact back.elim
    | brk => exact back.elim
    | cont => exact back.elim
end
end AI
namespace AI
open PySem PySem.Spec PyProof.Rows
open L2

/-! ### l.extend(m), l.count(x), l.index(x) -/
def opExtend : PMo := fun h l o => match l, o with
  | [.ref m], .list xs => (match h[m]? with
    | some (.list ys) => if decide (xs.length + ys.length < szM) = true then some (.non, .list (xs ++ ys)) else none
    | _ => none)
  | _, _ => none
def opCount : PMo := fun _ l o => match l, o with
  | [v], .list xs => (match AV.datas xs, v.data with
    | some ds, some d => if (SeqAt.shaped (.list ds) && SeqAt.shaped d) = true then some (.int (ds.countP fun z => PyData.eqv z d : Nat), .list xs) else none
    | _, _ => none)
  | _, _ => none
def opIndex : PMo := fun _ l o => match l, o with
  | [v], .list xs => (match AV.datas xs, v.data with
    | some ds, some d => if (SeqAt.shaped (.list ds) && SeqAt.shaped d) = true then (match ds.findIdx? fun z => PyData.eqv z d with
      | some j => some (.int (j : Nat), .list xs)
      | none => none) else none
    | _, _ => none)
  | _, _ => none
section
variable {X : Cx}
theorem VMo.extend : VMo X "list.extend" opExtend := by
  intro pins s σ H x xs v us Q I rx rs hh
  obtain ⟨Z, μ, h, n, a, u, l, w, u', rfl, rh, ea, eu, rl, eo, k⟩ := hh
  unfold opExtend at eo
  split at eo
  · rename_i m xs'
    split at eo
    · rename_i ys em
      split at eo
      · rename_i hc
        cases eo
        obtain ⟨z, rfl, rz⟩ := rl.one
        obtain ⟨b, rfl, eb⟩ := rz.ref_inv
        obtain ⟨vs, e1, e2⟩ := rh.obj n _ a eu ea
        obtain ⟨zs, f1, f2⟩ := rh.obj m _ b em eb
        have hle : vs.length + zs.length ≤ sizeLine := by rw [e2.length, f2.length, ← szM_eq]; exact Nat.le_of_lt (of_decide_eq_true hc)
        have w : Ext μ H μ (upd H a (.lst (vs ++ zs))) := ext_write ea
        exact mt_extend pins s σ H _ _ v us Q I rx rs ⟨a, b, vs, zs, rfl, rfl, e1, f1, hle, k _ _ w (rh.write ea ⟨_, upd_same, (e2.append f2).mono w⟩) .non⟩
      · cases eo
    · cases eo
  · cases eo
theorem set_same {h : AHeap} {n : Nat} {u : AO} (e : h[n]? = some u) : h.set n u = h := by
  obtain ⟨hl, e⟩ := List.getElem?_eq_some_iff.mp e
  subst e
  exact List.set_getElem_self hl
theorem VMo.index (hu : X.A.units + 65 < cLine) : VMo X "list.index" opIndex := by
  intro pins s σ H x xs v us Q I rx rs hh
  obtain ⟨Z, μ, h, n, a, u, l, w, u', rfl, rh, ea, eu, rl, eo, k⟩ := hh
  unfold opIndex at eo
  split at eo
  · rename_i y xs'
    split at eo
    · rename_i ds d ed1 ed2
      split at eo
      · rename_i hc
        split at eo
        · rename_i j ej
          cases eo
          obtain ⟨z, rfl, rz⟩ := rl.one
          obtain ⟨vs, e1, e2⟩ := rh.obj n _ a eu ea
          obtain ⟨c1, c2⟩ := Bool.and_eq_true_iff.mp hc
          obtain ⟨hj, h1, h2⟩ := List.findIdx?_eq_some_iff_getElem.mp ej
          refine mt_indexD hu pins s σ H _ _ v us Q I rx rs ⟨a, z, d, ds, j, ds[j], rfl, rfl, .lst (.inl (.inl e1)) (datas_dp e2 ed1), data_dp rz ed2, c1, c2, List.getElem?_eq_getElem hj, h1, fun m z' hm e => ?_, k H _ (.refl μ H) (by rw [set_same eu]; exact rh) .int⟩
          have q := h2 m hm
          obtain ⟨hl, rfl⟩ := List.getElem?_eq_some_iff.mp e
          simpa using q
        · cases eo
      · cases eo
    · cases eo
  · cases eo
theorem VMo.count (hu : X.A.units + 65 < cLine) : VMo X "list.count" opCount := by
  intro pins s σ H x xs v us Q I rx rs hh
  obtain ⟨Z, μ, h, n, a, u, l, w, u', rfl, rh, ea, eu, rl, eo, k⟩ := hh
  unfold opCount at eo
  split at eo
  · rename_i y xs'
    split at eo
    · rename_i ds d ed1 ed2
      split at eo
      · rename_i hc
        cases eo
        obtain ⟨z, rfl, rz⟩ := rl.one
        obtain ⟨vs, e1, e2⟩ := rh.obj n _ a eu ea
        obtain ⟨c1, c2⟩ := Bool.and_eq_true_iff.mp hc
        obtain ⟨uz, rfl, ruz⟩ := Vals.one rs
        cases (show v = Value.ref a from rx)
        obtain ⟨bs, r1⟩ := Dp.reads I d z uz (data_dp rz ed2) ruz
        have lay : PyData.canLayAll0 ds = true := SeqAt.canLay_of_shaped c1
        have room : X.A.units + 1 + min (PyData.depthAll ds) d.depth < cLine := room_in_shaped c2 hu
        obtain ⟨sz, its, n', rv, _, at_⟩ := I.lstM e1
        obtain ⟨as, h4⟩ := Dp.readsAll I ds _ its (datas_dp e2 ed1) rv
        have hmap : its.map (SeqAt.readOf s.heap) = ds := SeqAt.readsAll_map ds its as lay h4
        refine call_meets PySem.F.slot_list_count ⟨_, at_, rfl⟩ PySem.F.entry_list_count (PySem.F.args_list_count_2 _ _)
          (SeqAt.list_countAt a its.toArray n' none #[] uz fun u => PyData.eqv (SeqAt.readOf s.heap u) d) ⟨at_, SeqAt.items_eqAt (vs := its.toArray) (show ReadsAll s.heap its.toArray.toList ds as from h4) r1 lay (SeqAt.canLay_of_shaped c2) room, ?_⟩
        refine ⟨.int (ds.countP fun z => PyData.eqv z d : Nat), H, I.tok _, ⟨s.toks, ?_⟩, k H _ (.refl μ H) (by rw [set_same eu]; exact rh) .int⟩
        show Value.int ((List.countP (fun u => PyData.eqv (SeqAt.readOf s.heap u) d) its : Nat) : Int) s.toks = _
        rw [← hmap, List.countP_map]
        rfl
      · cases eo
    · cases eo
  · cases eo
end
end AI
namespace AI
open PySem PySem.Spec PyProof.Rows
open L2

/-! ### set(l), the items ints and texts -/
def foldS (ks : List Key) : List Key := ks.foldl putS []
theorem foldS_succ {ks : List Key} {i : Nat} (hi : i < ks.length) : foldS (ks.take (i + 1)) = putS (foldS (ks.take i)) ks[i] := by
  unfold foldS
  rw [List.take_succ_eq_append_getElem hi, List.foldl_append]; rfl
theorem memK_put {ks : List Key} {q k' : Key} : (memK ks k' || decide (k' = q)) = memK (putS ks q) k' := by
  unfold putS
  by_cases hm : memK ks q = true
  · rw [if_pos hm]
    by_cases hk : k' = q
    · subst hk; rw [hm]; simp
    · simp [hk]
  · rw [if_neg hm]
    unfold memK
    rw [List.any_append]
    congr 1
    by_cases hk : k' = q
    · subst hk; simp
    · have : ¬ q = k' := fun z => hk z.symm
      simp [hk, this]
theorem putS_len {ks : List Key} {q : Key} : (putS ks q).length = if memK ks q = true then ks.length else ks.length + 1 := by
  unfold putS
  split <;> simp
theorem foldS_len : ∀ (i : Nat) (ks : List Key), (foldS (ks.take i)).length ≤ i
  | 0, ks => by simp [foldS]
  | i + 1, ks => by
    by_cases hi : i < ks.length
    · rw [foldS_succ hi, putS_len]
      have := foldS_len i ks
      split <;> omega
    · rw [List.take_of_length_le (by omega)]
      have := foldS_len i ks
      rw [List.take_of_length_le (by omega)] at this
      omega
section
variable {P : Program} {w : World} {A : Around} {R : Result → Shared → Prop} {I : Addr} {fp wr : List Addr} {G : Array GenState → Array GenState → Prop} {n : Nat} {V : Nat → Value → Prop} {St : Nat → Shared → Prop}
theorem fill_loop (W : WalksS P w A.in1 I fp wr G n V St) {a : Addr} (out : a ∉ fp) {ks : List Key} (hn : ks.length = n) (few : n + 1 < scanBound) (hv : ∀ (i : Nat) (v : Value) (hi : i < ks.length), V i v → (mixKind P w).is ks[i] v = true ∧ v.scannable = true) :
    ∀ (m i : Nat) (s : Shared), n - i = m → i ≤ n → St i s → s.heap.SetOf (mixKind P w) a (memK (foldS (ks.take i))) (foldS (ks.take i)).length →
      (∀ s', Moved (a :: wr) G s s' → s'.heap.SetOf (mixKind P w) a (memK (foldS ks)) (foldS ks).length → R (.ok (.ret .none)) s') → codeAny (model P w) A (.builtin "set.update.loop" ⟨[.ref a, .ref I], []⟩) R s := by
  have outW : a ∉ wr := fun z => out (W.sub _ z)
  have more : ∀ b ∈ wr, b ∈ a :: wr := fun b z => List.mem_cons_of_mem _ z
  intro m
  induction m with
  | zero =>
    intro i s hm hi st at_ fin
    obtain rfl : i = n := by omega
    refine codeAny_builtin PyProof.Rows.F.entry_set_update_loop ?_
    rw [Around.under_plainId PyProof.Rows.F.plain_set_update_loop _]
    refine wpAny_bind (W.done s _ _ st fun s' mv => ?_)
    refine wpAny_pure (fin s' (mv.mono more) ?_)
    obtain ⟨o, es, ep, t, ho, r⟩ := at_
    rw [List.take_of_length_le (by omega)] at r
    exact ⟨o, es, ep, t, mv.heap a _ outW ho, r⟩
  | succ m ih =>
    intro i s hm hi st at_ fin
    have lt : i < ks.length := by omega
    refine codeAny_builtin PyProof.Rows.F.entry_set_update_loop ?_
    rw [Around.under_plainId PyProof.Rows.F.plain_set_update_loop _]
    refine wpAny_bind (W.item i s _ _ (by omega) st fun v s' hV st' mv => ?_)
    obtain ⟨key, scan⟩ := hv i v lt hV
    have here : s'.heap.SetOf (mixKind P w) a (memK (foldS (ks.take i))) (foldS (ks.take i)).length := by
      obtain ⟨o, es, ep, t, ho, r⟩ := at_
      exact ⟨o, es, ep, t, mv.heap a _ outW ho, r⟩
    show wpAny _ A.in1 (holding [v] (setAdd a v) >>= _) _ _ s'
    refine wpAny_bind (wpAny_holding ?_)
    unfold setAdd
    refine wpAny_holding (wpAny_bind ((mixKind P w).pyHash (k := ks[i]) key ?_))
    have room : (foldS (ks.take i)).length + 1 < scanBound := by have := foldS_len i ks; omega
    refine wpAny_setAddHashed_of (knd := mixKind P w) (s := { s' with toks := s'.toks + 1 }) key scan here room fun h' same new => ?_
    have next : h'.SetOf (mixKind P w) a (memK (foldS (ks.take (i + 1)))) (foldS (ks.take (i + 1))).length :=
      by
      have e1 : (fun k' => memK (foldS (ks.take i)) k' || decide (k' = ks[i])) = memK (foldS (ks.take (i + 1))) := by
        funext k'
        rw [foldS_succ lt]; exact memK_put
      have e2 : (if memK (foldS (ks.take i)) ks[i] = true then (foldS (ks.take i)).length else (foldS (ks.take i)).length + 1) = (foldS (ks.take (i + 1))).length := by rw [foldS_succ lt, putS_len]
      rw [← e1, ← e2]; exact new
    refine wpAny_pure ⟨plainId_quiet PyProof.Rows.F.plain_set_update_loop _, ih (i + 1) _ (by omega) (by omega) (W.frame _ s' _ _ st' (Nat.le_succ _) fun b hb o e => ?_) next fun s2 mv2 at2 => ?_⟩
    · exact (same.2 b fun z => out (z ▸ hb)).trans e
    · exact fin s2 (Moved.trans W.gtrans ((mv.mono more).then_heap (Nat.le_succ _) fun b o hb e => (same.2 b fun z => hb (z ▸ List.mem_cons_self)).trans e) mv2) at2
end
section
variable {P : Program} {w : World} {A : Around} {E : Value → Shared → Prop} {s : Shared}
/-- set(l), l a list -/
theorem set_of_list {l : Addr} {us : Array Value} {ks : List Key} {Q : Value → Shared → Prop} (cold : A.handled = none) (isl : s.heap.IsList l us) (hlen : ks.length = us.size) (few : us.size + 1 < scanBound)
    (hk : ∀ (i : Nat) (v : Value) (hi : i < ks.length), us[i]? = some v → (mixKind P w).is ks[i] v = true ∧ v.scannable = true)
    (q : ∀ (h' : Heap) (tk : Nat), h'.SetOf (mixKind P w) s.heap.objs.size (memK (foldS ks)) (foldS ks).length → (∀ b o, s.heap.get? b = some o → h'.get? b = some o) → Q (.ref s.heap.objs.size) { s with heap := h', toks := tk }) :
    wpAny (model P w) A (call (.type "set") [.ref l]) Q E s := by
  obtain ⟨mc, mt, mro⟩ := PySem.F.called_set.mro
  have made := PySem.F.called_set.made
  have sub := PySem.F.called_set.sub
  refine wpAny_call (codeAny_of_tree ?_)
  show wpAny _ _ (callAny (.type "set") _) _ _ _
  refine wpAny_pure ⟨Code.quiet_builtin _ (by decide +kernel), codeAny_builtin PySem.F.entry_type_call ?_⟩
  rw [Around.under_plain (weight_type_call_type "set" [.ref l] []) rfl]
  have f1 := PySem.F.called_set.notType
  have f2 := PySem.F.called_set.canCreate
  have f3 := PySem.F.typeCall_set_1 (.ref l)
  repeat (any_goals (first | assumption | wp_step))
  let emp : Bool → Obj := fun led => { cls := .type "set", dict := none, data := .set #[] 0 (.fresh 0 0 led) }
  refine codeAny_mono (code_set_new_1 (.ref l) (E := E) (Q₁ := fun obj z => ∃ led : Bool, obj = .ref s.heap.objs.size ∧ z = { s with heap := s.heap.push (emp led) }) fun led => ⟨led, rfl, rfl⟩) fun r z hr => ?_
  cases r with
  | error e => exact hr
  | ok fl =>
    cases fl with
    | ret obj =>
      obtain ⟨led, rfl, rfl⟩ := hr
      have at0 : (s.heap.push (emp led)).get? s.heap.objs.size = some (emp led) := Heap.get?_push_size _ rfl
      have ty0 : Shared.TypeIs { s with heap := s.heap.push (emp led) } (.ref s.heap.objs.size) "set" := ⟨_, at0, rfl⟩
      have g1 := PySem.F.called_set.init.lookup
      have g2 := PySem.F.called_set.init.bind (.ref s.heap.objs.size)
      repeat (any_goals (first | assumption | wp_step))
      refine codeAny_mono (codeAny_call_builtin (R := wants (fun r y => r = .none ∧ ∃ h' tk, y = { s with heap := h', toks := tk } ∧ h'.SetOf (mixKind P w) s.heap.objs.size (memK (foldS ks)) (foldS ks).length ∧ (∀ b o, s.heap.get? b = some o → h'.get? b = some o)) E)
        PySem.F.called_set.init.plain PySem.F.entry_set_init (check_set_init_1 ty0 ?_)) fun r2 y hy => ?_
      · obtain ⟨ol, hol, hcl, nl, hdl⟩ := isl
        obtain ⟨oc, od, dt, sl⟩ := ol
        simp only at hcl hdl
        subst hcl hdl
        have at1 : (s.heap.push (emp led)).get? l = some { cls := .type "list", dict := od, data := .seq us nl, slots := sl } := Heap.get?_push_of_some _ hol
        have k1 := PySem.F.sub_list_set
        have k2 := PySem.F.sub_list_frozenset
        have k3 : (Value.type "list" == Value.type "dict") = false := by decide
        have isl1 : (s.heap.push (emp led)).IsList l us := ⟨_, at1, rfl, nl, rfl⟩
        unfold Builtin.«set.__init__» noKeywords Builtin.Frozenset.updateFrom
        generalize iter : pyIter = PI
        wp_walk
        subst iter
        refine wpAny_pyIter_list isl1 ?_
        refine wpAny_bind (wpAny_runValue ?_)
        have lt := Heap.lt_size hol
        have cold3 : A.in1.in1.in1.handled = none := by simp [cold]
        have sz1 : (s.heap.push (emp led)).objs.size = s.heap.objs.size + 1 := Heap.size_push ..
        have neI : l ≠ (s.heap.push (emp led)).objs.size := by rw [sz1]; exact Nat.ne_of_lt (Nat.lt_succ_of_lt lt)
        have outI : s.heap.objs.size ∉ [(s.heap.push (emp led)).objs.size, l] := by
          rw [sz1]; simp only [List.mem_cons, List.not_mem_nil, or_false, not_or]; exact ⟨Nat.ne_of_lt (Nat.lt_succ_self _), Nat.ne_of_gt lt⟩
        refine fill_loop ((Walks.list cold3 _ l neI us).toS) outI hlen few (fun i v hi hv => hk i v hi hv) (us.size - 0) 0 _ (by omega) (Nat.zero_le _) ⟨⟨_, Heap.get?_push_size _ rfl, rfl, rfl⟩, (isl1.push _)⟩ ?c0 ?c1
        case c0 =>
          have at2 : ((s.heap.push (emp led)).push { cls := .type "list_iterator", data := .fields #[.ref l, .int 0 0] }).get? s.heap.objs.size = some (emp led) := Heap.get?_push_of_some _ at0
          exact ⟨_, #[], 0, _, at2, ⟨rfl, rfl, rfl⟩, rfl, fun e he => by simp at he, fun k => by simp [memK, foldS], by decide, by rfl, rfl⟩
        case c1 =>
          intro s' mv at3
          obtain ⟨h', g', d', tk', os'⟩ := s'
          cases (show g' = s.gens from mv.gens)
          cases (show d' = s.drawn from mv.drawn)
          cases (show os' = s.os from mv.os)
          show wpAny _ _ _ _ _ _
          refine wpAny_pure ?_
          show wpAny _ _ (ret Value.none) _ _ _
          refine wpAny_pure ⟨rfl, h', tk', rfl, at3, fun b o e => ?_⟩
          have hb := Heap.lt_size e
          refine mv.heap b o ?_ (Heap.get?_push_of_some _ (Heap.get?_push_of_some _ e))
          simp only [List.mem_cons, List.not_mem_nil, or_false, not_or]
          exact ⟨Nat.ne_of_lt hb, by rw [sz1]; exact Nat.ne_of_lt (Nat.lt_succ_of_lt hb)⟩
      · cases r2 with
        | error e => exact hy
        | ok f =>
          cases f with
          | ret r =>
            obtain ⟨rfl, h', tk, rfl, a1, a2⟩ := hy
            repeat (any_goals (first | assumption | wp_step))
            exact q _ _ a1 a2
          | _ => exact hy.elim
    | _ => exact hr.elim
end
end AI
namespace AI
open PySem PySem.Spec PyProof.Rows
open L2
def keysOf : List AV → Option (List Key)
  | [] => some []
  | v :: l => match keyOf v, keysOf l with
    | some k, some ks => some (k :: ks)
    | _, _ => none
theorem keys_rv {C : Ctx} {μ : Mu} {H : Hp} : ∀ {l : List AV} {xs : List V} {ks : List Key}, keysOf l = some ks → RVs C μ H l xs → xs = ks.map kV
  | [], _, _, e, r => by cases e; simpa [RVs] using r
  | v :: l, _, _, e, r => by
    obtain ⟨x, t, rfl, r1, r2⟩ := r.inv
    unfold keysOf at e
    split at e
    · rename_i k ks e1 e2
      cases e
      rw [key_rv r1 e1, keys_rv e2 r2]; rfl
    · cases e
def aSetOf (fa : AA) : AE := fun ρ h => (fa ρ h).bind fun l h1 => match l with
  | [v] => (match seqL h1 v with
    | some m => (match keysOf m with
      | some ks => if decide (ks.length + 1 < 4096) = true then .ok (.ref h1.length) (h1 ++ [.set (foldS ks)]) else .bad
      | none => .bad)
    | none => .bad)
  | _ => .bad
def rSetOf (X : Cx) : List V → Hp → VK → Prop := fun xs H Q => ∃ (l : Addr) (ks : List Key), xs = [.ref l] ∧ SqL X.K H l (ks.map kV) ∧ ks.length + 1 < 4096 ∧ ∀ p, H p = none → Q (.ref p) (upd H p (SetM X.prog X.w p (foldS ks)))
section
variable {X : Cx} {W : WX} {e : Expr} {es : List Expr} {fa : AA} {p pos : Pos}
theorem cr_setOf (hc : X.calm = true) : CallR X (.type "set") (rSetOf X) := by
  intro pins s σ H xs us Q I r h
  obtain ⟨l, ks, rfl, sq, few, q⟩ := h
  rw [Vals.ref1 r]
  obtain ⟨its, rv, pl, hz⟩ := I.list sq
  have hl : ks.length = its.toArray.size := by
    have := rv.length
    rw [List.length_map] at this
    simpa using this
  refine set_of_list (P := X.prog) (w := X.w) (ks := ks) (I.ok.hd hc) pl.isList hl (by rw [← hl]; exact few) (fun i v hi hv => ?_) fun h' tk at_ kp => ?_
  · obtain ⟨u, hu, ru⟩ := rv.get (i := i) (x := kV ks[i]) (by rw [List.getElem?_map, List.getElem?_eq_getElem hi]; rfl)
    have e : u = v := by
      have z : its[i]? = some v := by simpa using hv
      rw [hu] at z; cases z; rfl
    subst e
    exact ⟨kV_is ru, key_scan ru⟩
  · exact ⟨.ref s.heap.objs.size, upd H s.heap.objs.size (SetM X.prog X.w s.heap.objs.size (foldS ks)), I.laid (t' := tk) kp (Nat.le_refl _) (setM_ok at_), rfl, q _ (I.hok.fresh (Nat.le_refl _))⟩
theorem DE.setOf (hc : X.calm = true) (hg : Gl X "set") (hm : X.mg "set" = none) (ha : DA X W (e :: es) fa)
    (he : starEach (e :: es) X.env = (false, eval e X.env) :: starEach es X.env := by rfl) (hpl : (backTo pos (starEach es X.env)).any (·.1) = false := by rfl) : DE X W (.Call (.Name "set" p) (e :: es) [] pos) (aSetOf fa) := by
  refine ⟨PE.wk (pe_callTy (cr_setOf hc) hg hm (by decide +kernel) ha.pa (by decide) (by decide) he hpl) fun σ H Q h => ?_⟩
  obtain ⟨Z, μ, ρ, h, rh, re, pp⟩ := h
  refine tDA.seq rh re pp fun μ1 H1 h1 l xs e1 rh1 re1 rl p1 => ?_
  split at p1
  · rename_i v
    split at p1
    · rename_i m em
      split at p1
      · rename_i ks ek
        split at p1
        · rename_i few
          obtain ⟨x, rfl, rx⟩ := rl.one
          obtain ⟨a, ys, rfl, sq, ry⟩ := seqL_sq rh1 rx em
          rw [keys_rv ek ry] at sq
          refine ⟨a, ks, rfl, sq, of_decide_eq_true few, fun q hq => ?_⟩
          have ext : Ext μ1 H1 (μ1 ++ [q]) (upd H1 q (SetM X.prog X.w q (foldS ks))) := ext_push μ1 hq
          refine p1 (μ1 ++ [q]) _ ext (rh1.push hq (show OR (cc X Z) (μ1 ++ [q]) _ (.set (foldS ks)) q from upd_same)) _ (.ref ?_)
          rw [← rh1.len]; simp
        · exact p1.elim
      · exact p1.elim
    · exact p1.elim
  · exact p1.elim
end
end AI
namespace AI
open PySem PySem.Spec PyProof.Rows
open L2
def EnXR {α : Type} (E : AX → AHeap → Prop) (r : Res α) (P : α → AHeap → Prop) : Prop := match r with
  | .ok a h => P a h
  | .exc e h => E e h
  | .bad => False
def EnSXR (F : AX → AEnv → AHeap → Prop) (r : SRes) (N : AEnv → AHeap → Prop) (R : AV → AHeap → Prop) (B C : AEnv → AHeap → Prop) : Prop := match r with
  | .nx ρ h => N ρ h
  | .rt v h => R v h
  | .bk ρ h => B ρ h
  | .ct ρ h => C ρ h
  | .exc e ρ h => F e ρ h
  | .bad => False
variable {E : AX → AHeap → Prop} {F : AX → AEnv → AHeap → Prop}
section
variable {α β : Type} {ρ : AEnv} {h : AHeap} {P : AV → AHeap → Prop} {N B C : AEnv → AHeap → Prop} {R : AV → AHeap → Prop}
theorem EnXR.mono {r : Res α} {P Q : α → AHeap → Prop} (e : EnXR E r P) (k : ∀ a h, P a h → Q a h) : EnXR E r Q := by
  cases r with
  | ok a h => exact k a h e
  | exc _ _ => exact e
  | bad => exact e
theorem EnSXR.mono {r : SRes} {N' B' C' : AEnv → AHeap → Prop} {R' : AV → AHeap → Prop} (e : EnSXR F r N R B C) (h1 : ∀ a h, N a h → N' a h) (h2 : ∀ a h, R a h → R' a h) (h3 : ∀ a h, B a h → B' a h) (h4 : ∀ a h, C a h → C' a h) : EnSXR F r N' R' B' C' := by
  cases r with
  | nx _ _ => exact h1 _ _ e
  | rt _ _ => exact h2 _ _ e
  | bk _ _ => exact h3 _ _ e
  | ct _ _ => exact h4 _ _ e
  | exc _ _ _ => exact e
  | bad => exact e
theorem xn_bindQ {r : Res α} {k : α → AHeap → Res β} {P : β → AHeap → Prop} : EnXR E (r.bind k) P = EnXR E r fun a h => EnXR E (k a h) P := by cases r <;> rfl
theorem xn_okQ {a : α} {P : α → AHeap → Prop} : EnXR E (.ok a h) P = P a h := propext Iff.rfl
theorem xn_badQ {P : α → AHeap → Prop} : EnXR E (.bad : Res α) P = False := propext Iff.rfl
theorem xn_liftQ {o : Option AV} : EnXR E (lift1 o h) P = ∃ v, o = some v ∧ P v h := by
  cases o <;> simp [lift1, EnXR]
theorem xn_varQ {i : Nat} : EnXR E (aVar i ρ h) P = ∃ v, ρ[i]? = some (some v) ∧ P v h := by
  unfold aVar
  split
  · rename_i v e
    simp [e, EnXR]
  · rename_i e
    apply propext
    constructor
    · exact fun z => z.elim
    · rintro ⟨v, e2, _⟩; exact (e v e2).elim
theorem xn_cQ {v : AV} : EnXR E (aC v ρ h) P = P v h := propext Iff.rfl
theorem xn_binQ {op : POp2} {f g : AE} : EnXR E (aBin op f g ρ h) P = EnXR E (f ρ h) fun a h1 => EnXR E (g ρ h1) fun b h2 => ∃ v, op h2 a b = some v ∧ P v h2 := by
  unfold aBin; simp only [xn_bindQ, xn_liftQ]
theorem xn_unQ {op : POp1} {f : AE} : EnXR E (aUn op f ρ h) P = EnXR E (f ρ h) fun a h1 => ∃ v, op h1 a = some v ∧ P v h1 := by
  unfold aUn; simp only [xn_bindQ, xn_liftQ]
theorem xn_toBQ {v : AV} {P : Bool → AHeap → Prop} : EnXR E (toB v h) P = ∃ b, v = .bl b ∧ P b h := by
  cases v <;> simp [toB, EnXR]
theorem xn_testQ {f : AE} {P : Bool → AHeap → Prop} : EnXR E (aTest f ρ h) P = EnXR E (f ρ h) fun v h1 => ∃ b, v = .bl b ∧ P b h1 := by
  unfold aTest; simp only [xn_bindQ, xn_toBQ]
theorem xn_chainQ {op op' : POp2} {f g k : AE} : EnXR E (aChain op op' f g k ρ h) P = EnXR E (f ρ h) fun a h1 => EnXR E (g ρ h1) fun b h2 => ∃ q, op h2 a b = some (.bl q) ∧ (if q = true then EnXR E (k ρ h2) fun c h5 => ∃ v, op' h5 b c = some v ∧ P v h5 else P (.bl false) h2) := by
  unfold aChain
  simp only [xn_bindQ, xn_liftQ, xn_toBQ]
  congr 1; funext a h1; congr 1; funext b h2
  apply propext
  constructor
  · rintro ⟨v, e, q, rfl, z⟩
    refine ⟨q, e, ?_⟩
    cases q with
    | true => rw [if_pos rfl] at z ⊢; simpa only [xn_bindQ, xn_liftQ] using z
    | false => rw [if_neg Bool.false_ne_true] at z ⊢; exact z
  · rintro ⟨q, e, z⟩
    refine ⟨_, e, q, rfl, ?_⟩
    cases q with
    | true => rw [if_pos rfl] at z ⊢; simpa only [xn_bindQ, xn_liftQ] using z
    | false => rw [if_neg Bool.false_ne_true] at z ⊢; exact z
theorem xn_andTQ {f g : AT} {P : Bool → AHeap → Prop} : EnXR E (aAndT f g ρ h) P = EnXR E (f ρ h) fun b h1 => if b = true then EnXR E (g ρ h1) P else P false h1 := by
  unfold aAndT; simp only [xn_bindQ]; congr 1; funext b h1; cases b <;> rfl
theorem xn_orTQ {f g : AT} {P : Bool → AHeap → Prop} : EnXR E (aOrT f g ρ h) P = EnXR E (f ρ h) fun b h1 => if b = true then P true h1 else EnXR E (g ρ h1) P := by
  unfold aOrT; simp only [xn_bindQ]; congr 1; funext b h1; cases b <;> rfl
theorem xn_notTQ {f : AT} {P : Bool → AHeap → Prop} : EnXR E (aNotT f ρ h) P = EnXR E (f ρ h) fun b h1 => P (!b) h1 := by
  unfold aNotT; simp only [xn_bindQ, xn_okQ]
theorem xn_andQ {f g : AE} : EnXR E (aAnd f g ρ h) P = EnXR E (f ρ h) fun v h1 => ∃ b, v = .bl b ∧ (if b = true then EnXR E (g ρ h1) P else P (.bl false) h1) := by
  unfold aAnd; simp only [xn_bindQ, xn_toBQ]; congr 1; funext v h1; apply propext
  constructor
  · rintro ⟨b, rfl, z⟩; refine ⟨b, rfl, ?_⟩; cases b <;> exact z
  · rintro ⟨b, rfl, z⟩; refine ⟨b, rfl, ?_⟩; cases b <;> exact z
theorem xn_orQ {f g : AE} : EnXR E (aOr f g ρ h) P = EnXR E (f ρ h) fun v h1 => ∃ b, v = .bl b ∧ (if b = true then P (.bl true) h1 else EnXR E (g ρ h1) P) := by
  unfold aOr; simp only [xn_bindQ, xn_toBQ]; congr 1; funext v h1; apply propext
  constructor
  · rintro ⟨b, rfl, z⟩; refine ⟨b, rfl, ?_⟩; cases b <;> exact z
  · rintro ⟨b, rfl, z⟩; refine ⟨b, rfl, ?_⟩; cases b <;> exact z
theorem xn_notQ {f : AE} : EnXR E (aNot f ρ h) P = EnXR E (f ρ h) fun v h1 => ∃ b, v = .bl b ∧ P (.bl (!b)) h1 := by
  unfold aNot; simp only [xn_bindQ, xn_toBQ, xn_okQ]
theorem xn_ifQ {t : AT} {f g : AE} : EnXR E (aIf t f g ρ h) P = EnXR E (t ρ h) fun b h1 => if b = true then EnXR E (f ρ h1) P else EnXR E (g ρ h1) P := by
  unfold aIf; simp only [xn_bindQ]; congr 1; funext b h1; cases b <;> rfl
theorem xn_nilQ {P : List AV → AHeap → Prop} : EnXR E (aNil ρ h) P = P [] h := propext Iff.rfl
theorem xn_consQ {f : AE} {g : AA} {P : List AV → AHeap → Prop} : EnXR E (aCons f g ρ h) P = EnXR E (f ρ h) fun v h1 => EnXR E (g ρ h1) fun l h2 => P (v :: l) h2 := by
  unfold aCons; simp only [xn_bindQ, xn_okQ]
theorem xn_iteQ {c : Prop} [Decidable c] {a b : Res α} {P : α → AHeap → Prop} : EnXR E (if c then a else b) P = if c then EnXR E a P else EnXR E b P := by
  split <;> rfl
theorem xn_tupQ {g : AA} : EnXR E (aTup g ρ h) P = EnXR E (g ρ h) fun l h1 => szOk l = true ∧ P (.tup l) h1 := by
  unfold aTup; simp only [xn_bindQ]; congr 1; funext l h1
  by_cases hs : szOk l = true <;> simp [hs, EnXR]
theorem xn_listQ {g : AA} {P : List AV → AHeap → Prop} : EnXR E (aList g ρ h) P = EnXR E (g ρ h) fun l h1 => szOk l = true ∧ P l h1 := by
  unfold aList; simp only [xn_bindQ]; congr 1; funext l h1
  by_cases hs : szOk l = true <;> simp [hs, EnXR]
theorem xn_pureLQ {g : AA} : EnXR E (pureL g ρ h) P = EnXR E (g ρ h) fun l h1 => P (.lst l) h1 := by
  unfold pureL; simp only [xn_bindQ, xn_okQ]
theorem xn_newLQ {g : AA} : EnXR E (newL g ρ h) P = EnXR E (g ρ h) fun l h1 => P (.ref h1.length) (h1 ++ [.list l]) := by
  unfold newL; simp only [xn_bindQ, xn_okQ]
theorem xn_fnQ {op : PFn} {f : AA} : EnXR E (aFn op f ρ h) P = EnXR E (f ρ h) fun l h1 => ∃ v, op h1 l = some v ∧ P v h1 := by
  unfold aFn; simp only [xn_bindQ, xn_liftQ]
theorem xn_callQ {m : MF} {f : AA} : EnXR E (aCall m f ρ h) P = EnXR E (f ρ h) fun l h1 => EnXR E (m l h1) P := by
  unfold aCall; simp only [xn_bindQ]
theorem xn_callKQ {m : MF} {n k : Nat} {arr : List AV → List AV → List AV} {f g : AA} : EnXR E (aCallK m n k arr f g ρ h) P = EnXR E (f ρ h) fun l h1 => EnXR E (g ρ h1) fun r h2 => (l.length = n ∧ r.length = k) ∧ EnXR E (m (arr l r) h2) P := by
  unfold aCallK; simp only [xn_bindQ]; congr 1; funext l h1; congr 1; funext r h2
  by_cases hs : l.length = n ∧ r.length = k <;> simp [hs, EnXR]
theorem xn_methSQ {op : PMs} {f : AE} {g : AA} : EnXR E (aMethS op f g ρ h) P = EnXR E (f ρ h) fun o h1 => ∃ s, o = .str s ∧ EnXR E (g ρ h1) fun l h2 => ∃ v, op s h2 l = some v ∧ P v h2 := by
  unfold aMethS; simp only [xn_bindQ]; congr 1; funext o h1
  cases o with
  | str s =>
    dsimp only
    apply propext
    rw [xn_bindQ]
    simp only [xn_liftQ]
    constructor
    · intro z; exact ⟨s, rfl, z⟩
    · rintro ⟨t, e, z⟩; cases e; exact z
  | _ => simp [EnXR]
theorem xn_oNQ {P : Option Int → AHeap → Prop} : EnXR E (aoN ρ h) P = P none h := propext Iff.rfl
theorem xn_oSQ {f : AE} {P : Option Int → AHeap → Prop} : EnXR E (aoS f ρ h) P = EnXR E (f ρ h) fun v h1 => ∃ i, v = .int i ∧ P (some i) h1 := by
  unfold aoS; simp only [xn_bindQ]; congr 1; funext v h1
  cases v <;> simp [EnXR]
theorem xn_slQ {f : AE} {l u : AO1} : EnXR E (aSl f l u ρ h) P = EnXR E (f ρ h) fun a h1 => EnXR E (l ρ h1) fun i h2 => EnXR E (u ρ h2) fun j h3 => ∃ v, vSl h3 a i j = some v ∧ P v h3 := by
  unfold aSl; simp only [xn_bindQ, xn_liftQ]
theorem xn_rng1Q {f : AA} {P : List AV → AHeap → Prop} : EnXR E (aRng1 f ρ h) P = EnXR E (f ρ h) fun l h1 => ∃ j, l = [.int j] ∧ inR j = true ∧ P (iInts 0 j.toNat) h1 := by
  unfold aRng1; simp only [xn_bindQ]; congr 1; funext l h1
  apply propext
  constructor
  · intro z
    split at z
    · rename_i j
      by_cases hs : inR j = true
      · rw [if_pos hs] at z; exact ⟨j, rfl, hs, z⟩
      · rw [if_neg hs] at z; exact z.elim
    · exact z.elim
  · rintro ⟨j, rfl, hs, z⟩
    simp only [hs, if_true]; exact z
theorem xn_iterQ {f : AE} {P : List AV → AHeap → Prop} : EnXR E (aIter f ρ h) P = EnXR E (f ρ h) fun v h1 => ∃ l, itemsOf v = some l ∧ P l h1 := by
  unfold aIter; simp only [xn_bindQ]; congr 1; funext v h1
  cases itemsOf v <;> simp [EnXR]
theorem xn_lcQ {fi : AA} {g : AG} {t : AT} {fe : AE} {vs : List Nat} {P : List AV → AHeap → Prop} : EnXR E (aLc fi g t fe vs ρ h) P = EnXR E (fi ρ h) fun l h1 => szOk l = true ∧ EnXR E (lcL g t fe l (wipeA ρ vs) h1) P := by
  unfold aLc; simp only [xn_bindQ]; congr 1; funext l h1
  by_cases hs : szOk l = true <;> simp [hs, EnXR]
theorem xs_ofQ {r : Res α} {k : α → AHeap → SRes} : EnSXR F (.ofRes ρ r k) N R B C = EnXR (fun e h => F e ρ h) r fun a h => EnSXR F (k a h) N R B C := by cases r <;> rfl
theorem xs_seqQ {f g : AS} : EnSXR F (aSeq f g ρ h) N R B C = EnSXR F (f ρ h) (fun ρ1 h1 => EnSXR F (g ρ1 h1) N R B C) R B C := by
  unfold aSeq; cases f ρ h <;> rfl
theorem xs_skipQ : EnSXR F (aSkip ρ h) N R B C = N ρ h := propext Iff.rfl
theorem xs_retQ {f : AE} : EnSXR F (aRet f ρ h) N R B C = EnXR (fun e h => F e ρ h) (f ρ h) R := by unfold aRet; rw [xs_ofQ]; rfl
theorem xs_retNQ : EnSXR F (aRetN ρ h) N R B C = R .non h := propext Iff.rfl
theorem xs_ifQ {t : AT} {f g : AS} : EnSXR F (aIfS t f g ρ h) N R B C = EnXR (fun e h => F e ρ h) (t ρ h) fun b h1 => if b = true then EnSXR F (f ρ h1) N R B C else EnSXR F (g ρ h1) N R B C := by
  unfold aIfS; rw [xs_ofQ]; congr 1; funext b h1; cases b <;> rfl
theorem xs_asgQ {f : AE} {g : AG} : EnSXR F (aAsg f g ρ h) N R B C = EnXR (fun e h => F e ρ h) (f ρ h) fun v h1 => EnGR (g v ρ h1) N := by
  unfold aAsg; rw [xs_ofQ]; congr 1; funext v h1
  cases g v ρ h1 <;> rfl
theorem xs_par2Q {i j : Nat} {f : AA} : EnSXR F (aPar2 i j f ρ h) N R B C = EnXR (fun e h => F e ρ h) (f ρ h) fun l h1 => ∃ a b, l = [a, b] ∧ N ((ρ.set i (some a)).set j (some b)) h1 := by
  unfold aPar2; rw [xs_ofQ]; congr 1; funext l h1
  apply propext
  constructor
  · intro z
    split at z
    · rename_i a b; exact ⟨a, b, rfl, z⟩
    · exact z.elim
  · rintro ⟨a, b, rfl, z⟩; exact z
theorem xs_forQ {f : AA} {g : AG} {b : AS} : EnSXR F (aFor f g b ρ h) N R B C = EnXR (fun e h => F e ρ h) (f ρ h) fun l h1 => EnSXR F (loopS g b l ρ h1) N R B C := by
  unfold aFor; rw [xs_ofQ]
theorem xs_cutQ {f g : AS} (M : AEnv → AHeap → Prop) (a : EnSXR F (f ρ h) M R B C) (b : ∀ ρ1 h1, M ρ1 h1 → EnSXR F (g ρ1 h1) N R B C) : EnSXR F (aSeq f g ρ h) N R B C := by
  rw [xs_seqQ]; exact a.mono b (fun _ _ z => z) (fun _ _ z => z) (fun _ _ z => z)
theorem xs_loopQ {g : AG} {b : AS} (I : List AV → AEnv → AHeap → Prop) (hs : ∀ v r ρ h, I (v :: r) ρ h → EnGR (g v ρ h) fun ρ1 h1 => EnSXR F (b ρ1 h1) (fun ρ2 h2 => I r ρ2 h2) R N (fun ρ2 h2 => I r ρ2 h2)) (he : ∀ ρ h, I [] ρ h → N ρ h) :
    ∀ {l : List AV} {ρ : AEnv} {h : AHeap}, I l ρ h → EnSXR F (loopS g b l ρ h) N R B C
  | [], ρ, h, i => he ρ h i
  | v :: r, ρ, h, i => by
    have z := hs v r ρ h i
    unfold loopS
    cases e : g v ρ h with
    | none => rw [e] at z; exact z.elim
    | some q =>
    rw [e] at z
    have z : EnSXR F (b q.1 q.2) (fun ρ2 h2 => I r ρ2 h2) R N (fun ρ2 h2 => I r ρ2 h2) := z
    dsimp only
    cases eb : b q.1 q.2 with
    | nx ρ2 h2 => rw [eb] at z; exact xs_loopQ I hs he z
    | ct ρ2 h2 => rw [eb] at z; exact xs_loopQ I hs he z
    | bk ρ2 h2 => rw [eb] at z; exact z
    | rt v h2 => rw [eb] at z; exact z
    | exc x ρ2 h2 => rw [eb] at z; exact z
    | bad => rw [eb] at z; exact z
end
section
variable {h : AHeap}
end
section
variable {e e' : AHeap} {b : Nat}
end
section
variable {α β : Type} {ρ : AEnv} {h : AHeap} {P : AV → AHeap → Prop} {N B C : AEnv → AHeap → Prop} {R : AV → AHeap → Prop}
theorem xs_dropQ {f : AE} : EnSXR F (aDrop f ρ h) N R B C = EnXR (fun e h => F e ρ h) (f ρ h) fun _ h1 => N ρ h1 := by unfold aDrop; rw [xs_ofQ]; rfl
theorem xs_badQ : EnSXR F (aBadS ρ h) N R B C = False := propext Iff.rfl
theorem xn_listOfQ {f : AA} {P : List AV → AHeap → Prop} : EnXR E (aListOf f ρ h) P = EnXR E (f ρ h) fun l h1 => ∃ v m, l = [v] ∧ seqX h1 v = some m ∧ P m h1 := by
  unfold aListOf; simp only [xn_bindQ]; congr 1; funext l h1
  apply propext
  constructor
  · intro z
    split at z
    · rename_i v
      have z : EnXR E (match seqX h1 v with | some m => Res.ok m h1 | none => .bad) P := z
      cases e : seqX h1 v with
      | none => rw [e] at z; exact z.elim
      | some m => rw [e] at z; exact ⟨v, m, rfl, e, z⟩
    · exact z.elim
  · rintro ⟨v, m, rfl, e, z⟩
    show EnXR E (match seqX h1 v with | some m => Res.ok m h1 | none => .bad) P
    rw [e]; exact z
theorem xn_methOQ {isO : AO → Bool} {op : PMo} {fo : AE} {fa : AA} : EnXR E (aMethO isO op fo fa ρ h) P = EnXR E (fo ρ h) fun o h1 => ∃ n u, o = .ref n ∧ h1[n]? = some u ∧ isO u = true ∧ EnXR E (fa ρ h1) fun l h2 => ∃ u2 v u3, h2[n]? = some u2 ∧ op h2 l u2 = some (v, u3) ∧ P v (h2.set n u3) := by
  unfold aMethO; simp only [xn_bindQ]; congr 1; funext o h1
  apply propext
  constructor
  · intro z
    cases o with
    | ref n =>
      dsimp only at z
      cases eu : h1[n]? with
      | none => rw [eu] at z; exact z.elim
      | some u =>
        rw [eu] at z
        dsimp only at z
        by_cases hi : isO u = true
        · rw [if_pos hi, xn_bindQ] at z
          refine ⟨n, u, rfl, eu, hi, z.mono fun l h2 z => ?_⟩
          cases e2 : h2[n]? with
          | none => rw [e2] at z; exact z.elim
          | some u2 =>
            rw [e2] at z
            dsimp only at z
            cases e3 : op h2 l u2 with
            | none => rw [e3] at z; exact z.elim
            | some q => rw [e3] at z; exact ⟨u2, q.1, q.2, rfl, e3, z⟩
        · rw [if_neg hi] at z; exact z.elim
    | _ => exact z.elim
  · rintro ⟨n, u, rfl, eu, hi, z⟩
    dsimp only
    rw [eu]
    dsimp only
    rw [if_pos hi, xn_bindQ]
    refine z.mono fun l h2 z => ?_
    obtain ⟨u2, v, u3, e2, e3, z⟩ := z
    rw [e2]; dsimp only; rw [e3]; exact z
theorem xs_setL1Q {i : Nat} {f : AA} : EnSXR F (aSetL true i f ρ h) N R B C = EnXR (fun e h => F e ρ h) (f ρ h) fun l h1 => N (ρ.set i (some (.ref h1.length))) (h1 ++ [.list l]) := by
  unfold aSetL; rw [xs_ofQ]; rfl
theorem xs_setL0Q {i : Nat} {f : AA} : EnSXR F (aSetL false i f ρ h) N R B C = EnXR (fun e h => F e ρ h) (f ρ h) fun l h1 => N (ρ.set i (some (.lst l))) h1 := by
  unfold aSetL; rw [xs_ofQ]; rfl
theorem xn_set0Q : EnXR E (aSet0 ρ h) P = P (.ref h.length) (h ++ [.set []]) := propext Iff.rfl
theorem xn_fmtQ {f : AE} : EnXR E (aFmt f ρ h) P = EnXR E (f ρ h) fun v h1 => ∃ s, toTxt v = some s ∧ P (.str s) h1 := by
  unfold aFmt; simp only [xn_bindQ]; congr 1; funext v h1
  cases toTxt v <;> simp [EnXR]
theorem xn_joinNQ {acc : List Nat} : EnXR E (joinF [] acc ρ h) P = P (.str acc) h := propext Iff.rfl
theorem xn_joinCQ {f : AE} {fs : List AE} {acc : List Nat} : EnXR E (joinF (f :: fs) acc ρ h) P = EnXR E (f ρ h) fun v h1 => ∃ s, v = .str s ∧ (acc ++ s).length ≤ szM ∧ EnXR E (joinF fs (acc ++ s) ρ h1) P := by
  show EnXR E ((f ρ h).bind _) P = _
  simp only [xn_bindQ]; congr 1; funext v h1
  apply propext
  constructor
  · intro z
    cases v with
    | str s =>
      dsimp only at z
      by_cases hc : decide ((acc ++ s).length ≤ szM) = true
      · rw [if_pos hc] at z; exact ⟨s, rfl, of_decide_eq_true hc, z⟩
      · rw [if_neg hc] at z; exact z.elim
    | _ => exact z.elim
  · rintro ⟨s, rfl, hc, z⟩
    dsimp only
    rw [if_pos (decide_eq_true hc)]; exact z
theorem xn_enumQ {f : AA} {P : List AV → AHeap → Prop} : EnXR E (aEnum f ρ h) P = EnXR E (f ρ h) fun l h1 => ∃ m, (l = [.tup m] ∨ l = [.lst m]) ∧ P (pairUp 0 m) h1 := by
  unfold aEnum; simp only [xn_bindQ]; congr 1; funext l h1
  apply propext
  constructor
  · intro z
    split at z
    · rename_i m; exact ⟨m, .inl rfl, z⟩
    · rename_i m; exact ⟨m, .inr rfl, z⟩
    · exact z.elim
  · rintro ⟨m, rfl | rfl, z⟩ <;> exact z
theorem xn_sortSQ {f : AA} {P : List AV → AHeap → Prop} : EnXR E (aSortS f ρ h) P = EnXR E (f ρ h) fun l h1 => ∃ v m ys, l = [v] ∧ seqL h1 v = some m ∧ strs? m = some ys ∧ ys.length < 64 ∧ P ((isortS (ys.map fun a => a.cps.toList)).map AV.str) h1 := by
  unfold aSortS; simp only [xn_bindQ]; congr 1; funext l h1
  apply propext
  constructor
  · intro z
    split at z
    · rename_i v
      cases e1 : seqL h1 v with
      | none => rw [e1] at z; exact z.elim
      | some m =>
        rw [e1] at z; dsimp only at z
        cases e2 : strs? m with
        | none => rw [e2] at z; exact z.elim
        | some ys =>
          rw [e2] at z; dsimp only at z
          by_cases hc : decide (ys.length < 64) = true
          · rw [if_pos hc] at z; exact ⟨v, m, ys, rfl, e1, e2, of_decide_eq_true hc, z⟩
          · rw [if_neg hc] at z; exact z.elim
    · exact z.elim
  · rintro ⟨v, m, ys, rfl, e1, e2, hc, z⟩
    dsimp only
    rw [e1]; dsimp only; rw [e2]; dsimp only; rw [if_pos (decide_eq_true hc)]; exact z
theorem xn_splitQ {fo : AE} {fa : AA} {P : List AV → AHeap → Prop} : EnXR E (aSplit fo fa ρ h) P = EnXR E (fo ρ h) fun o h1 => ∃ s, o = .str s ∧ EnXR E (fa ρ h1) fun l h2 => ∃ t, l = [.str t] ∧ (t.length ≠ 0 ∧ s.length + 2 ≤ szM) ∧ P ((Txt.split (sOf s) (sOf t)).map fun a => .str a.cps.toList) h2 := by
  unfold aSplit; simp only [xn_bindQ]; congr 1; funext o h1
  apply propext
  constructor
  · intro z
    cases o with
    | str s =>
      dsimp only at z
      rw [xn_bindQ] at z
      refine ⟨s, rfl, z.mono fun l h2 z => ?_⟩
      split at z
      · rename_i t
        split at z
        · rename_i hc
          simp only [Bool.and_eq_true, decide_eq_true_eq] at hc
          exact ⟨t, rfl, hc, z⟩
        · exact z.elim
      · exact z.elim
    | _ => exact z.elim
  · rintro ⟨s, rfl, z⟩
    dsimp only
    rw [xn_bindQ]
    refine z.mono fun l h2 z => ?_
    obtain ⟨t, rfl, hc, z⟩ := z
    dsimp only
    rw [if_pos (by simp only [Bool.and_eq_true, decide_eq_true_eq]; exact hc)]
    exact z
theorem xn_rng2Q {f : AA} {P : List AV → AHeap → Prop} : EnXR E (aRng2 f ρ h) P = EnXR E (f ρ h) fun l h1 => ∃ i j, l = [.int i, .int j] ∧ inR i = true ∧ inR j = true ∧ P (iInts i (j - i).toNat) h1 := by
  unfold aRng2; simp only [xn_bindQ]; congr 1; funext l h1
  apply propext
  constructor
  · intro z
    split at z
    · rename_i i j
      by_cases hs : (inR i && inR j) = true
      · rw [if_pos hs] at z; rw [Bool.and_eq_true] at hs; exact ⟨i, j, rfl, hs.1, hs.2, z⟩
      · rw [if_neg hs] at z; exact z.elim
    · exact z.elim
  · rintro ⟨i, j, rfl, h1, h2, z⟩
    simp only [h1, h2, Bool.and_self, if_true]; exact z
end
section
variable {h : AHeap}
end
theorem xs_nowQ {r : SRes} {ρ' : AEnv} {h' : AHeap} {N B C : AEnv → AHeap → Prop} {R : AV → AHeap → Prop} (e : r = .nx ρ' h') (n : N ρ' h') : EnSXR F r N R B C := by
  rw [e]; exact n
end AI
namespace AI
open PySem PySem.Spec PyProof.Rows
open L2
@[irreducible] def EnX {α : Type} (E : AX → AHeap → Prop) (r : Res α) (P : α → AHeap → Prop) : Prop := EnXR E r P
@[irreducible] def EnSX (F : AX → AEnv → AHeap → Prop) (r : SRes) (N : AEnv → AHeap → Prop) (R : AV → AHeap → Prop) (B C : AEnv → AHeap → Prop) : Prop := EnSXR F r N R B C
theorem EnX_eq : @EnX = @EnXR := by funext α E r P; unfold EnX; rfl
theorem EnSX_eq : @EnSX = @EnSXR := by funext F r N R B C; unfold EnSX; rfl
variable {E : AX → AHeap → Prop} {F : AX → AEnv → AHeap → Prop}
section
variable {α β : Type} {ρ : AEnv} {h : AHeap} {P : AV → AHeap → Prop} {N B C : AEnv → AHeap → Prop} {R : AV → AHeap → Prop}
theorem EnX.mono {r : Res α} {P Q : α → AHeap → Prop} (e : EnX E r P) (k : ∀ a h, P a h → Q a h) : EnX E r Q := by
  simp only [EnX_eq, EnSX_eq, EnG_eq] at *
  first | exact EnXR.mono | assumption | (apply EnXR.mono <;> assumption) | (intros; apply EnXR.mono <;> assumption)
theorem EnSX.mono {r : SRes} {N' B' C' : AEnv → AHeap → Prop} {R' : AV → AHeap → Prop} (e : EnSX F r N R B C) (h1 : ∀ a h, N a h → N' a h) (h2 : ∀ a h, R a h → R' a h) (h3 : ∀ a h, B a h → B' a h) (h4 : ∀ a h, C a h → C' a h) : EnSX F r N' R' B' C' := by
  simp only [EnX_eq, EnSX_eq, EnG_eq] at *
  first | exact EnSXR.mono | assumption | (apply EnSXR.mono <;> assumption) | (intros; apply EnSXR.mono <;> assumption)
theorem xn_bind {r : Res α} {k : α → AHeap → Res β} {P : β → AHeap → Prop} : EnX E (r.bind k) P = EnX E r fun a h => EnX E (k a h) P := by
  simp only [EnX_eq, EnSX_eq, EnG_eq] at *
  first | exact xn_bindQ | assumption | (apply xn_bindQ <;> assumption) | (intros; apply xn_bindQ <;> assumption)
theorem xn_ok {a : α} {P : α → AHeap → Prop} : EnX E (.ok a h) P = P a h := by
  simp only [EnX_eq, EnSX_eq, EnG_eq] at *
  first | exact xn_okQ | assumption | (apply xn_okQ <;> assumption) | (intros; apply xn_okQ <;> assumption)
theorem xn_bad {P : α → AHeap → Prop} : EnX E (.bad : Res α) P = False := by
  simp only [EnX_eq, EnSX_eq, EnG_eq] at *
  first | exact xn_badQ | assumption | (apply xn_badQ <;> assumption) | (intros; apply xn_badQ <;> assumption)
theorem xn_lift {o : Option AV} : EnX E (lift1 o h) P = ∃ v, o = some v ∧ P v h := by
  simp only [EnX_eq, EnSX_eq, EnG_eq] at *
  first | exact xn_liftQ | assumption | (apply xn_liftQ <;> assumption) | (intros; apply xn_liftQ <;> assumption)
theorem xn_var {i : Nat} : EnX E (aVar i ρ h) P = ∃ v, ρ[i]? = some (some v) ∧ P v h := by
  simp only [EnX_eq, EnSX_eq, EnG_eq] at *
  first | exact xn_varQ | assumption | (apply xn_varQ <;> assumption) | (intros; apply xn_varQ <;> assumption)
theorem xn_c {v : AV} : EnX E (aC v ρ h) P = P v h := by
  simp only [EnX_eq, EnSX_eq, EnG_eq] at *
  first | exact xn_cQ | assumption | (apply xn_cQ <;> assumption) | (intros; apply xn_cQ <;> assumption)
theorem xn_bin {op : POp2} {f g : AE} : EnX E (aBin op f g ρ h) P = EnX E (f ρ h) fun a h1 => EnX E (g ρ h1) fun b h2 => ∃ v, op h2 a b = some v ∧ P v h2 := by
  simp only [EnX_eq, EnSX_eq, EnG_eq] at *
  first | exact xn_binQ | assumption | (apply xn_binQ <;> assumption) | (intros; apply xn_binQ <;> assumption)
theorem xn_un {op : POp1} {f : AE} : EnX E (aUn op f ρ h) P = EnX E (f ρ h) fun a h1 => ∃ v, op h1 a = some v ∧ P v h1 := by
  simp only [EnX_eq, EnSX_eq, EnG_eq] at *
  first | exact xn_unQ | assumption | (apply xn_unQ <;> assumption) | (intros; apply xn_unQ <;> assumption)
theorem xn_toB {v : AV} {P : Bool → AHeap → Prop} : EnX E (toB v h) P = ∃ b, v = .bl b ∧ P b h := by
  simp only [EnX_eq, EnSX_eq, EnG_eq] at *
  first | exact xn_toBQ | assumption | (apply xn_toBQ <;> assumption) | (intros; apply xn_toBQ <;> assumption)
theorem xn_test {f : AE} {P : Bool → AHeap → Prop} : EnX E (aTest f ρ h) P = EnX E (f ρ h) fun v h1 => ∃ b, v = .bl b ∧ P b h1 := by
  simp only [EnX_eq, EnSX_eq, EnG_eq] at *
  first | exact xn_testQ | assumption | (apply xn_testQ <;> assumption) | (intros; apply xn_testQ <;> assumption)
theorem xn_chain {op op' : POp2} {f g k : AE} : EnX E (aChain op op' f g k ρ h) P = EnX E (f ρ h) fun a h1 => EnX E (g ρ h1) fun b h2 => ∃ q, op h2 a b = some (.bl q) ∧ (if q = true then EnX E (k ρ h2) fun c h5 => ∃ v, op' h5 b c = some v ∧ P v h5 else P (.bl false) h2) := by
  simp only [EnX_eq, EnSX_eq, EnG_eq] at *
  first | exact xn_chainQ | assumption | (apply xn_chainQ <;> assumption) | (intros; apply xn_chainQ <;> assumption)
theorem xn_andT {f g : AT} {P : Bool → AHeap → Prop} : EnX E (aAndT f g ρ h) P = EnX E (f ρ h) fun b h1 => if b = true then EnX E (g ρ h1) P else P false h1 := by
  simp only [EnX_eq, EnSX_eq, EnG_eq] at *
  first | exact xn_andTQ | assumption | (apply xn_andTQ <;> assumption) | (intros; apply xn_andTQ <;> assumption)
theorem xn_orT {f g : AT} {P : Bool → AHeap → Prop} : EnX E (aOrT f g ρ h) P = EnX E (f ρ h) fun b h1 => if b = true then P true h1 else EnX E (g ρ h1) P := by
  simp only [EnX_eq, EnSX_eq, EnG_eq] at *
  first | exact xn_orTQ | assumption | (apply xn_orTQ <;> assumption) | (intros; apply xn_orTQ <;> assumption)
theorem xn_notT {f : AT} {P : Bool → AHeap → Prop} : EnX E (aNotT f ρ h) P = EnX E (f ρ h) fun b h1 => P (!b) h1 := by
  simp only [EnX_eq, EnSX_eq, EnG_eq] at *
  first | exact xn_notTQ | assumption | (apply xn_notTQ <;> assumption) | (intros; apply xn_notTQ <;> assumption)
theorem xn_and {f g : AE} : EnX E (aAnd f g ρ h) P = EnX E (f ρ h) fun v h1 => ∃ b, v = .bl b ∧ (if b = true then EnX E (g ρ h1) P else P (.bl false) h1) := by
  simp only [EnX_eq, EnSX_eq, EnG_eq] at *
  first | exact xn_andQ | assumption | (apply xn_andQ <;> assumption) | (intros; apply xn_andQ <;> assumption)
theorem xn_or {f g : AE} : EnX E (aOr f g ρ h) P = EnX E (f ρ h) fun v h1 => ∃ b, v = .bl b ∧ (if b = true then P (.bl true) h1 else EnX E (g ρ h1) P) := by
  simp only [EnX_eq, EnSX_eq, EnG_eq] at *
  first | exact xn_orQ | assumption | (apply xn_orQ <;> assumption) | (intros; apply xn_orQ <;> assumption)
theorem xn_not {f : AE} : EnX E (aNot f ρ h) P = EnX E (f ρ h) fun v h1 => ∃ b, v = .bl b ∧ P (.bl (!b)) h1 := by
  simp only [EnX_eq, EnSX_eq, EnG_eq] at *
  first | exact xn_notQ | assumption | (apply xn_notQ <;> assumption) | (intros; apply xn_notQ <;> assumption)
theorem xn_if {t : AT} {f g : AE} : EnX E (aIf t f g ρ h) P = EnX E (t ρ h) fun b h1 => if b = true then EnX E (f ρ h1) P else EnX E (g ρ h1) P := by
  simp only [EnX_eq, EnSX_eq, EnG_eq] at *
  first | exact xn_ifQ | assumption | (apply xn_ifQ <;> assumption) | (intros; apply xn_ifQ <;> assumption)
theorem xn_nil {P : List AV → AHeap → Prop} : EnX E (aNil ρ h) P = P [] h := by
  simp only [EnX_eq, EnSX_eq, EnG_eq] at *
  first | exact xn_nilQ | assumption | (apply xn_nilQ <;> assumption) | (intros; apply xn_nilQ <;> assumption)
theorem xn_cons {f : AE} {g : AA} {P : List AV → AHeap → Prop} : EnX E (aCons f g ρ h) P = EnX E (f ρ h) fun v h1 => EnX E (g ρ h1) fun l h2 => P (v :: l) h2 := by
  simp only [EnX_eq, EnSX_eq, EnG_eq] at *
  first | exact xn_consQ | assumption | (apply xn_consQ <;> assumption) | (intros; apply xn_consQ <;> assumption)
theorem xn_ite {c : Prop} [Decidable c] {a b : Res α} {P : α → AHeap → Prop} : EnX E (if c then a else b) P = if c then EnX E a P else EnX E b P := by
  simp only [EnX_eq, EnSX_eq, EnG_eq] at *
  first | exact xn_iteQ | assumption | (apply xn_iteQ <;> assumption) | (intros; apply xn_iteQ <;> assumption)
theorem xn_tup {g : AA} : EnX E (aTup g ρ h) P = EnX E (g ρ h) fun l h1 => szOk l = true ∧ P (.tup l) h1 := by
  simp only [EnX_eq, EnSX_eq, EnG_eq] at *
  first | exact xn_tupQ | assumption | (apply xn_tupQ <;> assumption) | (intros; apply xn_tupQ <;> assumption)
theorem xn_list {g : AA} {P : List AV → AHeap → Prop} : EnX E (aList g ρ h) P = EnX E (g ρ h) fun l h1 => szOk l = true ∧ P l h1 := by
  simp only [EnX_eq, EnSX_eq, EnG_eq] at *
  first | exact xn_listQ | assumption | (apply xn_listQ <;> assumption) | (intros; apply xn_listQ <;> assumption)
theorem xn_pureL {g : AA} : EnX E (pureL g ρ h) P = EnX E (g ρ h) fun l h1 => P (.lst l) h1 := by
  simp only [EnX_eq, EnSX_eq, EnG_eq] at *
  first | exact xn_pureLQ | assumption | (apply xn_pureLQ <;> assumption) | (intros; apply xn_pureLQ <;> assumption)
theorem xn_newL {g : AA} : EnX E (newL g ρ h) P = EnX E (g ρ h) fun l h1 => P (.ref h1.length) (h1 ++ [.list l]) := by
  simp only [EnX_eq, EnSX_eq, EnG_eq] at *
  first | exact xn_newLQ | assumption | (apply xn_newLQ <;> assumption) | (intros; apply xn_newLQ <;> assumption)
theorem xn_fn {op : PFn} {f : AA} : EnX E (aFn op f ρ h) P = EnX E (f ρ h) fun l h1 => ∃ v, op h1 l = some v ∧ P v h1 := by
  simp only [EnX_eq, EnSX_eq, EnG_eq] at *
  first | exact xn_fnQ | assumption | (apply xn_fnQ <;> assumption) | (intros; apply xn_fnQ <;> assumption)
theorem xn_call {m : MF} {f : AA} : EnX E (aCall m f ρ h) P = EnX E (f ρ h) fun l h1 => EnX E (m l h1) P := by
  simp only [EnX_eq, EnSX_eq, EnG_eq] at *
  first | exact xn_callQ | assumption | (apply xn_callQ <;> assumption) | (intros; apply xn_callQ <;> assumption)
theorem xn_callK {m : MF} {n k : Nat} {arr : List AV → List AV → List AV} {f g : AA} : EnX E (aCallK m n k arr f g ρ h) P = EnX E (f ρ h) fun l h1 => EnX E (g ρ h1) fun r h2 => (l.length = n ∧ r.length = k) ∧ EnX E (m (arr l r) h2) P := by
  simp only [EnX_eq, EnSX_eq, EnG_eq] at *
  first | exact xn_callKQ | assumption | (apply xn_callKQ <;> assumption) | (intros; apply xn_callKQ <;> assumption)
theorem xn_methS {op : PMs} {f : AE} {g : AA} : EnX E (aMethS op f g ρ h) P = EnX E (f ρ h) fun o h1 => ∃ s, o = .str s ∧ EnX E (g ρ h1) fun l h2 => ∃ v, op s h2 l = some v ∧ P v h2 := by
  simp only [EnX_eq, EnSX_eq, EnG_eq] at *
  first | exact xn_methSQ | assumption | (apply xn_methSQ <;> assumption) | (intros; apply xn_methSQ <;> assumption)
theorem xn_oN {P : Option Int → AHeap → Prop} : EnX E (aoN ρ h) P = P none h := by
  simp only [EnX_eq, EnSX_eq, EnG_eq] at *
  first | exact xn_oNQ | assumption | (apply xn_oNQ <;> assumption) | (intros; apply xn_oNQ <;> assumption)
theorem xn_oS {f : AE} {P : Option Int → AHeap → Prop} : EnX E (aoS f ρ h) P = EnX E (f ρ h) fun v h1 => ∃ i, v = .int i ∧ P (some i) h1 := by
  simp only [EnX_eq, EnSX_eq, EnG_eq] at *
  first | exact xn_oSQ | assumption | (apply xn_oSQ <;> assumption) | (intros; apply xn_oSQ <;> assumption)
theorem xn_sl {f : AE} {l u : AO1} : EnX E (aSl f l u ρ h) P = EnX E (f ρ h) fun a h1 => EnX E (l ρ h1) fun i h2 => EnX E (u ρ h2) fun j h3 => ∃ v, vSl h3 a i j = some v ∧ P v h3 := by
  simp only [EnX_eq, EnSX_eq, EnG_eq] at *
  first | exact xn_slQ | assumption | (apply xn_slQ <;> assumption) | (intros; apply xn_slQ <;> assumption)
theorem xn_rng1 {f : AA} {P : List AV → AHeap → Prop} : EnX E (aRng1 f ρ h) P = EnX E (f ρ h) fun l h1 => ∃ j, l = [.int j] ∧ inR j = true ∧ P (iInts 0 j.toNat) h1 := by
  simp only [EnX_eq, EnSX_eq, EnG_eq] at *
  first | exact xn_rng1Q | assumption | (apply xn_rng1Q <;> assumption) | (intros; apply xn_rng1Q <;> assumption)
theorem xn_iter {f : AE} {P : List AV → AHeap → Prop} : EnX E (aIter f ρ h) P = EnX E (f ρ h) fun v h1 => ∃ l, itemsOf v = some l ∧ P l h1 := by
  simp only [EnX_eq, EnSX_eq, EnG_eq] at *
  first | exact xn_iterQ | assumption | (apply xn_iterQ <;> assumption) | (intros; apply xn_iterQ <;> assumption)
theorem xn_lc {fi : AA} {g : AG} {t : AT} {fe : AE} {vs : List Nat} {P : List AV → AHeap → Prop} : EnX E (aLc fi g t fe vs ρ h) P = EnX E (fi ρ h) fun l h1 => szOk l = true ∧ EnX E (lcL g t fe l (wipeA ρ vs) h1) P := by
  simp only [EnX_eq, EnSX_eq, EnG_eq] at *
  first | exact xn_lcQ | assumption | (apply xn_lcQ <;> assumption) | (intros; apply xn_lcQ <;> assumption)
theorem xs_of {r : Res α} {k : α → AHeap → SRes} : EnSX F (.ofRes ρ r k) N R B C = EnX (fun e h => F e ρ h) r fun a h => EnSX F (k a h) N R B C := by
  simp only [EnX_eq, EnSX_eq, EnG_eq] at *
  first | exact xs_ofQ | assumption | (apply xs_ofQ <;> assumption) | (intros; apply xs_ofQ <;> assumption)
theorem xs_seq {f g : AS} : EnSX F (aSeq f g ρ h) N R B C = EnSX F (f ρ h) (fun ρ1 h1 => EnSX F (g ρ1 h1) N R B C) R B C := by
  simp only [EnX_eq, EnSX_eq, EnG_eq] at *
  first | exact xs_seqQ | assumption | (apply xs_seqQ <;> assumption) | (intros; apply xs_seqQ <;> assumption)
theorem xs_skip : EnSX F (aSkip ρ h) N R B C = N ρ h := by
  simp only [EnX_eq, EnSX_eq, EnG_eq] at *
  first | exact xs_skipQ | assumption | (apply xs_skipQ <;> assumption) | (intros; apply xs_skipQ <;> assumption)
theorem xs_ret {f : AE} : EnSX F (aRet f ρ h) N R B C = EnX (fun e h => F e ρ h) (f ρ h) R := by
  simp only [EnX_eq, EnSX_eq, EnG_eq] at *
  first | exact xs_retQ | assumption | (apply xs_retQ <;> assumption) | (intros; apply xs_retQ <;> assumption)
theorem xs_retN : EnSX F (aRetN ρ h) N R B C = R .non h := by
  simp only [EnX_eq, EnSX_eq, EnG_eq] at *
  first | exact xs_retNQ | assumption | (apply xs_retNQ <;> assumption) | (intros; apply xs_retNQ <;> assumption)
theorem xs_if {t : AT} {f g : AS} : EnSX F (aIfS t f g ρ h) N R B C = EnX (fun e h => F e ρ h) (t ρ h) fun b h1 => if b = true then EnSX F (f ρ h1) N R B C else EnSX F (g ρ h1) N R B C := by
  simp only [EnX_eq, EnSX_eq, EnG_eq] at *
  first | exact xs_ifQ | assumption | (apply xs_ifQ <;> assumption) | (intros; apply xs_ifQ <;> assumption)
theorem xs_asg {f : AE} {g : AG} : EnSX F (aAsg f g ρ h) N R B C = EnX (fun e h => F e ρ h) (f ρ h) fun v h1 => EnG (g v ρ h1) N := by
  simp only [EnX_eq, EnSX_eq, EnG_eq] at *
  first | exact xs_asgQ | assumption | (apply xs_asgQ <;> assumption) | (intros; apply xs_asgQ <;> assumption)
theorem xs_par2 {i j : Nat} {f : AA} : EnSX F (aPar2 i j f ρ h) N R B C = EnX (fun e h => F e ρ h) (f ρ h) fun l h1 => ∃ a b, l = [a, b] ∧ N ((ρ.set i (some a)).set j (some b)) h1 := by
  simp only [EnX_eq, EnSX_eq, EnG_eq] at *
  first | exact xs_par2Q | assumption | (apply xs_par2Q <;> assumption) | (intros; apply xs_par2Q <;> assumption)
theorem xs_for {f : AA} {g : AG} {b : AS} : EnSX F (aFor f g b ρ h) N R B C = EnX (fun e h => F e ρ h) (f ρ h) fun l h1 => EnSX F (loopS g b l ρ h1) N R B C := by
  simp only [EnX_eq, EnSX_eq, EnG_eq] at *
  first | exact xs_forQ | assumption | (apply xs_forQ <;> assumption) | (intros; apply xs_forQ <;> assumption)
theorem xs_cut {f g : AS} (M : AEnv → AHeap → Prop) (a : EnSX F (f ρ h) M R B C) (b : ∀ ρ1 h1, M ρ1 h1 → EnSX F (g ρ1 h1) N R B C) : EnSX F (aSeq f g ρ h) N R B C := by
  simp only [EnX_eq, EnSX_eq, EnG_eq] at *
  first | exact xs_cutQ | assumption | (apply xs_cutQ <;> assumption) | (intros; apply xs_cutQ <;> assumption)
theorem xs_loop {g : AG} {b : AS} (I : List AV → AEnv → AHeap → Prop) (hs : ∀ v r ρ h, I (v :: r) ρ h → EnG (g v ρ h) fun ρ1 h1 => EnSX F (b ρ1 h1) (fun ρ2 h2 => I r ρ2 h2) R N (fun ρ2 h2 => I r ρ2 h2)) (he : ∀ ρ h, I [] ρ h → N ρ h) :
    ∀ {l : List AV} {ρ : AEnv} {h : AHeap}, I l ρ h → EnSX F (loopS g b l ρ h) N R B C := by
  simp only [EnX_eq, EnSX_eq, EnG_eq] at *
  first | exact xs_loopQ | assumption | (apply xs_loopQ <;> assumption) | (intros; apply xs_loopQ <;> assumption)
end
section
variable {h : AHeap}
end
section
variable {e e' : AHeap} {b : Nat}
end
section
variable {α β : Type} {ρ : AEnv} {h : AHeap} {P : AV → AHeap → Prop} {N B C : AEnv → AHeap → Prop} {R : AV → AHeap → Prop}
theorem xs_drop {f : AE} : EnSX F (aDrop f ρ h) N R B C = EnX (fun e h => F e ρ h) (f ρ h) fun _ h1 => N ρ h1 := by
  simp only [EnX_eq, EnSX_eq, EnG_eq] at *
  first | exact xs_dropQ | assumption | (apply xs_dropQ <;> assumption) | (intros; apply xs_dropQ <;> assumption)
theorem xs_bad : EnSX F (aBadS ρ h) N R B C = False := by
  simp only [EnX_eq, EnSX_eq, EnG_eq] at *
  first | exact xs_badQ | assumption | (apply xs_badQ <;> assumption) | (intros; apply xs_badQ <;> assumption)
theorem xn_listOf {f : AA} {P : List AV → AHeap → Prop} : EnX E (aListOf f ρ h) P = EnX E (f ρ h) fun l h1 => ∃ v m, l = [v] ∧ seqX h1 v = some m ∧ P m h1 := by
  simp only [EnX_eq, EnSX_eq, EnG_eq] at *
  first | exact xn_listOfQ | assumption | (apply xn_listOfQ <;> assumption) | (intros; apply xn_listOfQ <;> assumption)
theorem xn_methO {isO : AO → Bool} {op : PMo} {fo : AE} {fa : AA} : EnX E (aMethO isO op fo fa ρ h) P = EnX E (fo ρ h) fun o h1 => ∃ n u, o = .ref n ∧ h1[n]? = some u ∧ isO u = true ∧ EnX E (fa ρ h1) fun l h2 => ∃ u2 v u3, h2[n]? = some u2 ∧ op h2 l u2 = some (v, u3) ∧ P v (h2.set n u3) := by
  simp only [EnX_eq, EnSX_eq, EnG_eq] at *
  first | exact xn_methOQ | assumption | (apply xn_methOQ <;> assumption) | (intros; apply xn_methOQ <;> assumption)
theorem xs_setL1 {i : Nat} {f : AA} : EnSX F (aSetL true i f ρ h) N R B C = EnX (fun e h => F e ρ h) (f ρ h) fun l h1 => N (ρ.set i (some (.ref h1.length))) (h1 ++ [.list l]) := by
  simp only [EnX_eq, EnSX_eq, EnG_eq] at *
  first | exact xs_setL1Q | assumption | (apply xs_setL1Q <;> assumption) | (intros; apply xs_setL1Q <;> assumption)
theorem xs_setL0 {i : Nat} {f : AA} : EnSX F (aSetL false i f ρ h) N R B C = EnX (fun e h => F e ρ h) (f ρ h) fun l h1 => N (ρ.set i (some (.lst l))) h1 := by
  simp only [EnX_eq, EnSX_eq, EnG_eq] at *
  first | exact xs_setL0Q | assumption | (apply xs_setL0Q <;> assumption) | (intros; apply xs_setL0Q <;> assumption)
theorem xn_set0 : EnX E (aSet0 ρ h) P = P (.ref h.length) (h ++ [.set []]) := by
  simp only [EnX_eq, EnSX_eq, EnG_eq] at *
  first | exact xn_set0Q | assumption | (apply xn_set0Q <;> assumption) | (intros; apply xn_set0Q <;> assumption)
theorem xn_fmt {f : AE} : EnX E (aFmt f ρ h) P = EnX E (f ρ h) fun v h1 => ∃ s, toTxt v = some s ∧ P (.str s) h1 := by
  simp only [EnX_eq, EnSX_eq, EnG_eq] at *
  first | exact xn_fmtQ | assumption | (apply xn_fmtQ <;> assumption) | (intros; apply xn_fmtQ <;> assumption)
theorem xn_joinN {acc : List Nat} : EnX E (joinF [] acc ρ h) P = P (.str acc) h := by
  simp only [EnX_eq, EnSX_eq, EnG_eq] at *
  first | exact xn_joinNQ | assumption | (apply xn_joinNQ <;> assumption) | (intros; apply xn_joinNQ <;> assumption)
theorem xn_joinC {f : AE} {fs : List AE} {acc : List Nat} : EnX E (joinF (f :: fs) acc ρ h) P = EnX E (f ρ h) fun v h1 => ∃ s, v = .str s ∧ (acc ++ s).length ≤ szM ∧ EnX E (joinF fs (acc ++ s) ρ h1) P := by
  simp only [EnX_eq, EnSX_eq, EnG_eq] at *
  first | exact xn_joinCQ | assumption | (apply xn_joinCQ <;> assumption) | (intros; apply xn_joinCQ <;> assumption)
theorem xn_enum {f : AA} {P : List AV → AHeap → Prop} : EnX E (aEnum f ρ h) P = EnX E (f ρ h) fun l h1 => ∃ m, (l = [.tup m] ∨ l = [.lst m]) ∧ P (pairUp 0 m) h1 := by
  simp only [EnX_eq, EnSX_eq, EnG_eq] at *
  first | exact xn_enumQ | assumption | (apply xn_enumQ <;> assumption) | (intros; apply xn_enumQ <;> assumption)
theorem xn_sortS {f : AA} {P : List AV → AHeap → Prop} : EnX E (aSortS f ρ h) P = EnX E (f ρ h) fun l h1 => ∃ v m ys, l = [v] ∧ seqL h1 v = some m ∧ strs? m = some ys ∧ ys.length < 64 ∧ P ((isortS (ys.map fun a => a.cps.toList)).map AV.str) h1 := by
  simp only [EnX_eq, EnSX_eq, EnG_eq] at *
  first | exact xn_sortSQ | assumption | (apply xn_sortSQ <;> assumption) | (intros; apply xn_sortSQ <;> assumption)
theorem xn_split {fo : AE} {fa : AA} {P : List AV → AHeap → Prop} : EnX E (aSplit fo fa ρ h) P = EnX E (fo ρ h) fun o h1 => ∃ s, o = .str s ∧ EnX E (fa ρ h1) fun l h2 => ∃ t, l = [.str t] ∧ (t.length ≠ 0 ∧ s.length + 2 ≤ szM) ∧ P ((Txt.split (sOf s) (sOf t)).map fun a => .str a.cps.toList) h2 := by
  simp only [EnX_eq, EnSX_eq, EnG_eq] at *
  first | exact xn_splitQ | assumption | (apply xn_splitQ <;> assumption) | (intros; apply xn_splitQ <;> assumption)
theorem xn_rng2 {f : AA} {P : List AV → AHeap → Prop} : EnX E (aRng2 f ρ h) P = EnX E (f ρ h) fun l h1 => ∃ i j, l = [.int i, .int j] ∧ inR i = true ∧ inR j = true ∧ P (iInts i (j - i).toNat) h1 := by
  simp only [EnX_eq, EnSX_eq, EnG_eq] at *
  first | exact xn_rng2Q | assumption | (apply xn_rng2Q <;> assumption) | (intros; apply xn_rng2Q <;> assumption)
end
section
variable {h : AHeap}
end
theorem xs_now {r : SRes} {ρ' : AEnv} {h' : AHeap} {N B C : AEnv → AHeap → Prop} {R : AV → AHeap → Prop} (e : r = .nx ρ' h') (n : N ρ' h') : EnSX F r N R B C := by
  simp only [EnX_eq, EnSX_eq, EnG_eq] at *
  first | exact xs_nowQ | assumption | (apply xs_nowQ <;> assumption) | (intros; apply xs_nowQ <;> assumption)
end AI
namespace AI
open PySem PySem.Spec PyProof.Rows
open L2
section
variable {α : Type} {ρ : AEnv} {h : AHeap} {N N' B B' C C' : AEnv → AHeap → Prop} {R R' : AV → AHeap → Prop} {E E' : AX → AHeap → Prop} {F F' : AX → AEnv → AHeap → Prop}
theorem Ens.x {r : Res α} {P : α → AHeap → Prop} (e : Ens r P) : EnX E r P := by
  simp only [EnX_eq, Ens_eq] at *
  cases r with
  | ok a h => exact e
  | exc x h => exact (show False from e).elim
  | bad => exact e
theorem EnX.ens {r : Res α} {P : α → AHeap → Prop} (e : EnX (fun _ _ => False) r P) : Ens r P := by
  simp only [EnX_eq, Ens_eq] at *
  cases r with
  | ok a h => exact e
  | exc x h => exact e
  | bad => exact e
theorem EnS.x {r : SRes} (e : EnS r N R B C) : EnSX F r N R B C := by
  simp only [EnSX_eq, EnS_eq] at *
  cases r with
  | exc x ρ h => exact (show False from e).elim
  | _ => exact e
theorem EnSX.ens {r : SRes} (e : EnSX (fun _ _ _ => False) r N R B C) : EnS r N R B C := by
  simp only [EnSX_eq, EnS_eq] at *
  cases r <;> exact e
theorem EnX.monoX {r : Res α} {P P' : α → AHeap → Prop} (e : EnX E r P) (h1 : ∀ a h, P a h → P' a h) (h2 : ∀ x h, E x h → E' x h) : EnX E' r P' := by
  simp only [EnX_eq] at *
  cases r with
  | ok a h => exact h1 a h e
  | exc x h => exact h2 x h e
  | bad => exact e
theorem EnSX.monoX {r : SRes} (e : EnSX F r N R B C) (h1 : ∀ a h, N a h → N' a h) (h2 : ∀ a h, R a h → R' a h) (h3 : ∀ a h, B a h → B' a h) (h4 : ∀ a h, C a h → C' a h) (h5 : ∀ x a h, F x a h → F' x a h) : EnSX F' r N' R' B' C' := by
  simp only [EnSX_eq] at *
  cases r with
  | nx _ _ => exact h1 _ _ e
  | rt _ _ => exact h2 _ _ e
  | bk _ _ => exact h3 _ _ e
  | ct _ _ => exact h4 _ _ e
  | exc _ _ _ => exact h5 _ _ _ e
  | bad => exact e
theorem xs_raise1 {c f : Str} {fe : AE} : EnSX F (aRaise1 c f fe ρ h) N R B C = EnX (fun e h => F e ρ h) (fe ρ h) fun v h1 => F ⟨c, [f], [v]⟩ ρ h1 := by
  simp only [EnSX_eq, EnX_eq]
  unfold aRaise1
  cases fe ρ h <;> rfl
theorem xs_outX {r : SRes} : EnSX F (outX r) N R B C = EnSX (fun _ _ _ => False) r (fun ρ h => (ρ.all oNoX && h.all AO.noX) = true ∧ N ρ h) (fun v h => (v.noX && h.all AO.noX) = true ∧ R v h) (fun ρ h => (ρ.all oNoX && h.all AO.noX) = true ∧ B ρ h) (fun ρ h => (ρ.all oNoX && h.all AO.noX) = true ∧ C ρ h) := by
  simp only [EnSX_eq]
  have one : ∀ {c : Bool} {x : SRes} {p : Prop}, EnSXR F x N R B C = p → EnSXR F (if c = true then x else .bad) N R B C = (c = true ∧ p) := fun {c x p} e => by
    cases c with
    | true => simp [e]
    | false => simp [EnSXR]
  cases r with
  | nx ρ h => exact one rfl
  | rt v h => exact one rfl
  | bk ρ h => exact one rfl
  | ct ρ h => exact one rfl
  | exc x ρ h => rfl
  | bad => rfl
theorem xs_unI {i : Nat} {r : SRes} : EnSX F (unI i r) N R B C = EnSX F r (fun ρ h => N (ρ.set i none) h) R (fun ρ h => B (ρ.set i none) h) (fun ρ h => C (ρ.set i none) h) := by
  simp only [EnSX_eq]
  cases r <;> rfl
theorem xs_tryO {T : ExTab} {ys : List Str} {fb fs : AS} : EnSX F (aTryO T ys fb fs ρ h) N R B C = EnSX (fun e ρ1 h1 => ∃ b, hitL T ys e.cls = some b ∧ if b = true then EnSX F (outX (fs ρ1 h1)) N R B C else F e ρ1 h1) (fb ρ h) N R B C := by
  simp only [EnSX_eq]
  unfold aTryO
  cases fb ρ h with
  | exc e ρ1 h1 =>
    dsimp only [EnSXR]
    cases hitL T ys e.cls with
    | none => simp [EnSXR]
    | some b => cases b <;> simp [EnSXR]
  | _ => rfl
theorem xs_tryA {T : ExTab} {ys : List Str} {i : Nat} {fb fs : AS} : EnSX F (aTryA T ys i fb fs ρ h) N R B C =
    EnSX (fun e ρ1 h1 => ∃ b, hitL T ys e.cls = some b ∧ if b = true then EnSX F (outX (unI i (fs (ρ1.set i (some (.exn e.cls e.names e.vals))) h1))) N R B C else F e ρ1 h1) (fb ρ h) N R B C := by
  simp only [EnSX_eq]
  unfold aTryA
  cases fb ρ h with
  | exc e ρ1 h1 =>
    dsimp only [EnSXR]
    cases hitL T ys e.cls with
    | none => simp [EnSXR]
    | some b => cases b <;> simp [EnSXR]
  | _ => rfl
end
theorem en_setOf {ρ : AEnv} {h : AHeap} {P : AV → AHeap → Prop} {fa : AA} : Ens (aSetOf fa ρ h) P = Ens (fa ρ h) fun l h1 => ∃ v m ks, l = [v] ∧ seqL h1 v = some m ∧ keysOf m = some ks ∧ ks.length + 1 < 4096 ∧ P (.ref h1.length) (h1 ++ [.set (foldS ks)]) := by
  unfold aSetOf
  rw [en_bind]
  congr 1; funext l h1
  simp only [Ens_eq]
  apply propext
  constructor
  · intro z
    split at z
    · rename_i v
      cases e1 : seqL h1 v with
      | none => rw [e1] at z; exact z.elim
      | some m =>
        rw [e1] at z; dsimp only at z
        cases e2 : keysOf m with
        | none => rw [e2] at z; exact z.elim
        | some ks =>
          rw [e2] at z; dsimp only at z
          by_cases hc : decide (ks.length + 1 < 4096) = true
          · rw [if_pos hc] at z; exact ⟨v, m, ks, rfl, e1, e2, of_decide_eq_true hc, z⟩
          · rw [if_neg hc] at z; exact z.elim
    · exact z.elim
  · rintro ⟨v, m, ks, rfl, e1, e2, hc, z⟩
    dsimp only
    rw [e1]; dsimp only; rw [e2]; dsimp only; rw [if_pos (decide_eq_true hc)]; exact z
/-- a def over b purses and e that may raise: what it builds is forgotten -/
theorem xn_defH {np nl : Nat} {b : AS} {as : List AV} {e : AHeap} {bb : Nat} {h : AHeap} {P : AV → AHeap → Prop} {E : AX → AHeap → Prop} (hl : as.length = np) (hc : e.all (AO.closed 0) = true) (hh : HI e bb h)
    (z : EnSX (fun x _ h' => ∃ e', HI (e ++ e') bb h' ∧ AV.closeds 0 x.vals = true ∧ ∀ h2, HI e bb h2 → E x h2) (b (as.map some ++ List.replicate (nl - np) none) h) (fun _ h' => ∃ e', HI (e ++ e') bb h' ∧ ∀ h2, HI e bb h2 → P .non h2)
      (fun v h' => ∃ e' w, HI (e ++ e') bb h' ∧ Sees h' h.length v w ∧ ∀ h2, HI e bb h2 → P w h2) (fun _ _ => False) (fun _ _ => False)) : EnX E (aDef true np nl b as h) P := by
  simp only [EnX_eq, EnSX_eq] at *
  unfold aDef
  rw [if_pos hl]
  have good : ∀ {v : AV} {w : AV} {h' : AHeap} {e' : AHeap}, HI (e ++ e') bb h' → Sees h' h.length v w → (∀ h2, HI e bb h2 → P w h2) → EnXR E (gcRes h.length (.ok v h')) P := fun {v w h' e'} h1 s k => by
    have q := (gc_sees (P := P) hc hh h1 s k).x (E := E)
    rw [EnX_eq] at q; exact q
  cases eb : b (as.map some ++ List.replicate (nl - np) none) h with
  | nx ρ2 h2 => rw [eb] at z; obtain ⟨e', h1, k⟩ := z; exact good h1 (.pure rfl) k
  | rt v h2 => rw [eb] at z; obtain ⟨e', w, h1, s, k⟩ := z; exact good h1 s k
  | ct ρ2 h2 => rw [eb] at z; exact z.elim
  | bk ρ2 h2 => rw [eb] at z; exact z.elim
  | bad => rw [eb] at z; exact z.elim
  | exc x ρ2 h2 =>
    rw [eb] at z
    obtain ⟨e', h1, cl, k⟩ := z
    show EnXR E (gcRes h.length (.exc x h2)) P
    unfold gcRes
    dsimp only
    have l0 := hh.len
    have l1 := h1.len
    by_cases hle : h2.length ≤ h.length
    · rw [if_pos hle]
      have : e' = [] := List.eq_nil_of_length_eq_zero (by rw [List.length_append] at l1; omega)
      subst this
      rw [List.append_nil] at h1
      exact k _ h1
    · rw [if_neg hle]
      have cut : HI e bb (h2.take h.length) := by rw [l0]; exact h1.cut
      rw [if_pos ⟨closeds_mono (Nat.zero_le _) cl, cut.closed hc⟩]
      exact k _ cut
end AI
namespace AIL
open PySem PySem.Spec PyProof.Rows L2 AI
def top (i : Nat) : Stmt := PySem.Challenge.pw_capruns_k03_strings_that_are_no_claims.main.body.getD i (.Pass ⟨0, 0, 0, 0⟩)
def v_MAX_CLAIMS : AV := (.int 100)
def v_MAX_CLAIM_VARIABLES : AV := (.int 10)
def v_LETTERS : AV := (.str [97, 98, 99, 100, 101, 102, 103, 104, 105, 106, 107, 108, 109, 110, 111, 112, 113, 114, 115, 116, 117, 118, 119, 120, 121, 122])
def v_OPERATORS : AV := (.tup [(.str [60]), (.str [60, 61]), (.str [61])])
def exSub (c y : Str) : Bool := if c = "InvalidClaims" then decide (y ∈ (["InvalidClaims", "CaprunsError", "ValueError"] : List Str)) else if c = "InvalidText" then decide (y ∈ (["InvalidText", "CaprunsError", "ValueError"] : List Str)) else false
def exT : ExTab := ⟨["InvalidClaims", "InvalidText"], ["InvalidClaims", "LimitError", "ConflictError", "SearchError", "CaprunsError", "TooMany", "Looping", "Mismatch", "DuplicateStep", "Contradictory", "NothingToUndo", "UnknownClaim", "UnknownStep", "UnknownPoint", "InvalidCommand", "InvalidHistory", "InvalidEdits", "InvalidEdit", "InvalidCondition", "InvalidTimes", "InvalidSummary", "InvalidWalk", "InvalidState", "InvalidText", "InvalidProgram", "InvalidSteps", "InvalidPoints", "InvalidIndex", "InvalidCap", "InvalidFixed", "InvalidVariables", "InvalidClaim"], [.ae, .re, .le, .ve], ["position", "line"], exSub⟩
def inB (K : PySem.W.Frag) (x : Str) : Bool := decide (PySem.W.typeIn K (.ref (He.ma K (He.ga K x) "__init__")) = some (.type "function")) && (He.eqO (PySem.W.findIn K (.ref (He.ga K x)) "__init__") (some (some (.ref (He.ma K (He.ga K x) "__init__")))))
def ini (st : Stmt) (j : Nat) : Stmt := match st with
  | .ClassDef _ _ _ body _ _ _ _ _ _ _ => body.getD j (.Pass ⟨0, 0, 0, 0⟩)
  | s => s
/-! ### mirrors -/
/-- is_name -/
def m_is_name : MF := aDef true 1 2 (aRet (aAnd (aFn vIsi (aCons (aVar 0) (aCons (aC (.ty .str)) (aNil)))) (aAnd (aChain vLe vLe (aC (.int 1)) (aFn vLenA (aCons (aVar 0) (aNil))) (aC (.int 6))) (aFn vAll (aCons (pureL (aLc (aIter (aVar 0)) (agName 1) (aYes) (aBin vInA (aVar 1) (aC v_LETTERS)) [1])) (aNil))))))
/-- is_variable -/
def m_is_variable : MF := aDef true 1 1 (aSeq (aIfS (aNotT (aTest (aFn vIsi (aCons (aVar 0) (aCons (aC (.ty .str)) (aNil)))))) (aRet (aC (.bl false))) (aSkip)) (aRet (aIf (aTest (aMethS vEnds (aVar 0) (aCons (aC (.str [39])) (aNil)))) (aCall m_is_name (aCons (aSl (aVar 0) (aoN) (aoS (aUn vNeg (aC (.int 1))))) (aNil))) (aCall m_is_name (aCons (aVar 0) (aNil))))))
/-- is_claim -/
def m_is_claim : MF := aDef true 1 4 (aSeq (aIfS (aOrT (aNotT (aTest (aFn vIsi (aCons (aVar 0) (aCons (aC (.ty .tup)) (aNil)))))) (aTest (aBin vNe (aFn vLenA (aCons (aVar 0) (aNil))) (aC (.int 3))))) (aRet (aC (.bl false))) (aSkip)) (aSeq (aAsg (aVar 0) (agTup 3 (agCons (agName 1) (agCons (agName 2) (agCons (agName 3) (agNil)))))) (aRet (aAnd (aCall m_is_variable (aCons (aVar 1) (aNil))) (aAnd (aCall m_is_variable (aCons (aVar 3) (aNil))) (aAnd (aFn vIsi (aCons (aVar 2) (aCons (aC (.ty .str)) (aNil)))) (aBin vInA (aVar 2) (aC v_OPERATORS))))))))
/-- check_claims -/
def m_check_claims : MF := aDef true 1 4 (aSeq (aIfS (aOrT (aNotT (aTest (aFn vIsi (aCons (aVar 0) (aCons (aC (.ty .tup)) (aNil)))))) (aTest (aBin vGt (aFn vLenA (aCons (aVar 0) (aNil))) (aC v_MAX_CLAIMS)))) (aRaise1 "InvalidClaims" "position" (aC .non)) (aSkip)) (aSeq (aAsg (aSet0) (agName 1)) (aFor (aEnum (aCons (aVar 0) (aNil))) (agTup 2 (agCons (agName 2) (agCons (agName 3) (agNil)))) (aSeq (aIfS (aNotT (aTest (aCall m_is_claim (aCons (aVar 3) (aNil))))) (aRaise1 "InvalidClaims" "position" (aVar 2)) (aSkip)) (aSeq (aDrop (aMethO isS opSAdd (aVar 1) (aCons (aBin vIxA (aVar 3) (aC (.int 0))) (aNil)))) (aSeq (aDrop (aMethO isS opSAdd (aVar 1) (aCons (aBin vIxA (aVar 3) (aC (.int 2))) (aNil)))) (aIfS (aTest (aBin vGt (aFn vLenA (aCons (aVar 1) (aNil))) (aC v_MAX_CLAIM_VARIABLES))) (aRaise1 "InvalidClaims" "position" (aVar 2)) (aSkip))))))))
/-- are_claims -/
def m_are_claims : MF := aDef true 1 1 (aSeq (aTryO exT ["InvalidClaims"] (aDrop (aCall m_check_claims (aCons (aVar 0) (aNil)))) (aRet (aC (.bl false)))) (aRet (aC (.bl true))))
/-- read_claims -/
def m_read_claims : MF := aDef true 1 3 (aSeq (aIfS (aTest (aBin vEq (aVar 0) (aC (.str [])))) (aRet (aTup (aNil))) (aSkip)) (aSeq (aAsg (aFn vTuple (aCons (pureL (aLc (aIter (pureL (aSplit (aVar 0) (aCons (aC (.str [44, 32])) (aNil))))) (agName 2) (aYes) (aFn vTuple (aCons (pureL (aSplit (aVar 2) (aCons (aC (.str [32])) (aNil)))) (aNil))) [2])) (aNil))) (agName 1)) (aRet (aIf (aTest (aCall m_are_claims (aCons (aVar 1) (aNil)))) (aVar 1) (aC .non)))))
/-- parse_claims -/
def m_parse_claims : MF := aDef true 1 2 (aSeq (aAsg (aIf (aTest (aFn vIsi (aCons (aVar 0) (aCons (aC (.ty .str)) (aNil))))) (aCall m_read_claims (aCons (aVar 0) (aNil))) (aC .non)) (agName 1)) (aSeq (aIfS (aTest (aBin (vIs false) (aVar 1) (aC .non))) (aRaise1 "InvalidText" "line" (aC (.int 0))) (aSkip)) (aRet (aVar 1))))
/-- _law_cell -/
def m__law_cell : MF := aDef true 2 4 (aSeq (aIfS (aTest (aBin vLt (aVar 1) (aFn vLenA (aCons (aVar 0) (aNil))))) (aRet (aBin vIxA (aVar 0) (aVar 1))) (aSkip)) (aSeq (aAsg (aBin vMod (aBin vMulA (aC (.int 70003)) (aBin vAdd (aBin vAdd (aBin vMulA (aVar 1) (aVar 1)) (aBin vMulA (aC (.int 9)) (aVar 1))) (aC (.int 5)))) (aC (.int 2147483399))) (agName 2)) (aSeq (aFor (aIter (aSl (aVar 0) (aoN) (aoS (aC (.int 3))))) (agName 3) (aAsg (aBin vMod (aBin vAdd (aBin vMulA (aVar 2) (aC (.int 41011))) (aVar 3)) (aC (.int 2147483399))) (agName 2))) (aRet (aVar 2)))))
/-- _law_purse -/
def m__law_purse : MF := aDef false 1 2 (aSeq (aAsg (aC (.int 0)) (agName 1)) (aSeq (aIfS (aOrT (aTest (aBin vLt (aVar 0) (aC (.int 0)))) (aTest (aBin vGe (aVar 0) (aBin vPow (aC (.int 10)) (aC (.int 18)))))) (aAsg (aFn vAbs (aCons (aVar 0) (aNil))) (agName 1)) (aSkip)) (aRet (newL (aList (aCons (aBin vMod (aVar 0) (aC (.int 2147483399))) (aCons (aVar 1) (aCons (aC (.int 0)) (aNil)))))))))
/-- _law_draw -/
def m__law_draw : MF := aDef true 2 4 (aSeq (aAsg (aBin vAdd (aBin vIxA (aVar 0) (aC (.int 2))) (aC (.int 1))) (agSub (aVar 0) (aC (.int 2)))) (aSeq (aAsg (aBin vIxA (aVar 0) (aC (.int 0))) (agName 2)) (aSeq (aAsg (aBin vMod (aBin vAdd (aBin vAdd (aBin vMulA (aVar 2) (aBin vAdd (aBin vMod (aVar 2) (aC (.int 45007))) (aC (.int 31019)))) (aBin vMulA (aC (.int 90007)) (aBin vIxA (aVar 0) (aC (.int 2))))) (aC (.int 3))) (aC (.int 2147483399))) (agSub (aVar 0) (aC (.int 0)))) (aSeq (aIfS (aTest (aBin vGt (aBin vIxA (aVar 0) (aC (.int 1))) (aC (.int 0)))) (aSeq (aAsg (aFn vDivmod (aCons (aBin vIxA (aVar 0) (aC (.int 1))) (aCons (aVar 1) (aNil)))) (agTup 2 (agCons (agSub (aVar 0) (aC (.int 1))) (agCons (agName 3) (agNil))))) (aRet (aVar 3))) (aSkip)) (aRet (aBin vMod (aBin vDiv (aBin vIxA (aVar 0) (aC (.int 0))) (aC (.int 64))) (aVar 1)))))))
/-- _law_shuffled -/
def m__law_shuffled : MF := aDef true 2 5 (aSeq (aPar2 2 3 (aCons (newL (aListOf (aCons (aVar 1) (aNil)))) (aCons (newL (aList (aNil))) (aNil)))) (aSeq (aFor (aRng1 (aCons (aFn vLenA (aCons (aVar 1) (aNil))) (aNil))) (agName 4) (aDrop (aMethO isL opAppend (aVar 3) (aCons (aMethO isL opPopAt (aVar 2) (aCons (aCall m__law_draw (aCons (aVar 0) (aCons (aFn vLenA (aCons (aVar 2) (aNil))) (aNil)))) (aNil))) (aNil))))) (aRet (aVar 3))))
/-- _law_names -/
def m__law_names : MF := aDef true 2 10 (aSeq (aAsg (pureL (aList (aCons (aC (.str [112, 111, 105, 110, 116])) (aCons (aC (.str [115, 116, 101, 112])) (aCons (aC (.str [101, 110, 100, 115])) (aCons (aC (.str [108, 111, 111, 112, 115])) (aCons (aC (.str [100, 111, 119, 110])) (aCons (aC (.str [117, 112])) (aCons (aC (.str [110, 111, 110, 101])) (aCons (aC (.str [115, 116, 117, 99, 107])) (aCons (aC (.str [97, 100, 100])) (aCons (aC (.str [120])) (aCons (aC (.str [121])) (aCons (aC (.str [117, 110, 100, 111])) (aNil))))))))))))))) (agName 2)) (aSeq (aAsg (aTup (aCons (aCall m__law_draw (aCons (aVar 0) (aCons (aC (.int 12)) (aNil)))) (aCons (aBin vIxA (pureL (aList (aCons (aC (.int 1)) (aCons (aC (.int 5)) (aCons (aC (.int 7)) (aCons (aC (.int 11)) (aNil))))))) (aCall m__law_draw (aCons (aVar 0) (aCons (aC (.int 4)) (aNil))))) (aNil)))) (agTup 2 (agCons (agName 3) (agCons (agName 4) (agNil))))) (aSeq (aIfS (aTest (aBin vEq (aCall m__law_draw (aCons (aVar 0) (aCons (aC (.int 4)) (aNil)))) (aC (.int 1)))) (aRet (pureL (aSortS (aCons (pureL (aLc (aRng1 (aCons (aVar 1) (aNil))) (agName 9) (aYes) (aBin vIxA (aVar 2) (aBin vMod (aBin vAdd (aVar 3) (aBin vMulA (aVar 4) (aVar 9))) (aC (.int 12)))) [9])) (aNil))))) (aSkip)) (aSeq (aAsg (aC (.str [97, 98, 99, 100, 101, 102, 103, 104, 105, 106, 107, 108, 109, 110, 111, 112, 113, 114, 115, 116, 117, 118, 119, 120, 121, 122])) (agName 5)) (aSeq (aAsg (aMethS vJoin (aC (.str [])) (aCons (pureL (aLc (aRng1 (aCons (aCall m__law_draw (aCons (aVar 0) (aCons (aC (.int 6)) (aNil)))) (aNil))) (agName 9) (aYes) (aBin vIxA (aVar 5) (aCall m__law_draw (aCons (aVar 0) (aCons (aC (.int 26)) (aNil))))) [9])) (aNil))) (agName 6)) (aSeq (aAsg (aTup (aCons (aCall m__law_draw (aCons (aVar 0) (aCons (aBin vAdd (aFn vLenA (aCons (aVar 6) (aNil))) (aC (.int 1))) (aNil)))) (aCons (aCall m__law_draw (aCons (aVar 0) (aCons (aC (.int 26)) (aNil)))) (aNil)))) (agTup 2 (agCons (agName 7) (agCons (agName 8) (agNil))))) (aRet (pureL (aSortS (aCons (pureL (aLc (aRng1 (aCons (aVar 1) (aNil))) (agName 9) (aYes) (aBin vAdd (aBin vAdd (aSl (aVar 6) (aoN) (aoS (aVar 7))) (aBin vIxA (aVar 5) (aBin vMod (aBin vAdd (aVar 8) (aBin vMulA (aVar 4) (aVar 9))) (aC (.int 26))))) (aSl (aVar 6) (aoS (aVar 7)) (aoN))) [9])) (aNil)))))))))))
/-- _law_variables -/
def m__law_variables : MF := aDef true 2 4 (aSeq (aSetL true 2 (aLc (aIter (aCall m__law_names (aCons (aVar 0) (aCons (aVar 1) (aNil))))) (agName 3) (aYes) (aBin vAdd (aVar 3) (aBin vIxA (pureL (aList (aCons (aC (.str [])) (aCons (aC (.str [39])) (aNil))))) (aCall m__law_draw (aCons (aVar 0) (aCons (aC (.int 2)) (aNil)))))) [3])) (aSeq (aIfS (aAndT (aTest (aBin vGt (aVar 1) (aC (.int 1)))) (aTest (aBin vEq (aCall m__law_draw (aCons (aVar 0) (aCons (aC (.int 3)) (aNil)))) (aC (.int 0))))) (aAsg (aIf (aTest (aBin vEq (aBin vIxA (aBin vIxA (aVar 2) (aC (.int 0))) (aUn vNeg (aC (.int 1)))) (aC (.str [39])))) (aSl (aBin vIxA (aVar 2) (aC (.int 0))) (aoN) (aoS (aUn vNeg (aC (.int 1))))) (aBin vAdd (aBin vIxA (aVar 2) (aC (.int 0))) (aC (.str [39])))) (agSub (aVar 2) (aC (.int 1)))) (aSkip)) (aRet (aVar 2))))
/-- _law_any -/
def m__law_any : MF := aDef true 3 6 (aSeq (aAsg (newL (aList (aNil))) (agName 3)) (aSeq (aFor (aRng1 (aCons (aVar 2) (aNil))) (agName 4) (aSeq (aAsg (aBin vIxA (pureL (aList (aCons (aC (.str [60, 61])) (aCons (aC (.str [60, 61])) (aCons (aC (.str [60])) (aCons (aC (.str [61])) (aNil))))))) (aCall m__law_draw (aCons (aVar 0) (aCons (aC (.int 4)) (aNil))))) (agName 5)) (aDrop (aMethO isL opAppend (aVar 3) (aCons (aTup (aCons (aBin vIxA (aVar 1) (aCall m__law_draw (aCons (aVar 0) (aCons (aFn vLenA (aCons (aVar 1) (aNil))) (aNil))))) (aCons (aVar 5) (aCons (aBin vIxA (aVar 1) (aCall m__law_draw (aCons (aVar 0) (aCons (aFn vLenA (aCons (aVar 1) (aNil))) (aNil))))) (aNil))))) (aNil)))))) (aRet (aVar 3))))
/-- _law_fitting -/
def m__law_fitting : MF := aDef true 3 10 (aSeq (aPar2 3 4 (aCons (aFn vDictP (aCons (pureL (aLc (aIter (aVar 1)) (agName 9) (aYes) (aTup (aCons (aVar 9) (aCons (aCall m__law_draw (aCons (aVar 0) (aCons (aBin vAdd (aC (.int 1)) (aFn vLenA (aCons (aVar 1) (aNil)))) (aNil)))) (aNil)))) [9])) (aNil))) (aCons (newL (aList (aNil))) (aNil)))) (aSeq (aFor (aIter (aCall m__law_any (aCons (aVar 0) (aCons (aVar 1) (aCons (aVar 2) (aNil)))))) (agTup 3 (agCons (agName 5) (agCons (agName 6) (agCons (agName 7) (agNil))))) (aSeq (aIfS (aTest (aBin vGt (aBin vIxA (aVar 3) (aVar 5)) (aBin vIxA (aVar 3) (aVar 7)))) (aPar2 5 7 (aCons (aVar 7) (aCons (aVar 5) (aNil)))) (aSkip)) (aSeq (aAsg (aIf (aTest (aBin vLt (aBin vIxA (aVar 3) (aVar 5)) (aBin vIxA (aVar 3) (aVar 7)))) (pureL (aList (aCons (aC (.str [60])) (aCons (aC (.str [60, 61])) (aNil))))) (pureL (aList (aCons (aC (.str [61])) (aCons (aC (.str [60, 61])) (aNil)))))) (agName 8)) (aDrop (aMethO isL opAppend (aVar 4) (aCons (aTup (aCons (aVar 5) (aCons (aBin vIxA (aVar 8) (aCall m__law_draw (aCons (aVar 0) (aCons (aC (.int 2)) (aNil))))) (aCons (aVar 7) (aNil))))) (aNil))))))) (aRet (aVar 4))))
/-- _law_ring -/
def m__law_ring : MF := aDef true 2 6 (aSeq (aAsg (aSl (aCall m__law_shuffled (aCons (aVar 0) (aCons (aVar 1) (aNil)))) (aoN) (aoS (aBin vAdd (aC (.int 1)) (aCall m__law_draw (aCons (aVar 0) (aCons (aFn vLenA (aCons (aVar 1) (aNil))) (aNil))))))) (agName 2)) (aSeq (aSetL true 3 (aLc (aRng1 (aCons (aFn vLenA (aCons (aVar 2) (aNil))) (aNil))) (agName 5) (aYes) (aTup (aCons (aBin vIxA (aVar 2) (aBin vSub (aVar 5) (aC (.int 1)))) (aCons (aBin vIxA (pureL (aList (aCons (aC (.str [60, 61])) (aCons (aC (.str [61])) (aNil))))) (aCall m__law_draw (aCons (aVar 0) (aCons (aC (.int 2)) (aNil))))) (aCons (aBin vIxA (aVar 2) (aVar 5)) (aNil))))) [5])) (aSeq (aAsg (aCall m__law_draw (aCons (aVar 0) (aCons (aFn vLenA (aCons (aVar 2) (aNil))) (aNil)))) (agName 4)) (aSeq (aIfS (aTest (aBin vEq (aCall m__law_draw (aCons (aVar 0) (aCons (aC (.int 2)) (aNil)))) (aC (.int 0)))) (aAsg (aTup (aCons (aBin vIxA (aBin vIxA (aVar 3) (aVar 4)) (aC (.int 0))) (aCons (aC (.str [60])) (aCons (aBin vIxA (aBin vIxA (aVar 3) (aVar 4)) (aC (.int 2))) (aNil))))) (agSub (aVar 3) (aVar 4))) (aSkip)) (aSeq (aFor (aRng1 (aCons (aFn vLenA (aCons (aVar 3) (aNil))) (aNil))) (agName 5) (aIfS (aAndT (aTest (aBin vEq (aBin vIxA (aBin vIxA (aVar 3) (aVar 5)) (aC (.int 1))) (aC (.str [61])))) (aTest (aBin vEq (aCall m__law_draw (aCons (aVar 0) (aCons (aC (.int 2)) (aNil)))) (aC (.int 0))))) (aAsg (aTup (aCons (aBin vIxA (aBin vIxA (aVar 3) (aVar 5)) (aC (.int 2))) (aCons (aC (.str [61])) (aCons (aBin vIxA (aBin vIxA (aVar 3) (aVar 5)) (aC (.int 0))) (aNil))))) (agSub (aVar 3) (aVar 5))) (aSkip))) (aRet (aCall m__law_shuffled (aCons (aVar 0) (aCons (aVar 3) (aNil))))))))))
/-- _law_row -/
def m__law_row : MF := aDef true 2 6 (aSeq (aAsg (aTup (aCons (aCall m__law_shuffled (aCons (aVar 0) (aCons (aVar 1) (aNil)))) (aCons (pureL (aList (aCons (aC (.str [60, 61])) (aCons (aC (.str [60])) (aCons (aC (.str [60])) (aNil)))))) (aNil)))) (agTup 2 (agCons (agName 2) (agCons (agName 3) (agNil))))) (aSeq (aSetL true 4 (aLc (aRng2 (aCons (aC (.int 1)) (aCons (aFn vLenA (aCons (aVar 2) (aNil))) (aNil)))) (agName 5) (aYes) (aTup (aCons (aBin vIxA (aVar 2) (aBin vSub (aVar 5) (aC (.int 1)))) (aCons (aBin vIxA (aVar 3) (aCall m__law_draw (aCons (aVar 0) (aCons (aC (.int 3)) (aNil))))) (aCons (aBin vIxA (aVar 2) (aVar 5)) (aNil))))) [5])) (aSeq (aIfS (aAndT (aTest (aBin vGt (aFn vLenA (aCons (aVar 2) (aNil))) (aC (.int 2)))) (aTest (aBin vEq (aCall m__law_draw (aCons (aVar 0) (aCons (aC (.int 2)) (aNil)))) (aC (.int 0))))) (aDrop (aMethO isL opAppend (aVar 4) (aCons (aTup (aCons (aBin vIxA (aVar 2) (aC (.int 0))) (aCons (aC (.str [60, 61])) (aCons (aBin vIxA (aVar 2) (aC (.int 2))) (aNil))))) (aNil)))) (aSkip)) (aRet (aCall m__law_shuffled (aCons (aVar 0) (aCons (aVar 4) (aNil))))))))
/-- _law_some -/
def m__law_some : MF := aDef true 3 7 (aSeq (aAsg (aCall m__law_variables (aCons (aVar 0) (aCons (aBin vAdd (aC (.int 1)) (aCall m__law_draw (aCons (aVar 0) (aCons (aVar 1) (aNil))))) (aNil)))) (agName 3)) (aSeq (aPar2 4 5 (aCons (aCall m__law_draw (aCons (aVar 0) (aCons (aC (.int 6)) (aNil)))) (aCons (aBin vAdd (aC (.int 1)) (aCall m__law_draw (aCons (aVar 0) (aCons (aBin vIxA (pureL (aList (aCons (aC (.int 8)) (aCons (aVar 2) (aNil))))) (aFn vIntOf (aCons (aBin vEq (aCall m__law_draw (aCons (aVar 0) (aCons (aC (.int 6)) (aNil)))) (aC (.int 5))) (aNil)))) (aNil))))) (aNil)))) (aSeq (aIfS (aTest (aBin vEq (aVar 4) (aC (.int 0)))) (aRet (aCall m__law_any (aCons (aVar 0) (aCons (aVar 3) (aCons (aBin vMod (aVar 5) (aC (.int 4))) (aNil)))))) (aSkip)) (aSeq (aIfS (aTest (aBin vEq (aVar 4) (aC (.int 1)))) (aRet (aCall m__law_any (aCons (aVar 0) (aCons (aVar 3) (aCons (aVar 5) (aNil)))))) (aSkip)) (aSeq (aIfS (aTest (aBin vLt (aVar 4) (aC (.int 4)))) (aRet (aCall m__law_fitting (aCons (aVar 0) (aCons (aVar 3) (aCons (aVar 5) (aNil)))))) (aSkip)) (aSeq (aIfS (aTest (aBin vEq (aVar 4) (aC (.int 4)))) (aRet (aCall m__law_row (aCons (aVar 0) (aCons (aVar 3) (aNil))))) (aSkip)) (aSeq (aAsg (aBin vAdd (aCall m__law_ring (aCons (aVar 0) (aCons (aVar 3) (aNil)))) (aCall m__law_fitting (aCons (aVar 0) (aCons (aVar 3) (aCons (aVar 5) (aNil)))))) (agName 6)) (aRet (aCall m__law_shuffled (aCons (aVar 0) (aCons (aSl (aVar 6) (aoN) (aoS (aVar 2))) (aNil))))))))))))
/-- _law_written -/
def m__law_written : MF := aDef true 1 2 (aRet (aMethS vJoin (aC (.str [44, 32])) (aCons (pureL (aLc (aIter (aVar 0)) (agName 1) (aYes) (aMethS vJoin (aC (.str [32])) (aCons (aVar 1) (aNil))) [1])) (aNil))))
/-- _law_is_name -/
def m__law_is_name : MF := aDef true 1 2 (aSeq (aIfS (aOrT (aNotT (aTest (aFn vIsi (aCons (aVar 0) (aCons (aC (.ty .str)) (aNil)))))) (aNotT (aTest (aChain vLt vLt (aC (.int 0)) (aFn vLenA (aCons (aVar 0) (aNil))) (aC (.int 7)))))) (aRet (aC (.bl false))) (aSkip)) (aRet (aFn vAll (aCons (pureL (aLc (aIter (aVar 0)) (agName 1) (aYes) (aBin vInA (aVar 1) (aC (.str [97, 98, 99, 100, 101, 102, 103, 104, 105, 106, 107, 108, 109, 110, 111, 112, 113, 114, 115, 116, 117, 118, 119, 120, 121, 122]))) [1])) (aNil)))))
/-- _law_is_variable -/
def m__law_is_variable : MF := aDef true 1 1 (aRet (aAnd (aFn vIsi (aCons (aVar 0) (aCons (aC (.ty .str)) (aNil)))) (aCall m__law_is_name (aCons (aIf (aTest (aBin vEq (aSl (aVar 0) (aoS (aUn vNeg (aC (.int 1)))) (aoN)) (aC (.str [39])))) (aSl (aVar 0) (aoN) (aoS (aUn vNeg (aC (.int 1))))) (aVar 0)) (aNil)))))
/-- _law_is_claim -/
def m__law_is_claim : MF := aDef true 1 1 (aSeq (aIfS (aOrT (aNotT (aTest (aFn vIsi (aCons (aVar 0) (aCons (aC (.ty .tup)) (aNil)))))) (aOrT (aTest (aBin vNe (aFn vLenA (aCons (aVar 0) (aNil))) (aC (.int 3)))) (aOrT (aNotT (aTest (aFn vIsi (aCons (aBin vIxA (aVar 0) (aC (.int 1))) (aCons (aC (.ty .str)) (aNil)))))) (aTest (aBin vNotInA (aBin vIxA (aVar 0) (aC (.int 1))) (pureL (aList (aCons (aC (.str [60])) (aCons (aC (.str [60, 61])) (aCons (aC (.str [61])) (aNil))))))))))) (aRet (aC (.bl false))) (aSkip)) (aRet (aAnd (aCall m__law_is_variable (aCons (aBin vIxA (aVar 0) (aC (.int 0))) (aNil))) (aCall m__law_is_variable (aCons (aBin vIxA (aVar 0) (aC (.int 2))) (aNil))))))
/-- _law_readable -/
def m__law_readable : MF := aDef true 1 5 (aSeq (aAsg (aIf (aTest (aBin vNe (aVar 0) (aC (.str [])))) (pureL (aLc (aIter (pureL (aSplit (aVar 0) (aCons (aC (.str [44, 32])) (aNil))))) (agName 3) (aYes) (aFn vTuple (aCons (pureL (aSplit (aVar 3) (aCons (aC (.str [32])) (aNil)))) (aNil))) [3])) (pureL (aList (aNil)))) (agName 1)) (aSeq (aIfS (aOrT (aTest (aBin vGt (aFn vLenA (aCons (aVar 1) (aNil))) (aC (.int 100)))) (aNotT (aTest (aFn vAll (aCons (pureL (aLc (aIter (aVar 1)) (agName 4) (aYes) (aCall m__law_is_claim (aCons (aVar 4) (aNil))) [4])) (aNil)))))) (aRet (aC .non)) (aSkip)) (aSeq (aAsg (aBin vAdd (pureL (aLc (aIter (aVar 1)) (agName 4) (aYes) (aBin vIxA (aVar 4) (aC (.int 0))) [4])) (pureL (aLc (aIter (aVar 1)) (agName 4) (aYes) (aBin vIxA (aVar 4) (aC (.int 2))) [4]))) (agName 2)) (aRet (aIf (aTest (aBin vLt (aFn vLenA (aCons (aSetOf (aCons (aVar 2) (aNil))) (aNil))) (aC (.int 11)))) (aFn vTuple (aCons (aVar 1) (aNil))) (aC .non))))))
/-- _law_kind -/
def m__law_kind : MF := aDef true 1 6 (aSeq (aAsg (newL (aList (aCons (aFn (vIsiE exT) (aCons (aVar 0) (aCons (aC (.gl "InvalidClaim")) (aNil)))) (aCons (aFn (vIsiE exT) (aCons (aVar 0) (aCons (aC (.gl "InvalidClaims")) (aNil)))) (aCons (aFn (vIsiE exT) (aCons (aVar 0) (aCons (aC (.gl "InvalidVariables")) (aNil)))) (aNil)))))) (agName 1)) (aSeq (aDrop (aMethO isL opExtend (aVar 1) (aCons (newL (aList (aCons (aFn (vIsiE exT) (aCons (aVar 0) (aCons (aC (.gl "InvalidFixed")) (aNil)))) (aCons (aFn (vIsiE exT) (aCons (aVar 0) (aCons (aC (.gl "InvalidCap")) (aNil)))) (aCons (aFn (vIsiE exT) (aCons (aVar 0) (aCons (aC (.gl "InvalidIndex")) (aNil)))) (aNil)))))) (aNil)))) (aSeq (aDrop (aMethO isL opExtend (aVar 1) (aCons (newL (aList (aCons (aFn (vIsiE exT) (aCons (aVar 0) (aCons (aC (.gl "InvalidPoints")) (aNil)))) (aCons (aFn (vIsiE exT) (aCons (aVar 0) (aCons (aC (.gl "InvalidSteps")) (aNil)))) (aCons (aFn (vIsiE exT) (aCons (aVar 0) (aCons (aC (.gl "InvalidProgram")) (aNil)))) (aNil)))))) (aNil)))) (aSeq (aDrop (aMethO isL opExtend (aVar 1) (aCons (newL (aList (aCons (aFn (vIsiE exT) (aCons (aVar 0) (aCons (aC (.gl "InvalidText")) (aNil)))) (aCons (aFn (vIsiE exT) (aCons (aVar 0) (aCons (aC (.gl "InvalidState")) (aNil)))) (aCons (aFn (vIsiE exT) (aCons (aVar 0) (aCons (aC (.gl "InvalidWalk")) (aNil)))) (aNil)))))) (aNil)))) (aSeq (aDrop (aMethO isL opExtend (aVar 1) (aCons (newL (aList (aCons (aFn (vIsiE exT) (aCons (aVar 0) (aCons (aC (.gl "InvalidSummary")) (aNil)))) (aCons (aFn (vIsiE exT) (aCons (aVar 0) (aCons (aC (.gl "InvalidTimes")) (aNil)))) (aCons (aFn (vIsiE exT) (aCons (aVar 0) (aCons (aC (.gl "InvalidCondition")) (aNil)))) (aNil)))))) (aNil)))) (aSeq (aDrop (aMethO isL opExtend (aVar 1) (aCons (newL (aList (aCons (aFn (vIsiE exT) (aCons (aVar 0) (aCons (aC (.gl "InvalidEdit")) (aNil)))) (aCons (aFn (vIsiE exT) (aCons (aVar 0) (aCons (aC (.gl "InvalidEdits")) (aNil)))) (aCons (aFn (vIsiE exT) (aCons (aVar 0) (aCons (aC (.gl "InvalidHistory")) (aNil)))) (aNil)))))) (aNil)))) (aSeq (aDrop (aMethO isL opExtend (aVar 1) (aCons (newL (aList (aCons (aFn (vIsiE exT) (aCons (aVar 0) (aCons (aC (.gl "InvalidCommand")) (aNil)))) (aCons (aFn (vIsiE exT) (aCons (aVar 0) (aCons (aC (.gl "UnknownPoint")) (aNil)))) (aCons (aFn (vIsiE exT) (aCons (aVar 0) (aCons (aC (.gl "UnknownStep")) (aNil)))) (aNil)))))) (aNil)))) (aSeq (aDrop (aMethO isL opExtend (aVar 1) (aCons (newL (aList (aCons (aFn (vIsiE exT) (aCons (aVar 0) (aCons (aC (.gl "UnknownClaim")) (aNil)))) (aCons (aFn (vIsiE exT) (aCons (aVar 0) (aCons (aC (.gl "NothingToUndo")) (aNil)))) (aCons (aFn (vIsiE exT) (aCons (aVar 0) (aCons (aC (.gl "Contradictory")) (aNil)))) (aNil)))))) (aNil)))) (aSeq (aDrop (aMethO isL opExtend (aVar 1) (aCons (newL (aList (aCons (aFn (vIsiE exT) (aCons (aVar 0) (aCons (aC (.gl "DuplicateStep")) (aNil)))) (aCons (aFn (vIsiE exT) (aCons (aVar 0) (aCons (aC (.gl "Mismatch")) (aNil)))) (aCons (aFn (vIsiE exT) (aCons (aVar 0) (aCons (aC (.gl "Looping")) (aNil)))) (aNil)))))) (aNil)))) (aSeq (aDrop (aMethO isL opAppend (aVar 1) (aCons (aFn (vIsiE exT) (aCons (aVar 0) (aCons (aC (.gl "TooMany")) (aNil)))) (aNil)))) (aSeq (aAsg (newL (aList (aCons (aFn (vIsiE exT) (aCons (aVar 0) (aCons (aC (.gl "CaprunsError")) (aNil)))) (aCons (aFn (vIsiE exT) (aCons (aVar 0) (aCons (aC (.gl "SearchError")) (aNil)))) (aNil))))) (agName 2)) (aSeq (aDrop (aMethO isL opExtend (aVar 2) (aCons (newL (aList (aCons (aFn (vIsiE exT) (aCons (aVar 0) (aCons (aC (.gl "ConflictError")) (aNil)))) (aCons (aFn (vIsiE exT) (aCons (aVar 0) (aCons (aC (.gl "LimitError")) (aNil)))) (aNil))))) (aNil)))) (aSeq (aAsg (newL (aList (aCons (aFn (vIsiE exT) (aCons (aVar 0) (aCons (aC (.ty .ve)) (aNil)))) (aCons (aFn (vIsiE exT) (aCons (aVar 0) (aCons (aC (.ty .le)) (aNil)))) (aNil))))) (agName 3)) (aSeq (aDrop (aMethO isL opExtend (aVar 3) (aCons (newL (aList (aCons (aFn (vIsiE exT) (aCons (aVar 0) (aCons (aC (.ty .re)) (aNil)))) (aCons (aFn (vIsiE exT) (aCons (aVar 0) (aCons (aC (.ty .ae)) (aNil)))) (aNil))))) (aNil)))) (aSeq (aIfS (aOrT (aTest (aBin vNe (aMethO isL opCount (aVar 1) (aCons (aC (.bl true)) (aNil))) (aC (.int 1)))) (aTest (aBin vNe (aVar 2) (aVar 3)))) (aRet (aC (.str [111, 116, 104, 101, 114]))) (aSkip)) (aSeq (aAsg (aMethO isL opIndex (aVar 1) (aCons (aC (.bl true)) (aNil))) (agName 4)) (aSeq (aIfS (aTest (aBin vNe (aVar 2) (pureL (aList (aCons (aBin vLt (aVar 4) (aC (.int 19))) (aCons (aChain vLt vLt (aC (.int 18)) (aVar 4) (aC (.int 23))) (aCons (aChain vLt vLt (aC (.int 22)) (aVar 4) (aC (.int 27))) (aCons (aBin vEq (aVar 4) (aC (.int 27))) (aNil))))))))) (aRet (aC (.str [111, 116, 104, 101, 114]))) (aSkip)) (aSeq (aAsg (aC (.str [73, 110, 118, 97, 108, 105, 100, 67, 108, 97, 105, 109, 32, 73, 110, 118, 97, 108, 105, 100, 67, 108, 97, 105, 109, 115, 32, 73, 110, 118, 97, 108, 105, 100, 86, 97, 114, 105, 97, 98, 108, 101, 115, 32, 73, 110, 118, 97, 108, 105, 100, 70, 105, 120, 101, 100, 32, 73, 110, 118, 97, 108, 105, 100, 67, 97, 112, 32, 73, 110, 118, 97, 108, 105, 100, 73, 110, 100, 101, 120])) (agName 5)) (aSeq (aAsg (aBin vAdd (aVar 5) (aC (.str [32, 73, 110, 118, 97, 108, 105, 100, 80, 111, 105, 110, 116, 115, 32, 73, 110, 118, 97, 108, 105, 100, 83, 116, 101, 112, 115, 32, 73, 110, 118, 97, 108, 105, 100, 80, 114, 111, 103, 114, 97, 109, 32, 73, 110, 118, 97, 108, 105, 100, 84, 101, 120, 116, 32, 73, 110, 118, 97, 108, 105, 100, 83, 116, 97, 116, 101, 32, 73, 110, 118, 97, 108, 105, 100, 87, 97, 108, 107]))) (agName 5)) (aSeq (aAsg (aBin vAdd (aVar 5) (aC (.str [32, 73, 110, 118, 97, 108, 105, 100, 83, 117, 109, 109, 97, 114, 121, 32, 73, 110, 118, 97, 108, 105, 100, 84, 105, 109, 101, 115, 32, 73, 110, 118, 97, 108, 105, 100, 67, 111, 110, 100, 105, 116, 105, 111, 110, 32, 73, 110, 118, 97, 108, 105, 100, 69, 100, 105, 116, 32, 73, 110, 118, 97, 108, 105, 100, 69, 100, 105, 116, 115, 32, 73, 110, 118, 97, 108, 105, 100, 72, 105, 115, 116, 111, 114, 121]))) (agName 5)) (aSeq (aAsg (aBin vAdd (aVar 5) (aC (.str [32, 73, 110, 118, 97, 108, 105, 100, 67, 111, 109, 109, 97, 110, 100, 32, 85, 110, 107, 110, 111, 119, 110, 80, 111, 105, 110, 116, 32, 85, 110, 107, 110, 111, 119, 110, 83, 116, 101, 112, 32, 85, 110, 107, 110, 111, 119, 110, 67, 108, 97, 105, 109, 32, 78, 111, 116, 104, 105, 110, 103, 84, 111, 85, 110, 100, 111, 32, 67, 111, 110, 116, 114, 97, 100, 105, 99, 116, 111, 114, 121]))) (agName 5)) (aRet (aBin vIxA (pureL (aSplit (aBin vAdd (aVar 5) (aC (.str [32, 68, 117, 112, 108, 105, 99, 97, 116, 101, 83, 116, 101, 112, 32, 77, 105, 115, 109, 97, 116, 99, 104, 32, 76, 111, 111, 112, 105, 110, 103, 32, 84, 111, 111, 77, 97, 110, 121]))) (aCons (aC (.str [32])) (aNil)))) (aVar 4))))))))))))))))))))))))
/-- _law_told -/
def m__law_told : MF := aDef true 2 4 (aTryA exT ["CaprunsError", "SearchError", "ConflictError", "LimitError"] 2 (aRet (aFn vRepr (aCons (aIf (aTest (aVar 1)) (aCallK m_parse_claims 0 1 (fun a b => a ++ b) aNil (aCons (aVar 0) (aNil))) (aCall m_parse_claims (aCons (aVar 0) (aNil)))) (aNil)))) (aSeq (aAsg (aCall m__law_kind (aCons (aVar 2) (aNil))) (agName 3)) (aRet (aIf (aTest (aBin vEq (aVar 3) (aC (.str [73, 110, 118, 97, 108, 105, 100, 84, 101, 120, 116])))) (aFn vRepr (aCons (aTup (aCons (aVar 3) (aCons (aUn (vAttr exT "line") (aVar 2)) (aNil)))) (aNil))) (aVar 3)))))
/-- _law_right -/
def m__law_right : MF := aDef true 1 4 (aSeq (aAsg (aIf (aTest (aFn vIsi (aCons (aVar 0) (aCons (aC (.ty .str)) (aNil))))) (aCall m__law_readable (aCons (aVar 0) (aNil))) (aC .non)) (agName 1)) (aSeq (aAsg (aIf (aTest (aBin (vIs false) (aVar 1) (aC .non))) (aFn vRepr (aCons (aTup (aCons (aC (.str [73, 110, 118, 97, 108, 105, 100, 84, 101, 120, 116])) (aCons (aC (.int 0)) (aNil)))) (aNil))) (aFn vRepr (aCons (aVar 1) (aNil)))) (agName 2)) (aRet (aBin vEq (pureL (aLc (aIter (pureL (aList (aCons (aC (.bl false)) (aCons (aC (.bl true)) (aCons (aC (.bl false)) (aNil))))))) (agName 3) (aYes) (aCall m__law_told (aCons (aVar 0) (aCons (aVar 3) (aNil)))) [3])) (aBin vMulA (pureL (aList (aCons (aVar 2) (aNil)))) (aC (.int 3)))))))
/-- _law_bent -/
def m__law_bent : MF := aDef true 2 7 (aSeq (aPar2 2 3 (aCons (aCall m__law_draw (aCons (aVar 0) (aCons (aBin vAdd (aFn vLenA (aCons (aVar 1) (aNil))) (aC (.int 1))) (aNil)))) (aCons (aCall m__law_draw (aCons (aVar 0) (aCons (aC (.int 6)) (aNil)))) (aNil)))) (aSeq (aAsg (aBin vAdd (aVar 2) (aCall m__law_draw (aCons (aVar 0) (aCons (aBin vSub (aBin vAdd (aFn vLenA (aCons (aVar 1) (aNil))) (aC (.int 1))) (aVar 2)) (aNil))))) (agName 4)) (aSeq (aAsg (aC (.str [32, 39, 44, 60, 61, 62, 120, 65, 49, 10])) (agName 5)) (aSeq (aAsg (aBin vIxA (aVar 5) (aCall m__law_draw (aCons (aVar 0) (aCons (aFn vLenA (aCons (aVar 5) (aNil))) (aNil))))) (agName 6)) (aSeq (aIfS (aTest (aBin vLt (aVar 3) (aC (.int 2)))) (aRet (aBin vAdd (aBin vAdd (aSl (aVar 1) (aoN) (aoS (aVar 2))) (aVar 6)) (aSl (aVar 1) (aoS (aBin vAdd (aVar 2) (aVar 3))) (aoN)))) (aSkip)) (aSeq (aIfS (aTest (aBin vEq (aVar 3) (aC (.int 2)))) (aRet (aBin vAdd (aSl (aVar 1) (aoN) (aoS (aVar 2))) (aSl (aVar 1) (aoS (aBin vAdd (aVar 2) (aC (.int 1)))) (aoN)))) (aSkip)) (aSeq (aIfS (aTest (aBin vEq (aVar 3) (aC (.int 3)))) (aRet (aBin vAdd (aBin vAdd (aSl (aVar 1) (aoN) (aoS (aVar 2))) (aSl (aVar 1) (aoS (aVar 2)) (aoS (aBin vAdd (aVar 2) (aC (.int 1)))))) (aSl (aVar 1) (aoS (aVar 2)) (aoN)))) (aSkip)) (aRet (aIf (aTest (aBin vEq (aVar 3) (aC (.int 4)))) (aBin vAdd (aSl (aVar 1) (aoN) (aoS (aVar 2))) (aSl (aVar 1) (aoS (aVar 4)) (aoN))) (aBin vAdd (aSl (aVar 1) (aoN) (aoS (aVar 4))) (aSl (aVar 1) (aoS (aVar 2)) (aoN))))))))))))
/-- _law_by_hand -/
def m__law_by_hand : MF := aDef true 0 5 (aSeq (aAsg (pureL (aList (aCons (aC (.str [120, 60, 121])) (aCons (aC (.str [120, 32, 60, 121])) (aCons (aC (.str [120, 32, 32, 60, 32, 121])) (aCons (aC (.str [32, 120, 32, 60, 32, 121])) (aCons (aC (.str [120, 32, 60, 32, 121, 32])) (aCons (aC (.str [120, 32, 60, 32, 121, 44])) (aCons (aC (.str [120, 32, 60, 32, 121, 44, 32])) (aCons (aC (.str [120, 32, 60, 32, 121, 44, 121, 32, 60, 32, 122])) (aCons (aC (.str [120, 32, 60, 32, 121, 32, 44, 32, 121, 32, 60, 32, 122])) (aCons (aC (.str [44, 32, 120, 32, 60, 32, 121])) (aNil))))))))))))) (agName 0)) (aSeq (aAsg (aBin vAdd (aVar 0) (pureL (aList (aCons (aC (.str [120, 32, 60, 32, 121, 44, 32, 32, 121, 32, 60, 32, 122])) (aCons (aC (.str [120, 32, 60, 32, 121, 10])) (aCons (aC (.str [120, 10, 60, 32, 121])) (aCons (aC (.str [120, 32, 62, 32, 121])) (aCons (aC (.str [120, 32, 61, 61, 32, 121])) (aCons (aC (.str [120, 32, 61, 62, 32, 121])) (aCons (aC (.str [120, 32, 33, 61, 32, 121])) (aCons (aC (.str [120, 32, 61, 60, 32, 121])) (aCons (aC (.str [120, 32, 60, 32, 121, 32, 60, 32, 122])) (aNil))))))))))))) (agName 0)) (aSeq (aAsg (aBin vAdd (aVar 0) (pureL (aList (aCons (aC (.str [88, 32, 60, 32, 121])) (aCons (aC (.str [120, 49, 32, 60, 32, 121])) (aCons (aC (.str [97, 98, 99, 100, 101, 102, 103, 32, 60, 32, 121])) (aCons (aC (.str [97, 98, 99, 100, 101, 102, 39, 32, 60, 32, 121])) (aCons (aC (.str [120, 39, 39, 32, 60, 32, 121])) (aCons (aC (.str [39, 120, 32, 60, 32, 121])) (aCons (aC (.str [120, 39, 32, 60, 32, 121, 39])) (aCons (aC (.str [120, 32, 60, 32, 49])) (aNil)))))))))))) (agName 0)) (aSeq (aAsg (aBin vAdd (aVar 0) (pureL (aList (aCons (aC (.str [120, 32, 60])) (aCons (aC (.str [60, 32, 121])) (aCons (aC (.str [120])) (aCons (aC (.str [120, 32, 121])) (aCons (aC (.str [32])) (aCons (aC (.str [44])) (aCons (aC (.str [44, 32])) (aCons (aC (.str [40, 41])) (aCons (aC (.str [120, 32, 60, 32, 121, 59, 32, 121, 32, 60, 32, 122])) (aCons (aC (.str [120, 32, 60, 32, 121, 44, 32, 120, 32, 60, 32, 121])) (aCons (aC (.str [120, 32, 60, 61, 32, 121])) (aNil))))))))))))))) (agName 0)) (aSeq (aAsg (aBin vAdd (aVar 0) (pureL (aList (aCons (aC (.str [120, 32, 61, 32, 121])) (aCons (aC (.str [120, 60, 61, 32, 121])) (aCons (aC (.str [])) (aNil))))))) (agName 0)) (aSeq (aAsg (aC (.str [97, 98, 99, 100, 101, 102, 103, 104, 105, 106, 107])) (agName 1)) (aSeq (aSetL false 2 (aLc (aRng1 (aCons (aC (.int 11)) (aNil))) (agName 3) (aYes) (aBin vAdd (aBin vAdd (aBin vIxA (aVar 1) (aBin vSub (aVar 3) (aC (.int 1)))) (aC (.str [32, 60, 61, 32]))) (aBin vIxA (aVar 1) (aVar 3))) [3])) (aSeq (aAsg (aBin vAdd (aVar 0) (pureL (aList (aCons (aMethS vJoin (aC (.str [44, 32])) (aCons (aVar 2) (aNil))) (aCons (aMethS vJoin (aC (.str [44, 32])) (aCons (aSl (aVar 2) (aoS (aC (.int 1))) (aoN)) (aNil))) (aCons (aMethS vJoin (aC (.str [44, 32])) (aCons (aSl (aVar 2) (aoS (aC (.int 1))) (aoS (aC (.int 10)))) (aNil))) (aCons (aMethS vJoin (aC (.str [44, 32])) (aCons (aBin vMulA (pureL (aList (aCons (aC (.str [120, 32, 60, 32, 121])) (aNil)))) (aC (.int 100))) (aNil))) (aNil)))))))) (agName 0)) (aSeq (aAsg (aBin vAdd (aVar 0) (pureL (aList (aCons (aMethS vJoin (aC (.str [44, 32])) (aCons (aBin vMulA (pureL (aList (aCons (aC (.str [120, 32, 60, 32, 121])) (aNil)))) (aC (.int 101))) (aNil))) (aCons (aC .non) (aCons (aC (.bl true)) (aCons (aC (.int 0)) (aCons (aC (.int 7)) (aCons (aTup (aNil)) (aCons (pureL (aList (aNil))) (aCons (aC (.dct [] [])) (aCons (aTup (aCons (aC (.str [120, 32, 60, 32, 121])) (aNil))) (aCons (pureL (aList (aCons (aC (.str [120, 32, 60, 32, 121])) (aNil)))) (aCons (aTup (aCons (aC (.str [120])) (aCons (aC (.str [60])) (aCons (aC (.str [121])) (aNil))))) (aNil))))))))))))))) (agName 0)) (aRet (aFn vAll (aCons (pureL (aLc (aIter (aBin vAdd (aVar 0) (pureL (aList (aCons (aTup (aCons (aTup (aCons (aC (.str [120])) (aCons (aC (.str [60])) (aCons (aC (.str [121])) (aNil))))) (aNil))) (aCons (pureL (aList (aCons (pureL (aList (aNil))) (aNil)))) (aNil))))))) (agName 4) (aYes) (aCall m__law_right (aCons (aVar 4) (aNil))) [4])) (aNil)))))))))))))
/-- law -/
def m_law : MF := aDef true 1 5 (aSeq (aIfS (aNotT (aTest (aCall m__law_by_hand aNil))) (aRet (aC (.bl false))) (aSkip)) (aSeq (aFor (aRng1 (aCons (aFn vMax (aCons (aC (.int 2)) (aCons (aFn vMin (aCons (aFn vLenA (aCons (aVar 0) (aNil))) (aCons (aC (.int 6)) (aNil)))) (aNil)))) (aNil))) (agName 1) (aSeq (aAsg (aCall m__law_purse (aCons (aCall m__law_cell (aCons (aVar 0) (aCons (aVar 1) (aNil)))) (aNil))) (agName 2)) (aFor (aRng1 (aCons (aC (.int 12)) (aNil))) (agName 3) (aSeq (aAsg (aCall m__law_written (aCons (aCall m__law_some (aCons (aVar 2) (aCons (aC (.int 10)) (aCons (aC (.int 40)) (aNil))))) (aNil))) (agName 4)) (aIfS (aOrT (aNotT (aTest (aCall m__law_right (aCons (aVar 4) (aNil))))) (aNotT (aTest (aCall m__law_right (aCons (aCall m__law_bent (aCons (aVar 2) (aCons (aVar 4) (aNil)))) (aNil)))))) (aRet (aC (.bl false))) (aSkip)))))) (aRet (aC (.bl true)))))
/-! ### derivations -/
theorem b_ArithmeticError : bootBuiltins "ArithmeticError" = some (.type "ArithmeticError") := by decide +kernel
theorem b_LookupError : bootBuiltins "LookupError" = some (.type "LookupError") := by decide +kernel
theorem b_RuntimeError : bootBuiltins "RuntimeError" = some (.type "RuntimeError") := by decide +kernel
theorem b_ValueError : bootBuiltins "ValueError" = some (.type "ValueError") := by decide +kernel
theorem b_abs : bootBuiltins "abs" = some (.builtin "abs") := by decide +kernel
theorem b_all : bootBuiltins "all" = some (.builtin "all") := by decide +kernel
theorem b_dict : bootBuiltins "dict" = some (.type "dict") := by decide +kernel
theorem b_divmod : bootBuiltins "divmod" = some (.builtin "divmod") := by decide +kernel
theorem b_enumerate : bootBuiltins "enumerate" = some (.type "enumerate") := by decide +kernel
theorem b_int : bootBuiltins "int" = some (.type "int") := by decide +kernel
theorem b_isinstance : bootBuiltins "isinstance" = some (.builtin "isinstance") := by decide +kernel
theorem b_len : bootBuiltins "len" = some (.builtin "len") := by decide +kernel
theorem b_list : bootBuiltins "list" = some (.type "list") := by decide +kernel
theorem b_max : bootBuiltins "max" = some (.builtin "max") := by decide +kernel
theorem b_min : bootBuiltins "min" = some (.builtin "min") := by decide +kernel
theorem b_range : bootBuiltins "range" = some (.type "range") := by decide +kernel
theorem b_repr : bootBuiltins "repr" = some (.builtin "repr") := by decide +kernel
theorem b_set : bootBuiltins "set" = some (.type "set") := by decide +kernel
theorem b_sorted : bootBuiltins "sorted" = some (.builtin "sorted") := by decide +kernel
theorem b_str : bootBuiltins "str" = some (.type "str") := by decide +kernel
theorem b_tuple : bootBuiltins "tuple" = some (.type "tuple") := by decide +kernel
section
variable {P : Program} {w : World} {K : PySem.W.Frag} {mg : Str → Option Value} {base : Heap}
theorem sc_is_name : FnScope ["thing", "sign"] ["thing"] (defScope (top 38)) := ⟨rfl, rfl, rfl, by decide +kernel, rfl, by decide +kernel, by decide +kernel⟩
theorem fg_is_name {f : Addr} {fd : FuncData} (F : FnP K "is_name" (top 38) f fd) (g_all : mg "all" = none) (g_isinstance : mg "isinstance" = none) (g_len : mg "len" = none) (g_str : mg "str" = none) (V_LETTERS : GV K mg "LETTERS" v_LETTERS) : FG P w K mg base 1 f fd ["thing"] m_is_name := by
  refine FG.of true F sc_is_name fun cdv A outer s H E hr hg => ?_
  have c : Cn 0 (cxOf (L2.CX P w) P w K mg base ["thing", "sign"] "is_name" (defScope (top 38)) f cdv A outer s H E) := ⟨rfl, sc_is_name.nd, hr, hg⟩
  have tk : Takes (cxOf (L2.CX P w) P w K mg base ["thing", "sign"] "is_name" (defScope (top 38)) f cdv A outer s H E) (fun cls d _ H' => E cls d H') := takes_of rfl rfl rfl rfl
  exact DSs.one (DS.ret (DE.and (DE.fnB VCall.isi rfl g_isinstance b_isinstance (DA.cons (DE.var 0) (DA.cons (DE.ty .str rfl g_str b_str) (DA.nil)))) (DE.and (DE.chain VOp.le VOp.le (DE.int) (DE.fnB VCall.lenA rfl g_len b_len (DA.cons (DE.var 0) (DA.nil))) (DE.int)) (DE.one (DE.fnB (VCall.all c.cm) rfl g_all b_all (DA.cons (DL.pure (DL.lc [("sign", 1)] [1] c.cm c.nd (DI.seq (DE.var 0)) (blkOk_by (by kernel_rfl)) (fun _ _ _ _ _ => DGw.name 1 c.b.nd) (fun _ _ _ _ _ => DTs.nil) (fun _ _ _ _ _ => DE.cmp (VOp.inA c.b.u2) (DE.var 1) (DE.glob rfl (GV.x V_LETTERS))))) (DA.nil)))))))
theorem sc_is_variable : FnScope ["thing"] ["thing"] (defScope (top 39)) := ⟨rfl, rfl, rfl, by decide +kernel, rfl, by decide +kernel, by decide +kernel⟩
theorem fg_is_variable {f : Addr} {fd : FuncData} (F : FnP K "is_variable" (top 39) f fd) (g_isinstance : mg "isinstance" = none) (g_str : mg "str" = none) (F_is_name : Fn P w K mg base 1 "is_name" m_is_name) : FG P w K mg base 2 f fd ["thing"] m_is_variable := by
  replace F_is_name := F_is_name.mono (k := 1) (by decide)
  refine FG.of true F sc_is_variable fun cdv A outer s H E hr hg => ?_
  have c : Cn 1 (cxOf (L2.CX P w) P w K mg base ["thing"] "is_variable" (defScope (top 39)) f cdv A outer s H E) := ⟨rfl, sc_is_variable.nd, hr, hg⟩
  have tk : Takes (cxOf (L2.CX P w) P w K mg base ["thing"] "is_variable" (defScope (top 39)) f cdv A outer s H E) (fun cls d _ H' => E cls d H') := takes_of rfl rfl rfl rfl
  exact DSs.cons (DS.ite (DT.not (DT.val (DE.fnB VCall.isi rfl g_isinstance b_isinstance (DA.cons (DE.var 0) (DA.cons (DE.ty .str rfl g_str b_str) (DA.nil)))))) (DSs.one (DS.ret (DE.bool))) (DSs.nil)) (DSs.one (DS.ret (DE.ifExp (DT.val (DE.methS PySem.F.slot_str_endswith PySem.F.type_str_endswith VMs.endswith (DE.var 0) (DA.cons (DE.str [39]) (DA.nil)))) (DE.call F_is_name c.rm c.gd c.cm tk (DA.cons (DE.slice (DE.var 0) (DO.none) (DO.some (DE.un VUn.neg (DE.int)))) (DA.nil))) (DE.call F_is_name c.rm c.gd c.cm tk (DA.cons (DE.var 0) (DA.nil))))))
theorem sc_is_claim : FnScope ["thing", "left", "operator", "right"] ["thing"] (defScope (top 40)) := ⟨rfl, rfl, rfl, by decide +kernel, rfl, by decide +kernel, by decide +kernel⟩
theorem fg_is_claim {f : Addr} {fd : FuncData} (F : FnP K "is_claim" (top 40) f fd) (g_isinstance : mg "isinstance" = none) (g_len : mg "len" = none) (g_str : mg "str" = none) (g_tuple : mg "tuple" = none) (V_OPERATORS : GV K mg "OPERATORS" v_OPERATORS) (F_is_variable : Fn P w K mg base 2 "is_variable" m_is_variable) : FG P w K mg base 3 f fd ["thing"] m_is_claim := by
  replace F_is_variable := F_is_variable.mono (k := 2) (by decide)
  refine FG.of true F sc_is_claim fun cdv A outer s H E hr hg => ?_
  have c : Cn 2 (cxOf (L2.CX P w) P w K mg base ["thing", "left", "operator", "right"] "is_claim" (defScope (top 40)) f cdv A outer s H E) := ⟨rfl, sc_is_claim.nd, hr, hg⟩
  have tk : Takes (cxOf (L2.CX P w) P w K mg base ["thing", "left", "operator", "right"] "is_claim" (defScope (top 40)) f cdv A outer s H E) (fun cls d _ H' => E cls d H') := takes_of rfl rfl rfl rfl
  exact DSs.cons (DS.ite (DW.dt (DW.or (DT.not (DT.val (DE.fnB VCall.isi rfl g_isinstance b_isinstance (DA.cons (DE.var 0) (DA.cons (DE.ty .tup rfl g_tuple b_tuple) (DA.nil)))))) (DW.or1 (DT.cmp (VOp.ne c.u1) (DE.fnB VCall.lenA rfl g_len b_len (DA.cons (DE.var 0) (DA.nil))) (DE.int))))) (DSs.one (DS.ret (DE.bool))) (DSs.nil)) (DSs.cons (DS.asg (DE.var 0) (DG.tup c.cm (DGs.cons (DG.name 1 c.nd) (DGs.cons (DG.name 2 c.nd) (DGs.cons (DG.name 3 c.nd) (DGs.nil)))))) (DSs.one (DS.ret (DE.and (DE.call F_is_variable c.rm c.gd c.cm tk (DA.cons (DE.var 1) (DA.nil))) (DE.and (DE.call F_is_variable c.rm c.gd c.cm tk (DA.cons (DE.var 3) (DA.nil))) (DE.and (DE.fnB VCall.isi rfl g_isinstance b_isinstance (DA.cons (DE.var 2) (DA.cons (DE.ty .str rfl g_str b_str) (DA.nil)))) (DE.one (DE.cmp (VOp.inA c.u2) (DE.var 2) (DE.glob rfl (GV.x V_OPERATORS))))))))))
theorem sc_check_claims : FnScope ["claims", "seen", "position", "claim"] ["claims"] (defScope (top 41)) := ⟨rfl, rfl, rfl, by decide +kernel, rfl, by decide +kernel, by decide +kernel⟩
theorem fg_check_claims {f : Addr} {fd : FuncData} (F : FnP K "check_claims" (top 41) f fd) (g_enumerate : mg "enumerate" = none) (g_isinstance : mg "isinstance" = none) (g_len : mg "len" = none) (g_set : mg "set" = none) (g_tuple : mg "tuple" = none) (V_MAX_CLAIM_VARIABLES : GV K mg "MAX_CLAIM_VARIABLES" v_MAX_CLAIM_VARIABLES) (V_MAX_CLAIMS : GV K mg "MAX_CLAIMS" v_MAX_CLAIMS) (F_is_claim : Fn P w K mg base 3 "is_claim" m_is_claim) (C_InvalidClaims : ∃ a, mg "InvalidClaims" = some (.ref a)) (R_InvalidClaims : ExI P w K mg base 1 "InvalidClaims" "position") : FG P w K mg base 4 f fd ["claims"] m_check_claims := by
  replace F_is_claim := F_is_claim.mono (k := 3) (by decide)
  refine FG.of true F sc_check_claims fun cdv A outer s H E hr hg => ?_
  have c : Cn 3 (cxOf (L2.CX P w) P w K mg base ["claims", "seen", "position", "claim"] "check_claims" (defScope (top 41)) f cdv A outer s H E) := ⟨rfl, sc_check_claims.nd, hr, hg⟩
  have tk : Takes (cxOf (L2.CX P w) P w K mg base ["claims", "seen", "position", "claim"] "check_claims" (defScope (top 41)) f cdv A outer s H E) (fun cls d _ H' => E cls d H') := takes_of rfl rfl rfl rfl
  exact DSs.cons (DS.ite (DW.dt (DW.or (DT.not (DT.val (DE.fnB VCall.isi rfl g_isinstance b_isinstance (DA.cons (DE.var 0) (DA.cons (DE.ty .tup rfl g_tuple b_tuple) (DA.nil)))))) (DW.or1 (DT.cmp VOp.gt (DE.fnB VCall.lenA rfl g_len b_len (DA.cons (DE.var 0) (DA.nil))) (DE.glob rfl (GV.x V_MAX_CLAIMS)))))) (DSs.one (DS.raise1 R_InvalidClaims c.cm tk (c.rm.mono (by decide)) (DE.nonE))) (DSs.nil)) (DSs.cons (DS.set 1 c.nd (DE.set0 rfl g_set)) (DSs.one (DS.for_ (passes_of rfl) c.cm (DI.enum rfl g_enumerate (DA.cons (DE.var 0) (DA.nil))) (DG.tup c.cm (DGs.cons (DG.name 2 c.nd) (DGs.cons (DG.name 3 c.nd) (DGs.nil)))) (DSs.cons (DS.ite (DT.not (DT.val (DE.call F_is_claim c.rm c.gd c.cm tk (DA.cons (DE.var 3) (DA.nil))))) (DSs.one (DS.raise1 R_InvalidClaims c.cm tk (c.rm.mono (by decide)) (DE.var 2))) (DSs.nil)) (DSs.cons (DS.expr (DE.sadd (DE.var 1) (DA.cons (DE.ixA c.u1 (DE.var 3) (DE.int)) (DA.nil)))) (DSs.cons (DS.expr (DE.sadd (DE.var 1) (DA.cons (DE.ixA c.u1 (DE.var 3) (DE.int)) (DA.nil)))) (DSs.one (DS.ite (DT.cmp VOp.gt (DE.fnB VCall.lenA rfl g_len b_len (DA.cons (DE.var 1) (DA.nil))) (DE.glob rfl (GV.x V_MAX_CLAIM_VARIABLES))) (DSs.one (DS.raise1 R_InvalidClaims c.cm tk (c.rm.mono (by decide)) (DE.var 2))) (DSs.nil)))))))))
theorem sc_are_claims : FnScope ["thing"] ["thing"] (defScope (top 42)) := ⟨rfl, rfl, rfl, by decide +kernel, rfl, by decide +kernel, by decide +kernel⟩
theorem fg_are_claims {f : Addr} {fd : FuncData} (F : FnP K "are_claims" (top 42) f fd) (F_check_claims : Fn P w K mg base 4 "check_claims" m_check_claims) (EX : ExT exT K mg) (C_InvalidClaims : ∃ a, mg "InvalidClaims" = some (.ref a)) : FG P w K mg base 5 f fd ["thing"] m_are_claims := by
  replace F_check_claims := F_check_claims.mono (k := 4) (by decide)
  refine FG.of true F sc_are_claims fun cdv A outer s H E hr hg => ?_
  have c : Cn 4 (cxOf (L2.CX P w) P w K mg base ["thing"] "are_claims" (defScope (top 42)) f cdv A outer s H E) := ⟨rfl, sc_are_claims.nd, hr, hg⟩
  have tk : Takes (cxOf (L2.CX P w) P w K mg base ["thing"] "are_claims" (defScope (top 42)) f cdv A outer s H E) (fun cls d _ H' => E cls d H') := takes_of rfl rfl rfl rfl
  exact DSs.cons (DS.tryO EX C_InvalidClaims c.cm rfl rfl tk (fun W pn xe tk po => DSs.one (DS.expr (DE.call F_check_claims c.t.rm c.t.gd c.t.cm tk (DA.cons (DE.var 0) (DA.nil))))) (fun a oe pn hf => DSs.one (DS.ret (DE.bool)))) (DSs.one (DS.ret (DE.bool)))
theorem sc_read_claims : FnScope ["text", "claims", "part"] ["text"] (defScope (top 43)) := ⟨rfl, rfl, rfl, by decide +kernel, rfl, by decide +kernel, by decide +kernel⟩
theorem fg_read_claims {f : Addr} {fd : FuncData} (F : FnP K "read_claims" (top 43) f fd) (g_tuple : mg "tuple" = none) (F_are_claims : Fn P w K mg base 5 "are_claims" m_are_claims) : FG P w K mg base 6 f fd ["text"] m_read_claims := by
  replace F_are_claims := F_are_claims.mono (k := 5) (by decide)
  refine FG.of true F sc_read_claims fun cdv A outer s H E hr hg => ?_
  have c : Cn 5 (cxOf (L2.CX P w) P w K mg base ["text", "claims", "part"] "read_claims" (defScope (top 43)) f cdv A outer s H E) := ⟨rfl, sc_read_claims.nd, hr, hg⟩
  have tk : Takes (cxOf (L2.CX P w) P w K mg base ["text", "claims", "part"] "read_claims" (defScope (top 43)) f cdv A outer s H E) (fun cls d _ H' => E cls d H') := takes_of rfl rfl rfl rfl
  exact DSs.cons (DS.ite (DT.cmp (VOp.eq c.u1) (DE.var 0) (DE.str [])) (DSs.one (DS.ret (DE.tup (DA.nil)))) (DSs.nil)) (DSs.cons (DS.set 1 c.nd (DE.fnT VCall.tuple rfl g_tuple b_tuple (DA.cons (DL.pure (DL.lc [("part", 2)] [2] c.cm c.nd (DI.seq (DL.pure (DL.split (DE.var 0) (DA.cons (DE.str [44, 32]) (DA.nil))))) (blkOk_by (by kernel_rfl)) (fun _ _ _ _ _ => DGw.name 2 c.b.nd) (fun _ _ _ _ _ => DTs.nil) (fun _ _ _ _ _ => DE.fnT VCall.tuple rfl g_tuple b_tuple (DA.cons (DL.pure (DL.split (DE.var 2) (DA.cons (DE.str [32]) (DA.nil)))) (DA.nil))))) (DA.nil)))) (DSs.one (DS.ret (DE.ifExp (DT.val (DE.call F_are_claims c.rm c.gd c.cm tk (DA.cons (DE.var 1) (DA.nil)))) (DE.var 1) (DE.nonE)))))
theorem sc_parse_claims : FnScope ["text", "claims"] ["text"] (defScope (top 44)) := ⟨rfl, rfl, rfl, by decide +kernel, rfl, by decide +kernel, by decide +kernel⟩
theorem fg_parse_claims {f : Addr} {fd : FuncData} (F : FnP K "parse_claims" (top 44) f fd) (g_isinstance : mg "isinstance" = none) (g_str : mg "str" = none) (F_read_claims : Fn P w K mg base 6 "read_claims" m_read_claims) (C_InvalidText : ∃ a, mg "InvalidText" = some (.ref a)) (R_InvalidText : ExI P w K mg base 1 "InvalidText" "line") : FG P w K mg base 7 f fd ["text"] m_parse_claims := by
  replace F_read_claims := F_read_claims.mono (k := 6) (by decide)
  refine FG.of true F sc_parse_claims fun cdv A outer s H E hr hg => ?_
  have c : Cn 6 (cxOf (L2.CX P w) P w K mg base ["text", "claims"] "parse_claims" (defScope (top 44)) f cdv A outer s H E) := ⟨rfl, sc_parse_claims.nd, hr, hg⟩
  have tk : Takes (cxOf (L2.CX P w) P w K mg base ["text", "claims"] "parse_claims" (defScope (top 44)) f cdv A outer s H E) (fun cls d _ H' => E cls d H') := takes_of rfl rfl rfl rfl
  exact DSs.cons (DS.set 1 c.nd (DE.ifExp (DT.val (DE.fnB VCall.isi rfl g_isinstance b_isinstance (DA.cons (DE.var 0) (DA.cons (DE.ty .str rfl g_str b_str) (DA.nil))))) (DE.call F_read_claims c.rm c.gd c.cm tk (DA.cons (DE.var 0) (DA.nil))) (DE.nonE))) (DSs.cons (DS.ite (DT.cmp VOp.is_ (DE.var 1) (DE.nonE)) (DSs.one (DS.raise1 R_InvalidText c.cm tk (c.rm.mono (by decide)) (DE.int))) (DSs.nil)) (DSs.one (DS.ret (DE.var 1))))
theorem sc__law_cell : FnScope ["_law_script", "_law_k", "_law_mixed", "_law_cell_here"] ["_law_script", "_law_k"] (defScope (top 46)) := ⟨rfl, rfl, rfl, by decide +kernel, rfl, by decide +kernel, by decide +kernel⟩
theorem fg__law_cell {f : Addr} {fd : FuncData} (F : FnP K "_law_cell" (top 46) f fd) (g_len : mg "len" = none) : FG P w K mg base 1 f fd ["_law_script", "_law_k"] m__law_cell := by
  refine FG.of true F sc__law_cell fun cdv A outer s H E hr hg => ?_
  have c : Cn 0 (cxOf (L2.CX P w) P w K mg base ["_law_script", "_law_k", "_law_mixed", "_law_cell_here"] "_law_cell" (defScope (top 46)) f cdv A outer s H E) := ⟨rfl, sc__law_cell.nd, hr, hg⟩
  have tk : Takes (cxOf (L2.CX P w) P w K mg base ["_law_script", "_law_k", "_law_mixed", "_law_cell_here"] "_law_cell" (defScope (top 46)) f cdv A outer s H E) (fun cls d _ H' => E cls d H') := takes_of rfl rfl rfl rfl
  exact DSs.cons (DS.ite (DT.cmp VOp.lt (DE.var 1) (DE.fnB VCall.lenA rfl g_len b_len (DA.cons (DE.var 0) (DA.nil)))) (DSs.one (DS.ret (DE.ixA c.u1 (DE.var 0) (DE.var 1)))) (DSs.nil)) (DSs.cons (DS.set 2 c.nd (DE.bin VOp.mod (DE.bin VOp.mulA (DE.int) (DE.bin VOp.add (DE.bin VOp.add (DE.bin VOp.mulA (DE.var 1) (DE.var 1)) (DE.bin VOp.mulA (DE.int) (DE.var 1))) (DE.int))) (DE.int))) (DSs.cons (DS.for_ (passes_of rfl) c.cm (DI.seq (DE.slice (DE.var 0) (DO.none) (DO.some (DE.int)))) (DG.name 3 c.nd) (DSs.one (DS.set 2 c.nd (DE.bin VOp.mod (DE.bin VOp.add (DE.bin VOp.mulA (DE.var 2) (DE.int)) (DE.var 3)) (DE.int))))) (DSs.one (DS.ret (DE.var 2)))))
theorem sc__law_purse : FnScope ["_law_cell_here", "_law_digits"] ["_law_cell_here"] (defScope (top 47)) := ⟨rfl, rfl, rfl, by decide +kernel, rfl, by decide +kernel, by decide +kernel⟩
theorem fg__law_purse {f : Addr} {fd : FuncData} (F : FnP K "_law_purse" (top 47) f fd) (g_abs : mg "abs" = none) : FG P w K mg base 1 f fd ["_law_cell_here"] m__law_purse := by
  refine FG.of false F sc__law_purse fun cdv A outer s H E hr hg => ?_
  have c : Cn 0 (cxOf (L2.CX P w) P w K mg base ["_law_cell_here", "_law_digits"] "_law_purse" (defScope (top 47)) f cdv A outer s H E) := ⟨rfl, sc__law_purse.nd, hr, hg⟩
  have tk : Takes (cxOf (L2.CX P w) P w K mg base ["_law_cell_here", "_law_digits"] "_law_purse" (defScope (top 47)) f cdv A outer s H E) (fun cls d _ H' => E cls d H') := takes_of rfl rfl rfl rfl
  exact DSs.cons (DS.set 1 c.nd (DE.int)) (DSs.cons (DS.ite (DW.dt (DW.or (DT.cmp VOp.lt (DE.var 0) (DE.int)) (DW.or1 (DT.cmp VOp.ge (DE.var 0) (DE.bin VOp.pow (DE.int) (DE.int)))))) (DSs.one (DS.set 1 c.nd (DE.fnB VCall.abs rfl g_abs b_abs (DA.cons (DE.var 0) (DA.nil))))) (DSs.nil)) (DSs.one (DS.ret (DL.new (DL.list (DA.cons (DE.bin VOp.mod (DE.var 0) (DE.int)) (DA.cons (DE.var 1) (DA.cons (DE.int) (DA.nil)))))))))
theorem sc__law_draw : FnScope ["_law_purse_here", "_law_size", "_law_mixed", "_law_digit"] ["_law_purse_here", "_law_size"] (defScope (top 48)) := ⟨rfl, rfl, rfl, by decide +kernel, rfl, by decide +kernel, by decide +kernel⟩
theorem fg__law_draw {f : Addr} {fd : FuncData} (F : FnP K "_law_draw" (top 48) f fd) (g_divmod : mg "divmod" = none) : FG P w K mg base 1 f fd ["_law_purse_here", "_law_size"] m__law_draw := by
  refine FG.of true F sc__law_draw fun cdv A outer s H E hr hg => ?_
  have c : Cn 0 (cxOf (L2.CX P w) P w K mg base ["_law_purse_here", "_law_size", "_law_mixed", "_law_digit"] "_law_draw" (defScope (top 48)) f cdv A outer s H E) := ⟨rfl, sc__law_draw.nd, hr, hg⟩
  have tk : Takes (cxOf (L2.CX P w) P w K mg base ["_law_purse_here", "_law_size", "_law_mixed", "_law_digit"] "_law_draw" (defScope (top 48)) f cdv A outer s H E) (fun cls d _ H' => E cls d H') := takes_of rfl rfl rfl rfl
  exact DSs.cons (DS.asg (DE.bin VOp.add (DE.ixA c.u1 (DE.var 0) (DE.int)) (DE.int)) (DG.sub (DE.var 0) (DE.int))) (DSs.cons (DS.set 2 c.nd (DE.ixA c.u1 (DE.var 0) (DE.int))) (DSs.cons (DS.asg (DE.bin VOp.mod (DE.bin VOp.add (DE.bin VOp.add (DE.bin VOp.mulA (DE.var 2) (DE.bin VOp.add (DE.bin VOp.mod (DE.var 2) (DE.int)) (DE.int))) (DE.bin VOp.mulA (DE.int) (DE.ixA c.u1 (DE.var 0) (DE.int)))) (DE.int)) (DE.int)) (DG.sub (DE.var 0) (DE.int))) (DSs.cons (DS.ite (DT.cmp VOp.gt (DE.ixA c.u1 (DE.var 0) (DE.int)) (DE.int)) (DSs.cons (DS.asg (DE.fnB VCall.divmod rfl g_divmod b_divmod (DA.cons (DE.ixA c.u1 (DE.var 0) (DE.int)) (DA.cons (DE.var 1) (DA.nil)))) (DG.tup c.cm (DGs.cons (DG.sub (DE.var 0) (DE.int)) (DGs.cons (DG.name 3 c.nd) (DGs.nil))))) (DSs.one (DS.ret (DE.var 3)))) (DSs.nil)) (DSs.one (DS.ret (DE.bin VOp.mod (DE.bin VOp.div (DE.ixA c.u1 (DE.var 0) (DE.int)) (DE.int)) (DE.var 1)))))))
theorem sc__law_shuffled : FnScope ["_law_purse_here", "_law_things", "_law_left", "_law_found", "_law_k"] ["_law_purse_here", "_law_things"] (defScope (top 49)) := ⟨rfl, rfl, rfl, by decide +kernel, rfl, by decide +kernel, by decide +kernel⟩
theorem fg__law_shuffled {f : Addr} {fd : FuncData} (F : FnP K "_law_shuffled" (top 49) f fd) (g_len : mg "len" = none) (g_list : mg "list" = none) (g_range : mg "range" = none) (F__law_draw : Fn P w K mg base 1 "_law_draw" m__law_draw) : FG P w K mg base 2 f fd ["_law_purse_here", "_law_things"] m__law_shuffled := by
  replace F__law_draw := F__law_draw.mono (k := 1) (by decide)
  refine FG.of true F sc__law_shuffled fun cdv A outer s H E hr hg => ?_
  have c : Cn 1 (cxOf (L2.CX P w) P w K mg base ["_law_purse_here", "_law_things", "_law_left", "_law_found", "_law_k"] "_law_shuffled" (defScope (top 49)) f cdv A outer s H E) := ⟨rfl, sc__law_shuffled.nd, hr, hg⟩
  have tk : Takes (cxOf (L2.CX P w) P w K mg base ["_law_purse_here", "_law_things", "_law_left", "_law_found", "_law_k"] "_law_shuffled" (defScope (top 49)) f cdv A outer s H E) (fun cls d _ H' => E cls d H') := takes_of rfl rfl rfl rfl
  exact DSs.cons (DS.par2 2 3 c.cm c.nd (DA.cons (DL.new (DL.listOf rfl g_list (DA.cons (DE.var 1) (DA.nil)))) (DA.cons (DL.new (DL.list (DA.nil))) (DA.nil))) rfl) (DSs.cons (DS.for_ (passes_of rfl) c.cm (DI.rng1 rfl g_range (DA.cons (DE.fnB VCall.lenA rfl g_len b_len (DA.cons (DE.var 1) (DA.nil))) (DA.nil))) (DG.name 4 c.nd) (DSs.one (DS.expr (DE.methL PySem.F.slot_list_append PySem.F.type_list_append VMo.append (DE.var 3) (DA.cons (DE.methL PySem.F.slot_list_pop PySem.F.type_list_pop VMo.popAt (DE.var 2) (DA.cons (DE.call F__law_draw c.rm c.gd c.cm tk (DA.cons (DE.var 0) (DA.cons (DE.fnB VCall.lenA rfl g_len b_len (DA.cons (DE.var 2) (DA.nil))) (DA.nil)))) (DA.nil))) (DA.nil)))))) (DSs.one (DS.ret (DE.var 3))))
theorem sc__law_names : FnScope ["_law_purse_here", "_law_many", "_law_words", "_law_at", "_law_pace", "_law_letters", "_law_stem", "_law_cut", "_law_begin", "_law_k"] ["_law_purse_here", "_law_many"] (defScope (top 50)) := ⟨rfl, rfl, rfl, by decide +kernel, rfl, by decide +kernel, by decide +kernel⟩
theorem fg__law_names {f : Addr} {fd : FuncData} (F : FnP K "_law_names" (top 50) f fd) (g_len : mg "len" = none) (g_range : mg "range" = none) (g_sorted : mg "sorted" = none) (F__law_draw : Fn P w K mg base 1 "_law_draw" m__law_draw) : FG P w K mg base 2 f fd ["_law_purse_here", "_law_many"] m__law_names := by
  replace F__law_draw := F__law_draw.mono (k := 1) (by decide)
  refine FG.of true F sc__law_names fun cdv A outer s H E hr hg => ?_
  have c : Cn 1 (cxOf (L2.CX P w) P w K mg base ["_law_purse_here", "_law_many", "_law_words", "_law_at", "_law_pace", "_law_letters", "_law_stem", "_law_cut", "_law_begin", "_law_k"] "_law_names" (defScope (top 50)) f cdv A outer s H E) := ⟨rfl, sc__law_names.nd, hr, hg⟩
  have tk : Takes (cxOf (L2.CX P w) P w K mg base ["_law_purse_here", "_law_many", "_law_words", "_law_at", "_law_pace", "_law_letters", "_law_stem", "_law_cut", "_law_begin", "_law_k"] "_law_names" (defScope (top 50)) f cdv A outer s H E) (fun cls d _ H' => E cls d H') := takes_of rfl rfl rfl rfl
  exact DSs.cons (DS.set 2 c.nd (DL.pure (DL.list (DA.cons (DE.str [112, 111, 105, 110, 116]) (DA.cons (DE.str [115, 116, 101, 112]) (DA.cons (DE.str [101, 110, 100, 115]) (DA.cons (DE.str [108, 111, 111, 112, 115]) (DA.cons (DE.str [100, 111, 119, 110]) (DA.cons (DE.str [117, 112]) (DA.cons (DE.str [110, 111, 110, 101]) (DA.cons (DE.str [115, 116, 117, 99, 107]) (DA.cons (DE.str [97, 100, 100]) (DA.cons (DE.str [120]) (DA.cons (DE.str [121]) (DA.cons (DE.str [117, 110, 100, 111]) (DA.nil)))))))))))))))) (DSs.cons (DS.asg (DE.tup (DA.cons (DE.call F__law_draw c.rm c.gd c.cm tk (DA.cons (DE.var 0) (DA.cons (DE.int) (DA.nil)))) (DA.cons (DE.ixA c.u1 (DL.pure (DL.list (DA.cons (DE.int) (DA.cons (DE.int) (DA.cons (DE.int) (DA.cons (DE.int) (DA.nil))))))) (DE.call F__law_draw c.rm c.gd c.cm tk (DA.cons (DE.var 0) (DA.cons (DE.int) (DA.nil))))) (DA.nil)))) (DG.tup c.cm (DGs.cons (DG.name 3 c.nd) (DGs.cons (DG.name 4 c.nd) (DGs.nil))))) (DSs.cons (DS.ite (DT.cmp (VOp.eq c.u1) (DE.call F__law_draw c.rm c.gd c.cm tk (DA.cons (DE.var 0) (DA.cons (DE.int) (DA.nil)))) (DE.int)) (DSs.one (DS.ret (DL.pure (DL.sortS rfl g_sorted (DA.cons (DL.pure (DL.lc [("_law_k", 9)] [9] c.cm c.nd (DI.rng1 rfl g_range (DA.cons (DE.var 1) (DA.nil))) (blkOk_by (by kernel_rfl)) (fun _ _ _ _ _ => DGw.name 9 c.b.nd) (fun _ _ _ _ _ => DTs.nil) (fun _ _ _ _ _ => DE.ixA c.b.u1 (DE.var 2) (DE.bin VOp.mod (DE.bin VOp.add (DE.var 3) (DE.bin VOp.mulA (DE.var 4) (DE.var 9))) (DE.int))))) (DA.nil)))))) (DSs.nil)) (DSs.cons (DS.set 5 c.nd (DE.str [97, 98, 99, 100, 101, 102, 103, 104, 105, 106, 107, 108, 109, 110, 111, 112, 113, 114, 115, 116, 117, 118, 119, 120, 121, 122])) (DSs.cons (DS.set 6 c.nd (DE.methS PySem.F.slot_str_join PySem.F.type_str_join VMs.join (DE.str []) (DA.cons (DL.pure (DL.lc [("_law_k", 9)] [9] c.cm c.nd (DI.rng1 rfl g_range (DA.cons (DE.call F__law_draw c.rm c.gd c.cm tk (DA.cons (DE.var 0) (DA.cons (DE.int) (DA.nil)))) (DA.nil))) (blkOk_by (by kernel_rfl)) (fun _ _ _ _ _ => DGw.name 9 c.b.nd) (fun _ _ _ _ _ => DTs.nil) (fun _ _ _ _ _ => DE.ixA c.b.u1 (DE.var 5) (DE.call F__law_draw c.b.rm c.b.gd c.b.cm takesN (DA.cons (DE.var 0) (DA.cons (DE.int) (DA.nil))))))) (DA.nil)))) (DSs.cons (DS.asg (DE.tup (DA.cons (DE.call F__law_draw c.rm c.gd c.cm tk (DA.cons (DE.var 0) (DA.cons (DE.bin VOp.add (DE.fnB VCall.lenA rfl g_len b_len (DA.cons (DE.var 6) (DA.nil))) (DE.int)) (DA.nil)))) (DA.cons (DE.call F__law_draw c.rm c.gd c.cm tk (DA.cons (DE.var 0) (DA.cons (DE.int) (DA.nil)))) (DA.nil)))) (DG.tup c.cm (DGs.cons (DG.name 7 c.nd) (DGs.cons (DG.name 8 c.nd) (DGs.nil))))) (DSs.one (DS.ret (DL.pure (DL.sortS rfl g_sorted (DA.cons (DL.pure (DL.lc [("_law_k", 9)] [9] c.cm c.nd (DI.rng1 rfl g_range (DA.cons (DE.var 1) (DA.nil))) (blkOk_by (by kernel_rfl)) (fun _ _ _ _ _ => DGw.name 9 c.b.nd) (fun _ _ _ _ _ => DTs.nil) (fun _ _ _ _ _ => DE.bin VOp.add (DE.bin VOp.add (DE.slice (DE.var 6) (DO.none) (DO.some (DE.var 7))) (DE.ixA c.b.u1 (DE.var 5) (DE.bin VOp.mod (DE.bin VOp.add (DE.var 8) (DE.bin VOp.mulA (DE.var 4) (DE.var 9))) (DE.int)))) (DE.slice (DE.var 6) (DO.some (DE.var 7)) (DO.none))))) (DA.nil)))))))))))
theorem sc__law_variables : FnScope ["_law_purse_here", "_law_many", "_law_found", "_law_name"] ["_law_purse_here", "_law_many"] (defScope (top 51)) := ⟨rfl, rfl, rfl, by decide +kernel, rfl, by decide +kernel, by decide +kernel⟩
theorem fg__law_variables {f : Addr} {fd : FuncData} (F : FnP K "_law_variables" (top 51) f fd) (F__law_draw : Fn P w K mg base 1 "_law_draw" m__law_draw) (F__law_names : Fn P w K mg base 2 "_law_names" m__law_names) : FG P w K mg base 3 f fd ["_law_purse_here", "_law_many"] m__law_variables := by
  replace F__law_draw := F__law_draw.mono (k := 2) (by decide)
  replace F__law_names := F__law_names.mono (k := 2) (by decide)
  refine FG.of true F sc__law_variables fun cdv A outer s H E hr hg => ?_
  have c : Cn 2 (cxOf (L2.CX P w) P w K mg base ["_law_purse_here", "_law_many", "_law_found", "_law_name"] "_law_variables" (defScope (top 51)) f cdv A outer s H E) := ⟨rfl, sc__law_variables.nd, hr, hg⟩
  have tk : Takes (cxOf (L2.CX P w) P w K mg base ["_law_purse_here", "_law_many", "_law_found", "_law_name"] "_law_variables" (defScope (top 51)) f cdv A outer s H E) (fun cls d _ H' => E cls d H') := takes_of rfl rfl rfl rfl
  exact DSs.cons (DS.setLc [("_law_name", 3)] [3] true 2 c.cm c.nd rfl (DI.seq (DE.call F__law_names c.rm c.gd c.cm tk (DA.cons (DE.var 0) (DA.cons (DE.var 1) (DA.nil))))) (blkOk_by (by kernel_rfl)) (fun _ _ _ _ _ => DGw.name 3 c.b.nd) (fun _ _ _ _ _ => DTs.nil) (fun _ _ _ _ _ => DE.bin VOp.add (DE.var 3) (DE.ixA c.b.u1 (DL.pure (DL.list (DA.cons (DE.str []) (DA.cons (DE.str [39]) (DA.nil))))) (DE.call F__law_draw c.b.rm c.b.gd c.b.cm takesN (DA.cons (DE.var 0) (DA.cons (DE.int) (DA.nil))))))) (DSs.cons (DS.ite (DW.dt (DW.and (DT.cmp VOp.gt (DE.var 1) (DE.int)) (DW.and1 (DT.cmp (VOp.eq c.u1) (DE.call F__law_draw c.rm c.gd c.cm tk (DA.cons (DE.var 0) (DA.cons (DE.int) (DA.nil)))) (DE.int))))) (DSs.one (DS.asg (DE.ifExp (DT.cmp (VOp.eq c.u1) (DE.ixA c.u1 (DE.ixA c.u1 (DE.var 2) (DE.int)) (DE.un VUn.neg (DE.int))) (DE.str [39])) (DE.slice (DE.ixA c.u1 (DE.var 2) (DE.int)) (DO.none) (DO.some (DE.un VUn.neg (DE.int)))) (DE.bin VOp.add (DE.ixA c.u1 (DE.var 2) (DE.int)) (DE.str [39]))) (DG.sub (DE.var 2) (DE.int)))) (DSs.nil)) (DSs.one (DS.ret (DE.var 2))))
theorem sc__law_any : FnScope ["_law_purse_here", "_law_names_here", "_law_many", "_law_found", "_law_turn", "_law_sign"] ["_law_purse_here", "_law_names_here", "_law_many"] (defScope (top 52)) := ⟨rfl, rfl, rfl, by decide +kernel, rfl, by decide +kernel, by decide +kernel⟩
theorem fg__law_any {f : Addr} {fd : FuncData} (F : FnP K "_law_any" (top 52) f fd) (g_len : mg "len" = none) (g_range : mg "range" = none) (F__law_draw : Fn P w K mg base 1 "_law_draw" m__law_draw) : FG P w K mg base 2 f fd ["_law_purse_here", "_law_names_here", "_law_many"] m__law_any := by
  replace F__law_draw := F__law_draw.mono (k := 1) (by decide)
  refine FG.of true F sc__law_any fun cdv A outer s H E hr hg => ?_
  have c : Cn 1 (cxOf (L2.CX P w) P w K mg base ["_law_purse_here", "_law_names_here", "_law_many", "_law_found", "_law_turn", "_law_sign"] "_law_any" (defScope (top 52)) f cdv A outer s H E) := ⟨rfl, sc__law_any.nd, hr, hg⟩
  have tk : Takes (cxOf (L2.CX P w) P w K mg base ["_law_purse_here", "_law_names_here", "_law_many", "_law_found", "_law_turn", "_law_sign"] "_law_any" (defScope (top 52)) f cdv A outer s H E) (fun cls d _ H' => E cls d H') := takes_of rfl rfl rfl rfl
  exact DSs.cons (DS.set 3 c.nd (DL.new (DL.list (DA.nil)))) (DSs.cons (DS.for_ (passes_of rfl) c.cm (DI.rng1 rfl g_range (DA.cons (DE.var 2) (DA.nil))) (DG.name 4 c.nd) (DSs.cons (DS.set 5 c.nd (DE.ixA c.u1 (DL.pure (DL.list (DA.cons (DE.str [60, 61]) (DA.cons (DE.str [60, 61]) (DA.cons (DE.str [60]) (DA.cons (DE.str [61]) (DA.nil))))))) (DE.call F__law_draw c.rm c.gd c.cm tk (DA.cons (DE.var 0) (DA.cons (DE.int) (DA.nil)))))) (DSs.one (DS.expr (DE.methL PySem.F.slot_list_append PySem.F.type_list_append VMo.append (DE.var 3) (DA.cons (DE.tup (DA.cons (DE.ixA c.u1 (DE.var 1) (DE.call F__law_draw c.rm c.gd c.cm tk (DA.cons (DE.var 0) (DA.cons (DE.fnB VCall.lenA rfl g_len b_len (DA.cons (DE.var 1) (DA.nil))) (DA.nil))))) (DA.cons (DE.var 5) (DA.cons (DE.ixA c.u1 (DE.var 1) (DE.call F__law_draw c.rm c.gd c.cm tk (DA.cons (DE.var 0) (DA.cons (DE.fnB VCall.lenA rfl g_len b_len (DA.cons (DE.var 1) (DA.nil))) (DA.nil))))) (DA.nil))))) (DA.nil))))))) (DSs.one (DS.ret (DE.var 3))))
theorem sc__law_fitting : FnScope ["_law_purse_here", "_law_names_here", "_law_many", "_law_values", "_law_found", "_law_low", "_law_sign", "_law_high", "_law_signs", "_law_name"] ["_law_purse_here", "_law_names_here", "_law_many"] (defScope (top 53)) := ⟨rfl, rfl, rfl, by decide +kernel, rfl, by decide +kernel, by decide +kernel⟩
theorem fg__law_fitting {f : Addr} {fd : FuncData} (F : FnP K "_law_fitting" (top 53) f fd) (g_dict : mg "dict" = none) (g_len : mg "len" = none) (F__law_any : Fn P w K mg base 2 "_law_any" m__law_any) (F__law_draw : Fn P w K mg base 1 "_law_draw" m__law_draw) : FG P w K mg base 3 f fd ["_law_purse_here", "_law_names_here", "_law_many"] m__law_fitting := by
  replace F__law_any := F__law_any.mono (k := 2) (by decide)
  replace F__law_draw := F__law_draw.mono (k := 2) (by decide)
  refine FG.of true F sc__law_fitting fun cdv A outer s H E hr hg => ?_
  have c : Cn 2 (cxOf (L2.CX P w) P w K mg base ["_law_purse_here", "_law_names_here", "_law_many", "_law_values", "_law_found", "_law_low", "_law_sign", "_law_high", "_law_signs", "_law_name"] "_law_fitting" (defScope (top 53)) f cdv A outer s H E) := ⟨rfl, sc__law_fitting.nd, hr, hg⟩
  have tk : Takes (cxOf (L2.CX P w) P w K mg base ["_law_purse_here", "_law_names_here", "_law_many", "_law_values", "_law_found", "_law_low", "_law_sign", "_law_high", "_law_signs", "_law_name"] "_law_fitting" (defScope (top 53)) f cdv A outer s H E) (fun cls d _ H' => E cls d H') := takes_of rfl rfl rfl rfl
  exact DSs.cons (DS.par2 3 4 c.cm c.nd (DA.cons (DE.fnT (VCall.dictP c.cm) rfl g_dict b_dict (DA.cons (DL.pure (DL.lc [("_law_name", 9)] [9] c.cm c.nd (DI.seq (DE.var 1)) (blkOk_by (by kernel_rfl)) (fun _ _ _ _ _ => DGw.name 9 c.b.nd) (fun _ _ _ _ _ => DTs.nil) (fun _ _ _ _ _ => DE.tup (DA.cons (DE.var 9) (DA.cons (DE.call F__law_draw c.b.rm c.b.gd c.b.cm takesN (DA.cons (DE.var 0) (DA.cons (DE.bin VOp.add (DE.int) (DE.fnB VCall.lenA rfl g_len b_len (DA.cons (DE.var 1) (DA.nil)))) (DA.nil)))) (DA.nil)))))) (DA.nil))) (DA.cons (DL.new (DL.list (DA.nil))) (DA.nil))) rfl) (DSs.cons (DS.for_ (passes_of rfl) c.cm (DI.seq (DE.call F__law_any c.rm c.gd c.cm tk (DA.cons (DE.var 0) (DA.cons (DE.var 1) (DA.cons (DE.var 2) (DA.nil)))))) (DG.tup c.cm (DGs.cons (DG.name 5 c.nd) (DGs.cons (DG.name 6 c.nd) (DGs.cons (DG.name 7 c.nd) (DGs.nil))))) (DSs.cons (DS.ite (DT.cmp VOp.gt (DE.ixA c.u1 (DE.var 3) (DE.var 5)) (DE.ixA c.u1 (DE.var 3) (DE.var 7))) (DSs.one (DS.par2 5 7 c.cm c.nd (DA.cons (DE.var 7) (DA.cons (DE.var 5) (DA.nil))) rfl)) (DSs.nil)) (DSs.cons (DS.set 8 c.nd (DE.ifExp (DT.cmp VOp.lt (DE.ixA c.u1 (DE.var 3) (DE.var 5)) (DE.ixA c.u1 (DE.var 3) (DE.var 7))) (DL.pure (DL.list (DA.cons (DE.str [60]) (DA.cons (DE.str [60, 61]) (DA.nil))))) (DL.pure (DL.list (DA.cons (DE.str [61]) (DA.cons (DE.str [60, 61]) (DA.nil))))))) (DSs.one (DS.expr (DE.methL PySem.F.slot_list_append PySem.F.type_list_append VMo.append (DE.var 4) (DA.cons (DE.tup (DA.cons (DE.var 5) (DA.cons (DE.ixA c.u1 (DE.var 8) (DE.call F__law_draw c.rm c.gd c.cm tk (DA.cons (DE.var 0) (DA.cons (DE.int) (DA.nil))))) (DA.cons (DE.var 7) (DA.nil))))) (DA.nil)))))))) (DSs.one (DS.ret (DE.var 4))))
theorem sc__law_ring : FnScope ["_law_purse_here", "_law_names_here", "_law_some_here", "_law_found", "_law_at", "_law_k"] ["_law_purse_here", "_law_names_here"] (defScope (top 54)) := ⟨rfl, rfl, rfl, by decide +kernel, rfl, by decide +kernel, by decide +kernel⟩
theorem fg__law_ring {f : Addr} {fd : FuncData} (F : FnP K "_law_ring" (top 54) f fd) (g_len : mg "len" = none) (g_range : mg "range" = none) (F__law_shuffled : Fn P w K mg base 2 "_law_shuffled" m__law_shuffled) (F__law_draw : Fn P w K mg base 1 "_law_draw" m__law_draw) : FG P w K mg base 3 f fd ["_law_purse_here", "_law_names_here"] m__law_ring := by
  replace F__law_shuffled := F__law_shuffled.mono (k := 2) (by decide)
  replace F__law_draw := F__law_draw.mono (k := 2) (by decide)
  refine FG.of true F sc__law_ring fun cdv A outer s H E hr hg => ?_
  have c : Cn 2 (cxOf (L2.CX P w) P w K mg base ["_law_purse_here", "_law_names_here", "_law_some_here", "_law_found", "_law_at", "_law_k"] "_law_ring" (defScope (top 54)) f cdv A outer s H E) := ⟨rfl, sc__law_ring.nd, hr, hg⟩
  have tk : Takes (cxOf (L2.CX P w) P w K mg base ["_law_purse_here", "_law_names_here", "_law_some_here", "_law_found", "_law_at", "_law_k"] "_law_ring" (defScope (top 54)) f cdv A outer s H E) (fun cls d _ H' => E cls d H') := takes_of rfl rfl rfl rfl
  exact DSs.cons (DS.set 2 c.nd (DE.slice (DE.call F__law_shuffled c.rm c.gd c.cm tk (DA.cons (DE.var 0) (DA.cons (DE.var 1) (DA.nil)))) (DO.none) (DO.some (DE.bin VOp.add (DE.int) (DE.call F__law_draw c.rm c.gd c.cm tk (DA.cons (DE.var 0) (DA.cons (DE.fnB VCall.lenA rfl g_len b_len (DA.cons (DE.var 1) (DA.nil))) (DA.nil)))))))) (DSs.cons (DS.setLc [("_law_k", 5)] [5] true 3 c.cm c.nd rfl (DI.rng1 rfl g_range (DA.cons (DE.fnB VCall.lenA rfl g_len b_len (DA.cons (DE.var 2) (DA.nil))) (DA.nil))) (blkOk_by (by kernel_rfl)) (fun _ _ _ _ _ => DGw.name 5 c.b.nd) (fun _ _ _ _ _ => DTs.nil) (fun _ _ _ _ _ => DE.tup (DA.cons (DE.ixA c.b.u1 (DE.var 2) (DE.bin VOp.sub (DE.var 5) (DE.int))) (DA.cons (DE.ixA c.b.u1 (DL.pure (DL.list (DA.cons (DE.str [60, 61]) (DA.cons (DE.str [61]) (DA.nil))))) (DE.call F__law_draw c.b.rm c.b.gd c.b.cm takesN (DA.cons (DE.var 0) (DA.cons (DE.int) (DA.nil))))) (DA.cons (DE.ixA c.b.u1 (DE.var 2) (DE.var 5)) (DA.nil)))))) (DSs.cons (DS.set 4 c.nd (DE.call F__law_draw c.rm c.gd c.cm tk (DA.cons (DE.var 0) (DA.cons (DE.fnB VCall.lenA rfl g_len b_len (DA.cons (DE.var 2) (DA.nil))) (DA.nil))))) (DSs.cons (DS.ite (DT.cmp (VOp.eq c.u1) (DE.call F__law_draw c.rm c.gd c.cm tk (DA.cons (DE.var 0) (DA.cons (DE.int) (DA.nil)))) (DE.int)) (DSs.one (DS.asg (DE.tup (DA.cons (DE.ixA c.u1 (DE.ixA c.u1 (DE.var 3) (DE.var 4)) (DE.int)) (DA.cons (DE.str [60]) (DA.cons (DE.ixA c.u1 (DE.ixA c.u1 (DE.var 3) (DE.var 4)) (DE.int)) (DA.nil))))) (DG.sub (DE.var 3) (DE.var 4)))) (DSs.nil)) (DSs.cons (DS.for_ (passes_of rfl) c.cm (DI.rng1 rfl g_range (DA.cons (DE.fnB VCall.lenA rfl g_len b_len (DA.cons (DE.var 3) (DA.nil))) (DA.nil))) (DG.name 5 c.nd) (DSs.one (DS.ite (DW.dt (DW.and (DT.cmp (VOp.eq c.u1) (DE.ixA c.u1 (DE.ixA c.u1 (DE.var 3) (DE.var 5)) (DE.int)) (DE.str [61])) (DW.and1 (DT.cmp (VOp.eq c.u1) (DE.call F__law_draw c.rm c.gd c.cm tk (DA.cons (DE.var 0) (DA.cons (DE.int) (DA.nil)))) (DE.int))))) (DSs.one (DS.asg (DE.tup (DA.cons (DE.ixA c.u1 (DE.ixA c.u1 (DE.var 3) (DE.var 5)) (DE.int)) (DA.cons (DE.str [61]) (DA.cons (DE.ixA c.u1 (DE.ixA c.u1 (DE.var 3) (DE.var 5)) (DE.int)) (DA.nil))))) (DG.sub (DE.var 3) (DE.var 5)))) (DSs.nil)))) (DSs.one (DS.ret (DE.call F__law_shuffled c.rm c.gd c.cm tk (DA.cons (DE.var 0) (DA.cons (DE.var 3) (DA.nil))))))))))
theorem sc__law_row : FnScope ["_law_purse_here", "_law_names_here", "_law_some_here", "_law_signs", "_law_found", "_law_k"] ["_law_purse_here", "_law_names_here"] (defScope (top 55)) := ⟨rfl, rfl, rfl, by decide +kernel, rfl, by decide +kernel, by decide +kernel⟩
theorem fg__law_row {f : Addr} {fd : FuncData} (F : FnP K "_law_row" (top 55) f fd) (g_len : mg "len" = none) (g_range : mg "range" = none) (F__law_shuffled : Fn P w K mg base 2 "_law_shuffled" m__law_shuffled) (F__law_draw : Fn P w K mg base 1 "_law_draw" m__law_draw) : FG P w K mg base 3 f fd ["_law_purse_here", "_law_names_here"] m__law_row := by
  replace F__law_shuffled := F__law_shuffled.mono (k := 2) (by decide)
  replace F__law_draw := F__law_draw.mono (k := 2) (by decide)
  refine FG.of true F sc__law_row fun cdv A outer s H E hr hg => ?_
  have c : Cn 2 (cxOf (L2.CX P w) P w K mg base ["_law_purse_here", "_law_names_here", "_law_some_here", "_law_signs", "_law_found", "_law_k"] "_law_row" (defScope (top 55)) f cdv A outer s H E) := ⟨rfl, sc__law_row.nd, hr, hg⟩
  have tk : Takes (cxOf (L2.CX P w) P w K mg base ["_law_purse_here", "_law_names_here", "_law_some_here", "_law_signs", "_law_found", "_law_k"] "_law_row" (defScope (top 55)) f cdv A outer s H E) (fun cls d _ H' => E cls d H') := takes_of rfl rfl rfl rfl
  exact DSs.cons (DS.asg (DE.tup (DA.cons (DE.call F__law_shuffled c.rm c.gd c.cm tk (DA.cons (DE.var 0) (DA.cons (DE.var 1) (DA.nil)))) (DA.cons (DL.pure (DL.list (DA.cons (DE.str [60, 61]) (DA.cons (DE.str [60]) (DA.cons (DE.str [60]) (DA.nil)))))) (DA.nil)))) (DG.tup c.cm (DGs.cons (DG.name 2 c.nd) (DGs.cons (DG.name 3 c.nd) (DGs.nil))))) (DSs.cons (DS.setLc [("_law_k", 5)] [5] true 4 c.cm c.nd rfl (DI.rng2 rfl g_range (DA.cons (DE.int) (DA.cons (DE.fnB VCall.lenA rfl g_len b_len (DA.cons (DE.var 2) (DA.nil))) (DA.nil)))) (blkOk_by (by kernel_rfl)) (fun _ _ _ _ _ => DGw.name 5 c.b.nd) (fun _ _ _ _ _ => DTs.nil) (fun _ _ _ _ _ => DE.tup (DA.cons (DE.ixA c.b.u1 (DE.var 2) (DE.bin VOp.sub (DE.var 5) (DE.int))) (DA.cons (DE.ixA c.b.u1 (DE.var 3) (DE.call F__law_draw c.b.rm c.b.gd c.b.cm takesN (DA.cons (DE.var 0) (DA.cons (DE.int) (DA.nil))))) (DA.cons (DE.ixA c.b.u1 (DE.var 2) (DE.var 5)) (DA.nil)))))) (DSs.cons (DS.ite (DW.dt (DW.and (DT.cmp VOp.gt (DE.fnB VCall.lenA rfl g_len b_len (DA.cons (DE.var 2) (DA.nil))) (DE.int)) (DW.and1 (DT.cmp (VOp.eq c.u1) (DE.call F__law_draw c.rm c.gd c.cm tk (DA.cons (DE.var 0) (DA.cons (DE.int) (DA.nil)))) (DE.int))))) (DSs.one (DS.expr (DE.methL PySem.F.slot_list_append PySem.F.type_list_append VMo.append (DE.var 4) (DA.cons (DE.tup (DA.cons (DE.ixA c.u1 (DE.var 2) (DE.int)) (DA.cons (DE.str [60, 61]) (DA.cons (DE.ixA c.u1 (DE.var 2) (DE.int)) (DA.nil))))) (DA.nil))))) (DSs.nil)) (DSs.one (DS.ret (DE.call F__law_shuffled c.rm c.gd c.cm tk (DA.cons (DE.var 0) (DA.cons (DE.var 4) (DA.nil))))))))
theorem sc__law_some : FnScope ["_law_purse_here", "_law_wide", "_law_most", "_law_names_here", "_law_way", "_law_many", "_law_found"] ["_law_purse_here", "_law_wide", "_law_most"] (defScope (top 56)) := ⟨rfl, rfl, rfl, by decide +kernel, rfl, by decide +kernel, by decide +kernel⟩
theorem fg__law_some {f : Addr} {fd : FuncData} (F : FnP K "_law_some" (top 56) f fd) (g_int : mg "int" = none) (F__law_shuffled : Fn P w K mg base 2 "_law_shuffled" m__law_shuffled) (F__law_ring : Fn P w K mg base 3 "_law_ring" m__law_ring) (F__law_fitting : Fn P w K mg base 3 "_law_fitting" m__law_fitting) (F__law_row : Fn P w K mg base 3 "_law_row" m__law_row) (F__law_any : Fn P w K mg base 2 "_law_any" m__law_any) (F__law_draw : Fn P w K mg base 1 "_law_draw" m__law_draw) (F__law_variables : Fn P w K mg base 3 "_law_variables" m__law_variables) : FG P w K mg base 4 f fd ["_law_purse_here", "_law_wide", "_law_most"] m__law_some := by
  replace F__law_shuffled := F__law_shuffled.mono (k := 3) (by decide)
  replace F__law_ring := F__law_ring.mono (k := 3) (by decide)
  replace F__law_fitting := F__law_fitting.mono (k := 3) (by decide)
  replace F__law_row := F__law_row.mono (k := 3) (by decide)
  replace F__law_any := F__law_any.mono (k := 3) (by decide)
  replace F__law_draw := F__law_draw.mono (k := 3) (by decide)
  replace F__law_variables := F__law_variables.mono (k := 3) (by decide)
  refine FG.of true F sc__law_some fun cdv A outer s H E hr hg => ?_
  have c : Cn 3 (cxOf (L2.CX P w) P w K mg base ["_law_purse_here", "_law_wide", "_law_most", "_law_names_here", "_law_way", "_law_many", "_law_found"] "_law_some" (defScope (top 56)) f cdv A outer s H E) := ⟨rfl, sc__law_some.nd, hr, hg⟩
  have tk : Takes (cxOf (L2.CX P w) P w K mg base ["_law_purse_here", "_law_wide", "_law_most", "_law_names_here", "_law_way", "_law_many", "_law_found"] "_law_some" (defScope (top 56)) f cdv A outer s H E) (fun cls d _ H' => E cls d H') := takes_of rfl rfl rfl rfl
  exact DSs.cons (DS.set 3 c.nd (DE.call F__law_variables c.rm c.gd c.cm tk (DA.cons (DE.var 0) (DA.cons (DE.bin VOp.add (DE.int) (DE.call F__law_draw c.rm c.gd c.cm tk (DA.cons (DE.var 0) (DA.cons (DE.var 1) (DA.nil))))) (DA.nil))))) (DSs.cons (DS.par2 4 5 c.cm c.nd (DA.cons (DE.call F__law_draw c.rm c.gd c.cm tk (DA.cons (DE.var 0) (DA.cons (DE.int) (DA.nil)))) (DA.cons (DE.bin VOp.add (DE.int) (DE.call F__law_draw c.rm c.gd c.cm tk (DA.cons (DE.var 0) (DA.cons (DE.ixA c.u1 (DL.pure (DL.list (DA.cons (DE.int) (DA.cons (DE.var 2) (DA.nil))))) (DE.fnT VCall.int1 rfl g_int b_int (DA.cons (DE.cmp (VOp.eq c.u1) (DE.call F__law_draw c.rm c.gd c.cm tk (DA.cons (DE.var 0) (DA.cons (DE.int) (DA.nil)))) (DE.int)) (DA.nil)))) (DA.nil))))) (DA.nil))) rfl) (DSs.cons (DS.ite (DT.cmp (VOp.eq c.u1) (DE.var 4) (DE.int)) (DSs.one (DS.ret (DE.call F__law_any c.rm c.gd c.cm tk (DA.cons (DE.var 0) (DA.cons (DE.var 3) (DA.cons (DE.bin VOp.mod (DE.var 5) (DE.int)) (DA.nil))))))) (DSs.nil)) (DSs.cons (DS.ite (DT.cmp (VOp.eq c.u1) (DE.var 4) (DE.int)) (DSs.one (DS.ret (DE.call F__law_any c.rm c.gd c.cm tk (DA.cons (DE.var 0) (DA.cons (DE.var 3) (DA.cons (DE.var 5) (DA.nil))))))) (DSs.nil)) (DSs.cons (DS.ite (DT.cmp VOp.lt (DE.var 4) (DE.int)) (DSs.one (DS.ret (DE.call F__law_fitting c.rm c.gd c.cm tk (DA.cons (DE.var 0) (DA.cons (DE.var 3) (DA.cons (DE.var 5) (DA.nil))))))) (DSs.nil)) (DSs.cons (DS.ite (DT.cmp (VOp.eq c.u1) (DE.var 4) (DE.int)) (DSs.one (DS.ret (DE.call F__law_row c.rm c.gd c.cm tk (DA.cons (DE.var 0) (DA.cons (DE.var 3) (DA.nil)))))) (DSs.nil)) (DSs.cons (DS.set 6 c.nd (DE.bin VOp.add (DE.call F__law_ring c.rm c.gd c.cm tk (DA.cons (DE.var 0) (DA.cons (DE.var 3) (DA.nil)))) (DE.call F__law_fitting c.rm c.gd c.cm tk (DA.cons (DE.var 0) (DA.cons (DE.var 3) (DA.cons (DE.var 5) (DA.nil))))))) (DSs.one (DS.ret (DE.call F__law_shuffled c.rm c.gd c.cm tk (DA.cons (DE.var 0) (DA.cons (DE.slice (DE.var 6) (DO.none) (DO.some (DE.var 2))) (DA.nil))))))))))))
theorem sc__law_written : FnScope ["_law_rows", "_law_row_here"] ["_law_rows"] (defScope (top 57)) := ⟨rfl, rfl, rfl, by decide +kernel, rfl, by decide +kernel, by decide +kernel⟩
theorem fg__law_written {f : Addr} {fd : FuncData} (F : FnP K "_law_written" (top 57) f fd) : FG P w K mg base 1 f fd ["_law_rows"] m__law_written := by
  refine FG.of true F sc__law_written fun cdv A outer s H E hr hg => ?_
  have c : Cn 0 (cxOf (L2.CX P w) P w K mg base ["_law_rows", "_law_row_here"] "_law_written" (defScope (top 57)) f cdv A outer s H E) := ⟨rfl, sc__law_written.nd, hr, hg⟩
  have tk : Takes (cxOf (L2.CX P w) P w K mg base ["_law_rows", "_law_row_here"] "_law_written" (defScope (top 57)) f cdv A outer s H E) (fun cls d _ H' => E cls d H') := takes_of rfl rfl rfl rfl
  exact DSs.one (DS.ret (DE.methS PySem.F.slot_str_join PySem.F.type_str_join VMs.join (DE.str [44, 32]) (DA.cons (DL.pure (DL.lc [("_law_row_here", 1)] [1] c.cm c.nd (DI.seq (DE.var 0)) (blkOk_by (by kernel_rfl)) (fun _ _ _ _ _ => DGw.name 1 c.b.nd) (fun _ _ _ _ _ => DTs.nil) (fun _ _ _ _ _ => DE.methS PySem.F.slot_str_join PySem.F.type_str_join VMs.join (DE.str [32]) (DA.cons (DE.var 1) (DA.nil))))) (DA.nil))))
theorem sc__law_is_name : FnScope ["_law_word", "_law_sign"] ["_law_word"] (defScope (top 58)) := ⟨rfl, rfl, rfl, by decide +kernel, rfl, by decide +kernel, by decide +kernel⟩
theorem fg__law_is_name {f : Addr} {fd : FuncData} (F : FnP K "_law_is_name" (top 58) f fd) (g_all : mg "all" = none) (g_isinstance : mg "isinstance" = none) (g_len : mg "len" = none) (g_str : mg "str" = none) : FG P w K mg base 1 f fd ["_law_word"] m__law_is_name := by
  refine FG.of true F sc__law_is_name fun cdv A outer s H E hr hg => ?_
  have c : Cn 0 (cxOf (L2.CX P w) P w K mg base ["_law_word", "_law_sign"] "_law_is_name" (defScope (top 58)) f cdv A outer s H E) := ⟨rfl, sc__law_is_name.nd, hr, hg⟩
  have tk : Takes (cxOf (L2.CX P w) P w K mg base ["_law_word", "_law_sign"] "_law_is_name" (defScope (top 58)) f cdv A outer s H E) (fun cls d _ H' => E cls d H') := takes_of rfl rfl rfl rfl
  exact DSs.cons (DS.ite (DW.dt (DW.or (DT.not (DT.val (DE.fnB VCall.isi rfl g_isinstance b_isinstance (DA.cons (DE.var 0) (DA.cons (DE.ty .str rfl g_str b_str) (DA.nil)))))) (DW.or1 (DT.not (DT.chain VOp.lt VOp.lt (DE.int) (DE.fnB VCall.lenA rfl g_len b_len (DA.cons (DE.var 0) (DA.nil))) (DE.int)))))) (DSs.one (DS.ret (DE.bool))) (DSs.nil)) (DSs.one (DS.ret (DE.fnB (VCall.all c.cm) rfl g_all b_all (DA.cons (DL.pure (DL.lc [("_law_sign", 1)] [1] c.cm c.nd (DI.seq (DE.var 0)) (blkOk_by (by kernel_rfl)) (fun _ _ _ _ _ => DGw.name 1 c.b.nd) (fun _ _ _ _ _ => DTs.nil) (fun _ _ _ _ _ => DE.cmp (VOp.inA c.b.u2) (DE.var 1) (DE.str [97, 98, 99, 100, 101, 102, 103, 104, 105, 106, 107, 108, 109, 110, 111, 112, 113, 114, 115, 116, 117, 118, 119, 120, 121, 122])))) (DA.nil)))))
theorem sc__law_is_variable : FnScope ["_law_word"] ["_law_word"] (defScope (top 59)) := ⟨rfl, rfl, rfl, by decide +kernel, rfl, by decide +kernel, by decide +kernel⟩
theorem fg__law_is_variable {f : Addr} {fd : FuncData} (F : FnP K "_law_is_variable" (top 59) f fd) (g_isinstance : mg "isinstance" = none) (g_str : mg "str" = none) (F__law_is_name : Fn P w K mg base 1 "_law_is_name" m__law_is_name) : FG P w K mg base 2 f fd ["_law_word"] m__law_is_variable := by
  replace F__law_is_name := F__law_is_name.mono (k := 1) (by decide)
  refine FG.of true F sc__law_is_variable fun cdv A outer s H E hr hg => ?_
  have c : Cn 1 (cxOf (L2.CX P w) P w K mg base ["_law_word"] "_law_is_variable" (defScope (top 59)) f cdv A outer s H E) := ⟨rfl, sc__law_is_variable.nd, hr, hg⟩
  have tk : Takes (cxOf (L2.CX P w) P w K mg base ["_law_word"] "_law_is_variable" (defScope (top 59)) f cdv A outer s H E) (fun cls d _ H' => E cls d H') := takes_of rfl rfl rfl rfl
  exact DSs.one (DS.ret (DE.and (DE.fnB VCall.isi rfl g_isinstance b_isinstance (DA.cons (DE.var 0) (DA.cons (DE.ty .str rfl g_str b_str) (DA.nil)))) (DE.one (DE.call F__law_is_name c.rm c.gd c.cm tk (DA.cons (DE.ifExp (DT.cmp (VOp.eq c.u1) (DE.slice (DE.var 0) (DO.some (DE.un VUn.neg (DE.int))) (DO.none)) (DE.str [39])) (DE.slice (DE.var 0) (DO.none) (DO.some (DE.un VUn.neg (DE.int)))) (DE.var 0)) (DA.nil))))))
theorem sc__law_is_claim : FnScope ["_law_row_here"] ["_law_row_here"] (defScope (top 60)) := ⟨rfl, rfl, rfl, by decide +kernel, rfl, by decide +kernel, by decide +kernel⟩
theorem fg__law_is_claim {f : Addr} {fd : FuncData} (F : FnP K "_law_is_claim" (top 60) f fd) (g_isinstance : mg "isinstance" = none) (g_len : mg "len" = none) (g_str : mg "str" = none) (g_tuple : mg "tuple" = none) (F__law_is_variable : Fn P w K mg base 2 "_law_is_variable" m__law_is_variable) : FG P w K mg base 3 f fd ["_law_row_here"] m__law_is_claim := by
  replace F__law_is_variable := F__law_is_variable.mono (k := 2) (by decide)
  refine FG.of true F sc__law_is_claim fun cdv A outer s H E hr hg => ?_
  have c : Cn 2 (cxOf (L2.CX P w) P w K mg base ["_law_row_here"] "_law_is_claim" (defScope (top 60)) f cdv A outer s H E) := ⟨rfl, sc__law_is_claim.nd, hr, hg⟩
  have tk : Takes (cxOf (L2.CX P w) P w K mg base ["_law_row_here"] "_law_is_claim" (defScope (top 60)) f cdv A outer s H E) (fun cls d _ H' => E cls d H') := takes_of rfl rfl rfl rfl
  exact DSs.cons (DS.ite (DW.dt (DW.or (DT.not (DT.val (DE.fnB VCall.isi rfl g_isinstance b_isinstance (DA.cons (DE.var 0) (DA.cons (DE.ty .tup rfl g_tuple b_tuple) (DA.nil)))))) (DW.or (DT.cmp (VOp.ne c.u1) (DE.fnB VCall.lenA rfl g_len b_len (DA.cons (DE.var 0) (DA.nil))) (DE.int)) (DW.or (DT.not (DT.val (DE.fnB VCall.isi rfl g_isinstance b_isinstance (DA.cons (DE.ixA c.u1 (DE.var 0) (DE.int)) (DA.cons (DE.ty .str rfl g_str b_str) (DA.nil)))))) (DW.or1 (DT.cmp (VOp.notInA c.u2) (DE.ixA c.u1 (DE.var 0) (DE.int)) (DL.pure (DL.list (DA.cons (DE.str [60]) (DA.cons (DE.str [60, 61]) (DA.cons (DE.str [61]) (DA.nil)))))))))))) (DSs.one (DS.ret (DE.bool))) (DSs.nil)) (DSs.one (DS.ret (DE.and (DE.call F__law_is_variable c.rm c.gd c.cm tk (DA.cons (DE.ixA c.u1 (DE.var 0) (DE.int)) (DA.nil))) (DE.one (DE.call F__law_is_variable c.rm c.gd c.cm tk (DA.cons (DE.ixA c.u1 (DE.var 0) (DE.int)) (DA.nil)))))))
theorem sc__law_readable : FnScope ["_law_shown", "_law_rows", "_law_names_here", "_law_piece", "_law_row_here"] ["_law_shown"] (defScope (top 61)) := ⟨rfl, rfl, rfl, by decide +kernel, rfl, by decide +kernel, by decide +kernel⟩
theorem fg__law_readable {f : Addr} {fd : FuncData} (F : FnP K "_law_readable" (top 61) f fd) (g_all : mg "all" = none) (g_len : mg "len" = none) (g_set : mg "set" = none) (g_tuple : mg "tuple" = none) (F__law_is_claim : Fn P w K mg base 3 "_law_is_claim" m__law_is_claim) : FG P w K mg base 4 f fd ["_law_shown"] m__law_readable := by
  replace F__law_is_claim := F__law_is_claim.mono (k := 3) (by decide)
  refine FG.of true F sc__law_readable fun cdv A outer s H E hr hg => ?_
  have c : Cn 3 (cxOf (L2.CX P w) P w K mg base ["_law_shown", "_law_rows", "_law_names_here", "_law_piece", "_law_row_here"] "_law_readable" (defScope (top 61)) f cdv A outer s H E) := ⟨rfl, sc__law_readable.nd, hr, hg⟩
  have tk : Takes (cxOf (L2.CX P w) P w K mg base ["_law_shown", "_law_rows", "_law_names_here", "_law_piece", "_law_row_here"] "_law_readable" (defScope (top 61)) f cdv A outer s H E) (fun cls d _ H' => E cls d H') := takes_of rfl rfl rfl rfl
  exact DSs.cons (DS.set 1 c.nd (DE.ifExp (DT.cmp (VOp.ne c.u1) (DE.var 0) (DE.str [])) (DL.pure (DL.lc [("_law_piece", 3)] [3] c.cm c.nd (DI.seq (DL.pure (DL.split (DE.var 0) (DA.cons (DE.str [44, 32]) (DA.nil))))) (blkOk_by (by kernel_rfl)) (fun _ _ _ _ _ => DGw.name 3 c.b.nd) (fun _ _ _ _ _ => DTs.nil) (fun _ _ _ _ _ => DE.fnT VCall.tuple rfl g_tuple b_tuple (DA.cons (DL.pure (DL.split (DE.var 3) (DA.cons (DE.str [32]) (DA.nil)))) (DA.nil))))) (DL.pure (DL.list (DA.nil))))) (DSs.cons (DS.ite (DW.dt (DW.or (DT.cmp VOp.gt (DE.fnB VCall.lenA rfl g_len b_len (DA.cons (DE.var 1) (DA.nil))) (DE.int)) (DW.or1 (DT.not (DT.val (DE.fnB (VCall.all c.cm) rfl g_all b_all (DA.cons (DL.pure (DL.lc [("_law_row_here", 4)] [4] c.cm c.nd (DI.seq (DE.var 1)) (blkOk_by (by kernel_rfl)) (fun _ _ _ _ _ => DGw.name 4 c.b.nd) (fun _ _ _ _ _ => DTs.nil) (fun _ _ _ _ _ => DE.call F__law_is_claim c.b.rm c.b.gd c.b.cm takesN (DA.cons (DE.var 4) (DA.nil))))) (DA.nil)))))))) (DSs.one (DS.ret (DE.nonE))) (DSs.nil)) (DSs.cons (DS.set 2 c.nd (DE.bin VOp.add (DL.pure (DL.lc [("_law_row_here", 4)] [4] c.cm c.nd (DI.seq (DE.var 1)) (blkOk_by (by kernel_rfl)) (fun _ _ _ _ _ => DGw.name 4 c.b.nd) (fun _ _ _ _ _ => DTs.nil) (fun _ _ _ _ _ => DE.ixA c.b.u1 (DE.var 4) (DE.int)))) (DL.pure (DL.lc [("_law_row_here", 4)] [4] c.cm c.nd (DI.seq (DE.var 1)) (blkOk_by (by kernel_rfl)) (fun _ _ _ _ _ => DGw.name 4 c.b.nd) (fun _ _ _ _ _ => DTs.nil) (fun _ _ _ _ _ => DE.ixA c.b.u1 (DE.var 4) (DE.int)))))) (DSs.one (DS.ret (DE.ifExp (DT.cmp VOp.lt (DE.fnB VCall.lenA rfl g_len b_len (DA.cons (DE.setOf c.cm rfl g_set (DA.cons (DE.var 2) (DA.nil))) (DA.nil))) (DE.int)) (DE.fnT VCall.tuple rfl g_tuple b_tuple (DA.cons (DE.var 1) (DA.nil))) (DE.nonE))))))
theorem sc__law_kind : FnScope ["_law_e", "_law_own", "_law_bases", "_law_pythons", "_law_at", "_law_words"] ["_law_e"] (defScope (top 62)) := ⟨rfl, rfl, rfl, by decide +kernel, rfl, by decide +kernel, by decide +kernel⟩
theorem fg__law_kind {f : Addr} {fd : FuncData} (F : FnP K "_law_kind" (top 62) f fd) (g_ArithmeticError : mg "ArithmeticError" = none) (g_LookupError : mg "LookupError" = none) (g_RuntimeError : mg "RuntimeError" = none) (g_ValueError : mg "ValueError" = none) (g_isinstance : mg "isinstance" = none) (EX : ExT exT K mg) (C_LimitError : ∃ a, mg "LimitError" = some (.ref a)) (C_ConflictError : ∃ a, mg "ConflictError" = some (.ref a)) (C_SearchError : ∃ a, mg "SearchError" = some (.ref a)) (C_CaprunsError : ∃ a, mg "CaprunsError" = some (.ref a)) (C_TooMany : ∃ a, mg "TooMany" = some (.ref a)) (C_Looping : ∃ a, mg "Looping" = some (.ref a)) (C_Mismatch : ∃ a, mg "Mismatch" = some (.ref a)) (C_DuplicateStep : ∃ a, mg "DuplicateStep" = some (.ref a)) (C_Contradictory : ∃ a, mg "Contradictory" = some (.ref a)) (C_NothingToUndo : ∃ a, mg "NothingToUndo" = some (.ref a)) (C_UnknownClaim : ∃ a, mg "UnknownClaim" = some (.ref a)) (C_UnknownStep : ∃ a, mg "UnknownStep" = some (.ref a)) (C_UnknownPoint : ∃ a, mg "UnknownPoint" = some (.ref a)) (C_InvalidCommand : ∃ a, mg "InvalidCommand" = some (.ref a)) (C_InvalidHistory : ∃ a, mg "InvalidHistory" = some (.ref a)) (C_InvalidEdits : ∃ a, mg "InvalidEdits" = some (.ref a)) (C_InvalidEdit : ∃ a, mg "InvalidEdit" = some (.ref a)) (C_InvalidCondition : ∃ a, mg "InvalidCondition" = some (.ref a)) (C_InvalidTimes : ∃ a, mg "InvalidTimes" = some (.ref a)) (C_InvalidSummary : ∃ a, mg "InvalidSummary" = some (.ref a)) (C_InvalidWalk : ∃ a, mg "InvalidWalk" = some (.ref a)) (C_InvalidState : ∃ a, mg "InvalidState" = some (.ref a)) (C_InvalidText : ∃ a, mg "InvalidText" = some (.ref a)) (C_InvalidProgram : ∃ a, mg "InvalidProgram" = some (.ref a)) (C_InvalidSteps : ∃ a, mg "InvalidSteps" = some (.ref a)) (C_InvalidPoints : ∃ a, mg "InvalidPoints" = some (.ref a)) (C_InvalidIndex : ∃ a, mg "InvalidIndex" = some (.ref a)) (C_InvalidCap : ∃ a, mg "InvalidCap" = some (.ref a)) (C_InvalidFixed : ∃ a, mg "InvalidFixed" = some (.ref a)) (C_InvalidVariables : ∃ a, mg "InvalidVariables" = some (.ref a)) (C_InvalidClaims : ∃ a, mg "InvalidClaims" = some (.ref a)) (C_InvalidClaim : ∃ a, mg "InvalidClaim" = some (.ref a)) : FG P w K mg base 1 f fd ["_law_e"] m__law_kind := by
  refine FG.of true F sc__law_kind fun cdv A outer s H E hr hg => ?_
  have c : Cn 0 (cxOf (L2.CX P w) P w K mg base ["_law_e", "_law_own", "_law_bases", "_law_pythons", "_law_at", "_law_words"] "_law_kind" (defScope (top 62)) f cdv A outer s H E) := ⟨rfl, sc__law_kind.nd, hr, hg⟩
  have tk : Takes (cxOf (L2.CX P w) P w K mg base ["_law_e", "_law_own", "_law_bases", "_law_pythons", "_law_at", "_law_words"] "_law_kind" (defScope (top 62)) f cdv A outer s H E) (fun cls d _ H' => E cls d H') := takes_of rfl rfl rfl rfl
  exact DSs.cons (DS.set 1 c.nd (DL.new (DL.list (DA.cons (DE.fnB (VCall.isiE EX) rfl g_isinstance b_isinstance (DA.cons (DE.var 0) (DA.cons (DE.glx rfl C_InvalidClaim) (DA.nil)))) (DA.cons (DE.fnB (VCall.isiE EX) rfl g_isinstance b_isinstance (DA.cons (DE.var 0) (DA.cons (DE.glx rfl C_InvalidClaims) (DA.nil)))) (DA.cons (DE.fnB (VCall.isiE EX) rfl g_isinstance b_isinstance (DA.cons (DE.var 0) (DA.cons (DE.glx rfl C_InvalidVariables) (DA.nil)))) (DA.nil))))))) (DSs.cons (DS.expr (DE.methL PySem.F.slot_list_extend PySem.F.type_list_extend VMo.extend (DE.var 1) (DA.cons (DL.new (DL.list (DA.cons (DE.fnB (VCall.isiE EX) rfl g_isinstance b_isinstance (DA.cons (DE.var 0) (DA.cons (DE.glx rfl C_InvalidFixed) (DA.nil)))) (DA.cons (DE.fnB (VCall.isiE EX) rfl g_isinstance b_isinstance (DA.cons (DE.var 0) (DA.cons (DE.glx rfl C_InvalidCap) (DA.nil)))) (DA.cons (DE.fnB (VCall.isiE EX) rfl g_isinstance b_isinstance (DA.cons (DE.var 0) (DA.cons (DE.glx rfl C_InvalidIndex) (DA.nil)))) (DA.nil)))))) (DA.nil)))) (DSs.cons (DS.expr (DE.methL PySem.F.slot_list_extend PySem.F.type_list_extend VMo.extend (DE.var 1) (DA.cons (DL.new (DL.list (DA.cons (DE.fnB (VCall.isiE EX) rfl g_isinstance b_isinstance (DA.cons (DE.var 0) (DA.cons (DE.glx rfl C_InvalidPoints) (DA.nil)))) (DA.cons (DE.fnB (VCall.isiE EX) rfl g_isinstance b_isinstance (DA.cons (DE.var 0) (DA.cons (DE.glx rfl C_InvalidSteps) (DA.nil)))) (DA.cons (DE.fnB (VCall.isiE EX) rfl g_isinstance b_isinstance (DA.cons (DE.var 0) (DA.cons (DE.glx rfl C_InvalidProgram) (DA.nil)))) (DA.nil)))))) (DA.nil)))) (DSs.cons (DS.expr (DE.methL PySem.F.slot_list_extend PySem.F.type_list_extend VMo.extend (DE.var 1) (DA.cons (DL.new (DL.list (DA.cons (DE.fnB (VCall.isiE EX) rfl g_isinstance b_isinstance (DA.cons (DE.var 0) (DA.cons (DE.glx rfl C_InvalidText) (DA.nil)))) (DA.cons (DE.fnB (VCall.isiE EX) rfl g_isinstance b_isinstance (DA.cons (DE.var 0) (DA.cons (DE.glx rfl C_InvalidState) (DA.nil)))) (DA.cons (DE.fnB (VCall.isiE EX) rfl g_isinstance b_isinstance (DA.cons (DE.var 0) (DA.cons (DE.glx rfl C_InvalidWalk) (DA.nil)))) (DA.nil)))))) (DA.nil)))) (DSs.cons (DS.expr (DE.methL PySem.F.slot_list_extend PySem.F.type_list_extend VMo.extend (DE.var 1) (DA.cons (DL.new (DL.list (DA.cons (DE.fnB (VCall.isiE EX) rfl g_isinstance b_isinstance (DA.cons (DE.var 0) (DA.cons (DE.glx rfl C_InvalidSummary) (DA.nil)))) (DA.cons (DE.fnB (VCall.isiE EX) rfl g_isinstance b_isinstance (DA.cons (DE.var 0) (DA.cons (DE.glx rfl C_InvalidTimes) (DA.nil)))) (DA.cons (DE.fnB (VCall.isiE EX) rfl g_isinstance b_isinstance (DA.cons (DE.var 0) (DA.cons (DE.glx rfl C_InvalidCondition) (DA.nil)))) (DA.nil)))))) (DA.nil)))) (DSs.cons (DS.expr (DE.methL PySem.F.slot_list_extend PySem.F.type_list_extend VMo.extend (DE.var 1) (DA.cons (DL.new (DL.list (DA.cons (DE.fnB (VCall.isiE EX) rfl g_isinstance b_isinstance (DA.cons (DE.var 0) (DA.cons (DE.glx rfl C_InvalidEdit) (DA.nil)))) (DA.cons (DE.fnB (VCall.isiE EX) rfl g_isinstance b_isinstance (DA.cons (DE.var 0) (DA.cons (DE.glx rfl C_InvalidEdits) (DA.nil)))) (DA.cons (DE.fnB (VCall.isiE EX) rfl g_isinstance b_isinstance (DA.cons (DE.var 0) (DA.cons (DE.glx rfl C_InvalidHistory) (DA.nil)))) (DA.nil)))))) (DA.nil)))) (DSs.cons (DS.expr (DE.methL PySem.F.slot_list_extend PySem.F.type_list_extend VMo.extend (DE.var 1) (DA.cons (DL.new (DL.list (DA.cons (DE.fnB (VCall.isiE EX) rfl g_isinstance b_isinstance (DA.cons (DE.var 0) (DA.cons (DE.glx rfl C_InvalidCommand) (DA.nil)))) (DA.cons (DE.fnB (VCall.isiE EX) rfl g_isinstance b_isinstance (DA.cons (DE.var 0) (DA.cons (DE.glx rfl C_UnknownPoint) (DA.nil)))) (DA.cons (DE.fnB (VCall.isiE EX) rfl g_isinstance b_isinstance (DA.cons (DE.var 0) (DA.cons (DE.glx rfl C_UnknownStep) (DA.nil)))) (DA.nil)))))) (DA.nil)))) (DSs.cons (DS.expr (DE.methL PySem.F.slot_list_extend PySem.F.type_list_extend VMo.extend (DE.var 1) (DA.cons (DL.new (DL.list (DA.cons (DE.fnB (VCall.isiE EX) rfl g_isinstance b_isinstance (DA.cons (DE.var 0) (DA.cons (DE.glx rfl C_UnknownClaim) (DA.nil)))) (DA.cons (DE.fnB (VCall.isiE EX) rfl g_isinstance b_isinstance (DA.cons (DE.var 0) (DA.cons (DE.glx rfl C_NothingToUndo) (DA.nil)))) (DA.cons (DE.fnB (VCall.isiE EX) rfl g_isinstance b_isinstance (DA.cons (DE.var 0) (DA.cons (DE.glx rfl C_Contradictory) (DA.nil)))) (DA.nil)))))) (DA.nil)))) (DSs.cons (DS.expr (DE.methL PySem.F.slot_list_extend PySem.F.type_list_extend VMo.extend (DE.var 1) (DA.cons (DL.new (DL.list (DA.cons (DE.fnB (VCall.isiE EX) rfl g_isinstance b_isinstance (DA.cons (DE.var 0) (DA.cons (DE.glx rfl C_DuplicateStep) (DA.nil)))) (DA.cons (DE.fnB (VCall.isiE EX) rfl g_isinstance b_isinstance (DA.cons (DE.var 0) (DA.cons (DE.glx rfl C_Mismatch) (DA.nil)))) (DA.cons (DE.fnB (VCall.isiE EX) rfl g_isinstance b_isinstance (DA.cons (DE.var 0) (DA.cons (DE.glx rfl C_Looping) (DA.nil)))) (DA.nil)))))) (DA.nil)))) (DSs.cons (DS.expr (DE.methL PySem.F.slot_list_append PySem.F.type_list_append VMo.append (DE.var 1) (DA.cons (DE.fnB (VCall.isiE EX) rfl g_isinstance b_isinstance (DA.cons (DE.var 0) (DA.cons (DE.glx rfl C_TooMany) (DA.nil)))) (DA.nil)))) (DSs.cons (DS.set 2 c.nd (DL.new (DL.list (DA.cons (DE.fnB (VCall.isiE EX) rfl g_isinstance b_isinstance (DA.cons (DE.var 0) (DA.cons (DE.glx rfl C_CaprunsError) (DA.nil)))) (DA.cons (DE.fnB (VCall.isiE EX) rfl g_isinstance b_isinstance (DA.cons (DE.var 0) (DA.cons (DE.glx rfl C_SearchError) (DA.nil)))) (DA.nil)))))) (DSs.cons (DS.expr (DE.methL PySem.F.slot_list_extend PySem.F.type_list_extend VMo.extend (DE.var 2) (DA.cons (DL.new (DL.list (DA.cons (DE.fnB (VCall.isiE EX) rfl g_isinstance b_isinstance (DA.cons (DE.var 0) (DA.cons (DE.glx rfl C_ConflictError) (DA.nil)))) (DA.cons (DE.fnB (VCall.isiE EX) rfl g_isinstance b_isinstance (DA.cons (DE.var 0) (DA.cons (DE.glx rfl C_LimitError) (DA.nil)))) (DA.nil))))) (DA.nil)))) (DSs.cons (DS.set 3 c.nd (DL.new (DL.list (DA.cons (DE.fnB (VCall.isiE EX) rfl g_isinstance b_isinstance (DA.cons (DE.var 0) (DA.cons (DE.ty .ve rfl g_ValueError b_ValueError) (DA.nil)))) (DA.cons (DE.fnB (VCall.isiE EX) rfl g_isinstance b_isinstance (DA.cons (DE.var 0) (DA.cons (DE.ty .le rfl g_LookupError b_LookupError) (DA.nil)))) (DA.nil)))))) (DSs.cons (DS.expr (DE.methL PySem.F.slot_list_extend PySem.F.type_list_extend VMo.extend (DE.var 3) (DA.cons (DL.new (DL.list (DA.cons (DE.fnB (VCall.isiE EX) rfl g_isinstance b_isinstance (DA.cons (DE.var 0) (DA.cons (DE.ty .re rfl g_RuntimeError b_RuntimeError) (DA.nil)))) (DA.cons (DE.fnB (VCall.isiE EX) rfl g_isinstance b_isinstance (DA.cons (DE.var 0) (DA.cons (DE.ty .ae rfl g_ArithmeticError b_ArithmeticError) (DA.nil)))) (DA.nil))))) (DA.nil)))) (DSs.cons (DS.ite (DW.dt (DW.or (DT.cmp (VOp.ne c.u1) (DE.methL PySem.F.slot_list_count PySem.F.type_list_count (VMo.count c.u2) (DE.var 1) (DA.cons (DE.bool) (DA.nil))) (DE.int)) (DW.or1 (DT.cmp (VOp.ne c.u1) (DE.var 2) (DE.var 3))))) (DSs.one (DS.ret (DE.str [111, 116, 104, 101, 114]))) (DSs.nil)) (DSs.cons (DS.set 4 c.nd (DE.methL PySem.F.slot_list_index PySem.F.type_list_index (VMo.index c.u2) (DE.var 1) (DA.cons (DE.bool) (DA.nil)))) (DSs.cons (DS.ite (DT.cmp (VOp.ne c.u1) (DE.var 2) (DL.pure (DL.list (DA.cons (DE.cmp VOp.lt (DE.var 4) (DE.int)) (DA.cons (DE.chain VOp.lt VOp.lt (DE.int) (DE.var 4) (DE.int)) (DA.cons (DE.chain VOp.lt VOp.lt (DE.int) (DE.var 4) (DE.int)) (DA.cons (DE.cmp (VOp.eq c.u1) (DE.var 4) (DE.int)) (DA.nil)))))))) (DSs.one (DS.ret (DE.str [111, 116, 104, 101, 114]))) (DSs.nil)) (DSs.cons (DS.set 5 c.nd (DE.str [73, 110, 118, 97, 108, 105, 100, 67, 108, 97, 105, 109, 32, 73, 110, 118, 97, 108, 105, 100, 67, 108, 97, 105, 109, 115, 32, 73, 110, 118, 97, 108, 105, 100, 86, 97, 114, 105, 97, 98, 108, 101, 115, 32, 73, 110, 118, 97, 108, 105, 100, 70, 105, 120, 101, 100, 32, 73, 110, 118, 97, 108, 105, 100, 67, 97, 112, 32, 73, 110, 118, 97, 108, 105, 100, 73, 110, 100, 101, 120])) (DSs.cons (DS.set 5 c.nd (DE.bin VOp.add (DE.var 5) (DE.str [32, 73, 110, 118, 97, 108, 105, 100, 80, 111, 105, 110, 116, 115, 32, 73, 110, 118, 97, 108, 105, 100, 83, 116, 101, 112, 115, 32, 73, 110, 118, 97, 108, 105, 100, 80, 114, 111, 103, 114, 97, 109, 32, 73, 110, 118, 97, 108, 105, 100, 84, 101, 120, 116, 32, 73, 110, 118, 97, 108, 105, 100, 83, 116, 97, 116, 101, 32, 73, 110, 118, 97, 108, 105, 100, 87, 97, 108, 107]))) (DSs.cons (DS.set 5 c.nd (DE.bin VOp.add (DE.var 5) (DE.str [32, 73, 110, 118, 97, 108, 105, 100, 83, 117, 109, 109, 97, 114, 121, 32, 73, 110, 118, 97, 108, 105, 100, 84, 105, 109, 101, 115, 32, 73, 110, 118, 97, 108, 105, 100, 67, 111, 110, 100, 105, 116, 105, 111, 110, 32, 73, 110, 118, 97, 108, 105, 100, 69, 100, 105, 116, 32, 73, 110, 118, 97, 108, 105, 100, 69, 100, 105, 116, 115, 32, 73, 110, 118, 97, 108, 105, 100, 72, 105, 115, 116, 111, 114, 121]))) (DSs.cons (DS.set 5 c.nd (DE.bin VOp.add (DE.var 5) (DE.str [32, 73, 110, 118, 97, 108, 105, 100, 67, 111, 109, 109, 97, 110, 100, 32, 85, 110, 107, 110, 111, 119, 110, 80, 111, 105, 110, 116, 32, 85, 110, 107, 110, 111, 119, 110, 83, 116, 101, 112, 32, 85, 110, 107, 110, 111, 119, 110, 67, 108, 97, 105, 109, 32, 78, 111, 116, 104, 105, 110, 103, 84, 111, 85, 110, 100, 111, 32, 67, 111, 110, 116, 114, 97, 100, 105, 99, 116, 111, 114, 121]))) (DSs.one (DS.ret (DE.ixA c.u1 (DL.pure (DL.split (DE.bin VOp.add (DE.var 5) (DE.str [32, 68, 117, 112, 108, 105, 99, 97, 116, 101, 83, 116, 101, 112, 32, 77, 105, 115, 109, 97, 116, 99, 104, 32, 76, 111, 111, 112, 105, 110, 103, 32, 84, 111, 111, 77, 97, 110, 121])) (DA.cons (DE.str [32]) (DA.nil)))) (DE.var 4))))))))))))))))))))))))
theorem fgh__law_kind {f : Addr} {fd : FuncData} (F : FnP K "_law_kind" (top 62) f fd) (g_ArithmeticError : mg "ArithmeticError" = none) (g_LookupError : mg "LookupError" = none) (g_RuntimeError : mg "RuntimeError" = none) (g_ValueError : mg "ValueError" = none) (g_isinstance : mg "isinstance" = none) (EX : ExT exT K mg) (C_LimitError : ∃ a, mg "LimitError" = some (.ref a)) (C_ConflictError : ∃ a, mg "ConflictError" = some (.ref a)) (C_SearchError : ∃ a, mg "SearchError" = some (.ref a)) (C_CaprunsError : ∃ a, mg "CaprunsError" = some (.ref a)) (C_TooMany : ∃ a, mg "TooMany" = some (.ref a)) (C_Looping : ∃ a, mg "Looping" = some (.ref a)) (C_Mismatch : ∃ a, mg "Mismatch" = some (.ref a)) (C_DuplicateStep : ∃ a, mg "DuplicateStep" = some (.ref a)) (C_Contradictory : ∃ a, mg "Contradictory" = some (.ref a)) (C_NothingToUndo : ∃ a, mg "NothingToUndo" = some (.ref a)) (C_UnknownClaim : ∃ a, mg "UnknownClaim" = some (.ref a)) (C_UnknownStep : ∃ a, mg "UnknownStep" = some (.ref a)) (C_UnknownPoint : ∃ a, mg "UnknownPoint" = some (.ref a)) (C_InvalidCommand : ∃ a, mg "InvalidCommand" = some (.ref a)) (C_InvalidHistory : ∃ a, mg "InvalidHistory" = some (.ref a)) (C_InvalidEdits : ∃ a, mg "InvalidEdits" = some (.ref a)) (C_InvalidEdit : ∃ a, mg "InvalidEdit" = some (.ref a)) (C_InvalidCondition : ∃ a, mg "InvalidCondition" = some (.ref a)) (C_InvalidTimes : ∃ a, mg "InvalidTimes" = some (.ref a)) (C_InvalidSummary : ∃ a, mg "InvalidSummary" = some (.ref a)) (C_InvalidWalk : ∃ a, mg "InvalidWalk" = some (.ref a)) (C_InvalidState : ∃ a, mg "InvalidState" = some (.ref a)) (C_InvalidText : ∃ a, mg "InvalidText" = some (.ref a)) (C_InvalidProgram : ∃ a, mg "InvalidProgram" = some (.ref a)) (C_InvalidSteps : ∃ a, mg "InvalidSteps" = some (.ref a)) (C_InvalidPoints : ∃ a, mg "InvalidPoints" = some (.ref a)) (C_InvalidIndex : ∃ a, mg "InvalidIndex" = some (.ref a)) (C_InvalidCap : ∃ a, mg "InvalidCap" = some (.ref a)) (C_InvalidFixed : ∃ a, mg "InvalidFixed" = some (.ref a)) (C_InvalidVariables : ∃ a, mg "InvalidVariables" = some (.ref a)) (C_InvalidClaims : ∃ a, mg "InvalidClaims" = some (.ref a)) (C_InvalidClaim : ∃ a, mg "InvalidClaim" = some (.ref a)) : FGH P w K mg base 1 f fd ["_law_e"] m__law_kind := by
  refine FGH.of true F sc__law_kind fun cdv A outer s H p hr hg => ?_
  have c : Ch 0 (L2H.cxH (L2.CX P w) P w K mg base ["_law_e", "_law_own", "_law_bases", "_law_pythons", "_law_at", "_law_words"] "_law_kind" (defScope (top 62)) f cdv A outer s H (fun _ _ _ => False) p) := ⟨sc__law_kind.nd, hr, hg, ⟨p, rfl, rfl⟩⟩
  exact DSs.cons (DS.set 1 c.nd (DL.new (DL.list (DA.cons (DE.fnB (VCall.isiE EX) rfl g_isinstance b_isinstance (DA.cons (DE.var 0) (DA.cons (DE.glx rfl C_InvalidClaim) (DA.nil)))) (DA.cons (DE.fnB (VCall.isiE EX) rfl g_isinstance b_isinstance (DA.cons (DE.var 0) (DA.cons (DE.glx rfl C_InvalidClaims) (DA.nil)))) (DA.cons (DE.fnB (VCall.isiE EX) rfl g_isinstance b_isinstance (DA.cons (DE.var 0) (DA.cons (DE.glx rfl C_InvalidVariables) (DA.nil)))) (DA.nil))))))) (DSs.cons (DS.expr (DE.methL PySem.F.slot_list_extend PySem.F.type_list_extend VMo.extend (DE.var 1) (DA.cons (DL.new (DL.list (DA.cons (DE.fnB (VCall.isiE EX) rfl g_isinstance b_isinstance (DA.cons (DE.var 0) (DA.cons (DE.glx rfl C_InvalidFixed) (DA.nil)))) (DA.cons (DE.fnB (VCall.isiE EX) rfl g_isinstance b_isinstance (DA.cons (DE.var 0) (DA.cons (DE.glx rfl C_InvalidCap) (DA.nil)))) (DA.cons (DE.fnB (VCall.isiE EX) rfl g_isinstance b_isinstance (DA.cons (DE.var 0) (DA.cons (DE.glx rfl C_InvalidIndex) (DA.nil)))) (DA.nil)))))) (DA.nil)))) (DSs.cons (DS.expr (DE.methL PySem.F.slot_list_extend PySem.F.type_list_extend VMo.extend (DE.var 1) (DA.cons (DL.new (DL.list (DA.cons (DE.fnB (VCall.isiE EX) rfl g_isinstance b_isinstance (DA.cons (DE.var 0) (DA.cons (DE.glx rfl C_InvalidPoints) (DA.nil)))) (DA.cons (DE.fnB (VCall.isiE EX) rfl g_isinstance b_isinstance (DA.cons (DE.var 0) (DA.cons (DE.glx rfl C_InvalidSteps) (DA.nil)))) (DA.cons (DE.fnB (VCall.isiE EX) rfl g_isinstance b_isinstance (DA.cons (DE.var 0) (DA.cons (DE.glx rfl C_InvalidProgram) (DA.nil)))) (DA.nil)))))) (DA.nil)))) (DSs.cons (DS.expr (DE.methL PySem.F.slot_list_extend PySem.F.type_list_extend VMo.extend (DE.var 1) (DA.cons (DL.new (DL.list (DA.cons (DE.fnB (VCall.isiE EX) rfl g_isinstance b_isinstance (DA.cons (DE.var 0) (DA.cons (DE.glx rfl C_InvalidText) (DA.nil)))) (DA.cons (DE.fnB (VCall.isiE EX) rfl g_isinstance b_isinstance (DA.cons (DE.var 0) (DA.cons (DE.glx rfl C_InvalidState) (DA.nil)))) (DA.cons (DE.fnB (VCall.isiE EX) rfl g_isinstance b_isinstance (DA.cons (DE.var 0) (DA.cons (DE.glx rfl C_InvalidWalk) (DA.nil)))) (DA.nil)))))) (DA.nil)))) (DSs.cons (DS.expr (DE.methL PySem.F.slot_list_extend PySem.F.type_list_extend VMo.extend (DE.var 1) (DA.cons (DL.new (DL.list (DA.cons (DE.fnB (VCall.isiE EX) rfl g_isinstance b_isinstance (DA.cons (DE.var 0) (DA.cons (DE.glx rfl C_InvalidSummary) (DA.nil)))) (DA.cons (DE.fnB (VCall.isiE EX) rfl g_isinstance b_isinstance (DA.cons (DE.var 0) (DA.cons (DE.glx rfl C_InvalidTimes) (DA.nil)))) (DA.cons (DE.fnB (VCall.isiE EX) rfl g_isinstance b_isinstance (DA.cons (DE.var 0) (DA.cons (DE.glx rfl C_InvalidCondition) (DA.nil)))) (DA.nil)))))) (DA.nil)))) (DSs.cons (DS.expr (DE.methL PySem.F.slot_list_extend PySem.F.type_list_extend VMo.extend (DE.var 1) (DA.cons (DL.new (DL.list (DA.cons (DE.fnB (VCall.isiE EX) rfl g_isinstance b_isinstance (DA.cons (DE.var 0) (DA.cons (DE.glx rfl C_InvalidEdit) (DA.nil)))) (DA.cons (DE.fnB (VCall.isiE EX) rfl g_isinstance b_isinstance (DA.cons (DE.var 0) (DA.cons (DE.glx rfl C_InvalidEdits) (DA.nil)))) (DA.cons (DE.fnB (VCall.isiE EX) rfl g_isinstance b_isinstance (DA.cons (DE.var 0) (DA.cons (DE.glx rfl C_InvalidHistory) (DA.nil)))) (DA.nil)))))) (DA.nil)))) (DSs.cons (DS.expr (DE.methL PySem.F.slot_list_extend PySem.F.type_list_extend VMo.extend (DE.var 1) (DA.cons (DL.new (DL.list (DA.cons (DE.fnB (VCall.isiE EX) rfl g_isinstance b_isinstance (DA.cons (DE.var 0) (DA.cons (DE.glx rfl C_InvalidCommand) (DA.nil)))) (DA.cons (DE.fnB (VCall.isiE EX) rfl g_isinstance b_isinstance (DA.cons (DE.var 0) (DA.cons (DE.glx rfl C_UnknownPoint) (DA.nil)))) (DA.cons (DE.fnB (VCall.isiE EX) rfl g_isinstance b_isinstance (DA.cons (DE.var 0) (DA.cons (DE.glx rfl C_UnknownStep) (DA.nil)))) (DA.nil)))))) (DA.nil)))) (DSs.cons (DS.expr (DE.methL PySem.F.slot_list_extend PySem.F.type_list_extend VMo.extend (DE.var 1) (DA.cons (DL.new (DL.list (DA.cons (DE.fnB (VCall.isiE EX) rfl g_isinstance b_isinstance (DA.cons (DE.var 0) (DA.cons (DE.glx rfl C_UnknownClaim) (DA.nil)))) (DA.cons (DE.fnB (VCall.isiE EX) rfl g_isinstance b_isinstance (DA.cons (DE.var 0) (DA.cons (DE.glx rfl C_NothingToUndo) (DA.nil)))) (DA.cons (DE.fnB (VCall.isiE EX) rfl g_isinstance b_isinstance (DA.cons (DE.var 0) (DA.cons (DE.glx rfl C_Contradictory) (DA.nil)))) (DA.nil)))))) (DA.nil)))) (DSs.cons (DS.expr (DE.methL PySem.F.slot_list_extend PySem.F.type_list_extend VMo.extend (DE.var 1) (DA.cons (DL.new (DL.list (DA.cons (DE.fnB (VCall.isiE EX) rfl g_isinstance b_isinstance (DA.cons (DE.var 0) (DA.cons (DE.glx rfl C_DuplicateStep) (DA.nil)))) (DA.cons (DE.fnB (VCall.isiE EX) rfl g_isinstance b_isinstance (DA.cons (DE.var 0) (DA.cons (DE.glx rfl C_Mismatch) (DA.nil)))) (DA.cons (DE.fnB (VCall.isiE EX) rfl g_isinstance b_isinstance (DA.cons (DE.var 0) (DA.cons (DE.glx rfl C_Looping) (DA.nil)))) (DA.nil)))))) (DA.nil)))) (DSs.cons (DS.expr (DE.methL PySem.F.slot_list_append PySem.F.type_list_append VMo.append (DE.var 1) (DA.cons (DE.fnB (VCall.isiE EX) rfl g_isinstance b_isinstance (DA.cons (DE.var 0) (DA.cons (DE.glx rfl C_TooMany) (DA.nil)))) (DA.nil)))) (DSs.cons (DS.set 2 c.nd (DL.new (DL.list (DA.cons (DE.fnB (VCall.isiE EX) rfl g_isinstance b_isinstance (DA.cons (DE.var 0) (DA.cons (DE.glx rfl C_CaprunsError) (DA.nil)))) (DA.cons (DE.fnB (VCall.isiE EX) rfl g_isinstance b_isinstance (DA.cons (DE.var 0) (DA.cons (DE.glx rfl C_SearchError) (DA.nil)))) (DA.nil)))))) (DSs.cons (DS.expr (DE.methL PySem.F.slot_list_extend PySem.F.type_list_extend VMo.extend (DE.var 2) (DA.cons (DL.new (DL.list (DA.cons (DE.fnB (VCall.isiE EX) rfl g_isinstance b_isinstance (DA.cons (DE.var 0) (DA.cons (DE.glx rfl C_ConflictError) (DA.nil)))) (DA.cons (DE.fnB (VCall.isiE EX) rfl g_isinstance b_isinstance (DA.cons (DE.var 0) (DA.cons (DE.glx rfl C_LimitError) (DA.nil)))) (DA.nil))))) (DA.nil)))) (DSs.cons (DS.set 3 c.nd (DL.new (DL.list (DA.cons (DE.fnB (VCall.isiE EX) rfl g_isinstance b_isinstance (DA.cons (DE.var 0) (DA.cons (DE.ty .ve rfl g_ValueError b_ValueError) (DA.nil)))) (DA.cons (DE.fnB (VCall.isiE EX) rfl g_isinstance b_isinstance (DA.cons (DE.var 0) (DA.cons (DE.ty .le rfl g_LookupError b_LookupError) (DA.nil)))) (DA.nil)))))) (DSs.cons (DS.expr (DE.methL PySem.F.slot_list_extend PySem.F.type_list_extend VMo.extend (DE.var 3) (DA.cons (DL.new (DL.list (DA.cons (DE.fnB (VCall.isiE EX) rfl g_isinstance b_isinstance (DA.cons (DE.var 0) (DA.cons (DE.ty .re rfl g_RuntimeError b_RuntimeError) (DA.nil)))) (DA.cons (DE.fnB (VCall.isiE EX) rfl g_isinstance b_isinstance (DA.cons (DE.var 0) (DA.cons (DE.ty .ae rfl g_ArithmeticError b_ArithmeticError) (DA.nil)))) (DA.nil))))) (DA.nil)))) (DSs.cons (DS.ite (DW.dt (DW.or (DT.cmp (VOp.ne c.u1) (DE.methL PySem.F.slot_list_count PySem.F.type_list_count (VMo.count c.u2) (DE.var 1) (DA.cons (DE.bool) (DA.nil))) (DE.int)) (DW.or1 (DT.cmp (VOp.ne c.u1) (DE.var 2) (DE.var 3))))) (DSs.one (DS.ret (DE.str [111, 116, 104, 101, 114]))) (DSs.nil)) (DSs.cons (DS.set 4 c.nd (DE.methL PySem.F.slot_list_index PySem.F.type_list_index (VMo.index c.u2) (DE.var 1) (DA.cons (DE.bool) (DA.nil)))) (DSs.cons (DS.ite (DT.cmp (VOp.ne c.u1) (DE.var 2) (DL.pure (DL.list (DA.cons (DE.cmp VOp.lt (DE.var 4) (DE.int)) (DA.cons (DE.chain VOp.lt VOp.lt (DE.int) (DE.var 4) (DE.int)) (DA.cons (DE.chain VOp.lt VOp.lt (DE.int) (DE.var 4) (DE.int)) (DA.cons (DE.cmp (VOp.eq c.u1) (DE.var 4) (DE.int)) (DA.nil)))))))) (DSs.one (DS.ret (DE.str [111, 116, 104, 101, 114]))) (DSs.nil)) (DSs.cons (DS.set 5 c.nd (DE.str [73, 110, 118, 97, 108, 105, 100, 67, 108, 97, 105, 109, 32, 73, 110, 118, 97, 108, 105, 100, 67, 108, 97, 105, 109, 115, 32, 73, 110, 118, 97, 108, 105, 100, 86, 97, 114, 105, 97, 98, 108, 101, 115, 32, 73, 110, 118, 97, 108, 105, 100, 70, 105, 120, 101, 100, 32, 73, 110, 118, 97, 108, 105, 100, 67, 97, 112, 32, 73, 110, 118, 97, 108, 105, 100, 73, 110, 100, 101, 120])) (DSs.cons (DS.set 5 c.nd (DE.bin VOp.add (DE.var 5) (DE.str [32, 73, 110, 118, 97, 108, 105, 100, 80, 111, 105, 110, 116, 115, 32, 73, 110, 118, 97, 108, 105, 100, 83, 116, 101, 112, 115, 32, 73, 110, 118, 97, 108, 105, 100, 80, 114, 111, 103, 114, 97, 109, 32, 73, 110, 118, 97, 108, 105, 100, 84, 101, 120, 116, 32, 73, 110, 118, 97, 108, 105, 100, 83, 116, 97, 116, 101, 32, 73, 110, 118, 97, 108, 105, 100, 87, 97, 108, 107]))) (DSs.cons (DS.set 5 c.nd (DE.bin VOp.add (DE.var 5) (DE.str [32, 73, 110, 118, 97, 108, 105, 100, 83, 117, 109, 109, 97, 114, 121, 32, 73, 110, 118, 97, 108, 105, 100, 84, 105, 109, 101, 115, 32, 73, 110, 118, 97, 108, 105, 100, 67, 111, 110, 100, 105, 116, 105, 111, 110, 32, 73, 110, 118, 97, 108, 105, 100, 69, 100, 105, 116, 32, 73, 110, 118, 97, 108, 105, 100, 69, 100, 105, 116, 115, 32, 73, 110, 118, 97, 108, 105, 100, 72, 105, 115, 116, 111, 114, 121]))) (DSs.cons (DS.set 5 c.nd (DE.bin VOp.add (DE.var 5) (DE.str [32, 73, 110, 118, 97, 108, 105, 100, 67, 111, 109, 109, 97, 110, 100, 32, 85, 110, 107, 110, 111, 119, 110, 80, 111, 105, 110, 116, 32, 85, 110, 107, 110, 111, 119, 110, 83, 116, 101, 112, 32, 85, 110, 107, 110, 111, 119, 110, 67, 108, 97, 105, 109, 32, 78, 111, 116, 104, 105, 110, 103, 84, 111, 85, 110, 100, 111, 32, 67, 111, 110, 116, 114, 97, 100, 105, 99, 116, 111, 114, 121]))) (DSs.one (DS.ret (DE.ixA c.u1 (DL.pure (DL.split (DE.bin VOp.add (DE.var 5) (DE.str [32, 68, 117, 112, 108, 105, 99, 97, 116, 101, 83, 116, 101, 112, 32, 77, 105, 115, 109, 97, 116, 99, 104, 32, 76, 111, 111, 112, 105, 110, 103, 32, 84, 111, 111, 77, 97, 110, 121])) (DA.cons (DE.str [32]) (DA.nil)))) (DE.var 4))))))))))))))))))))))))
theorem sc__law_told : FnScope ["_law_shown", "_law_named", "_law_e", "_law_kind_here"] ["_law_shown", "_law_named"] (defScope (top 63)) := ⟨rfl, rfl, rfl, by decide +kernel, rfl, by decide +kernel, by decide +kernel⟩
theorem fg__law_told {f : Addr} {fd : FuncData} (F : FnP K "_law_told" (top 63) f fd) (g_repr : mg "repr" = none) (F_parse_claims : Fn P w K mg base 7 "parse_claims" m_parse_claims) (FK_parse_claims_0_text : FnK P w K mg base 7 "parse_claims" 0 ["text"] (fun a b => a ++ b) m_parse_claims) (EX : ExT exT K mg) (C_CaprunsError : ∃ a, mg "CaprunsError" = some (.ref a)) (C_SearchError : ∃ a, mg "SearchError" = some (.ref a)) (C_ConflictError : ∃ a, mg "ConflictError" = some (.ref a)) (C_LimitError : ∃ a, mg "LimitError" = some (.ref a)) (X__law_kind : FnX P w K mg base 1 "_law_kind" m__law_kind) : FG P w K mg base 8 f fd ["_law_shown", "_law_named"] m__law_told := by
  replace X__law_kind := X__law_kind.mono (k := 7) (by decide)
  replace F_parse_claims := F_parse_claims.mono (k := 7) (by decide)
  replace FK_parse_claims_0_text := FK_parse_claims_0_text.mono (k := 7) (by decide)
  refine FG.of true F sc__law_told fun cdv A outer s H E hr hg => ?_
  have c : Cn 7 (cxOf (L2.CX P w) P w K mg base ["_law_shown", "_law_named", "_law_e", "_law_kind_here"] "_law_told" (defScope (top 63)) f cdv A outer s H E) := ⟨rfl, sc__law_told.nd, hr, hg⟩
  have tk : Takes (cxOf (L2.CX P w) P w K mg base ["_law_shown", "_law_named", "_law_e", "_law_kind_here"] "_law_told" (defScope (top 63)) f cdv A outer s H E) (fun cls d _ H' => E cls d H') := takes_of rfl rfl rfl rfl
  exact DSs.one (DS.tryF EX C_CaprunsError C_SearchError C_ConflictError C_LimitError c.cm c.nd rfl rfl tk (fun W pn xe tk po => DSs.one (DS.ret (DE.fnB (VCall.repr c.t.gd c.t.u3) rfl g_repr b_repr (DA.cons (DE.ifExp (DT.val (DE.var 1)) (DE.callK0 FK_parse_claims_0_text c.t.rm c.t.gd c.t.cm tk (DK.cons (DE.var 0) (DK.nil))) (DE.call F_parse_claims c.t.rm c.t.gd c.t.cm tk (DA.cons (DE.var 0) (DA.nil)))) (DA.nil))))) (fun a oe pn hf => DSs.cons (DS.set 3 c.su.nd (DE.callX X__law_kind c.su (DA.cons (DE.var 2) (DA.nil)))) (DSs.one (DS.ret (DE.ifExp (DT.cmp (VOp.eq c.su.u1) (DE.var 3) (DE.str [73, 110, 118, 97, 108, 105, 100, 84, 101, 120, 116])) (DE.fnB (VCall.repr c.su.gd c.su.u3) rfl g_repr b_repr (DA.cons (DE.tup (DA.cons (DE.var 3) (DA.cons (DE.attr EX (DE.var 2)) (DA.nil)))) (DA.nil))) (DE.var 3))))))
theorem sc__law_right : FnScope ["_law_shown", "_law_rows", "_law_due", "_law_named"] ["_law_shown"] (defScope (top 64)) := ⟨rfl, rfl, rfl, by decide +kernel, rfl, by decide +kernel, by decide +kernel⟩
theorem fg__law_right {f : Addr} {fd : FuncData} (F : FnP K "_law_right" (top 64) f fd) (g_isinstance : mg "isinstance" = none) (g_repr : mg "repr" = none) (g_str : mg "str" = none) (F__law_told : Fn P w K mg base 8 "_law_told" m__law_told) (F__law_readable : Fn P w K mg base 4 "_law_readable" m__law_readable) : FG P w K mg base 9 f fd ["_law_shown"] m__law_right := by
  replace F__law_told := F__law_told.mono (k := 8) (by decide)
  replace F__law_readable := F__law_readable.mono (k := 8) (by decide)
  refine FG.of true F sc__law_right fun cdv A outer s H E hr hg => ?_
  have c : Cn 8 (cxOf (L2.CX P w) P w K mg base ["_law_shown", "_law_rows", "_law_due", "_law_named"] "_law_right" (defScope (top 64)) f cdv A outer s H E) := ⟨rfl, sc__law_right.nd, hr, hg⟩
  have tk : Takes (cxOf (L2.CX P w) P w K mg base ["_law_shown", "_law_rows", "_law_due", "_law_named"] "_law_right" (defScope (top 64)) f cdv A outer s H E) (fun cls d _ H' => E cls d H') := takes_of rfl rfl rfl rfl
  exact DSs.cons (DS.set 1 c.nd (DE.ifExp (DT.val (DE.fnB VCall.isi rfl g_isinstance b_isinstance (DA.cons (DE.var 0) (DA.cons (DE.ty .str rfl g_str b_str) (DA.nil))))) (DE.call F__law_readable c.rm c.gd c.cm tk (DA.cons (DE.var 0) (DA.nil))) (DE.nonE))) (DSs.cons (DS.set 2 c.nd (DE.ifExp (DT.cmp VOp.is_ (DE.var 1) (DE.nonE)) (DE.fnB (VCall.repr c.gd c.u3) rfl g_repr b_repr (DA.cons (DE.tup (DA.cons (DE.str [73, 110, 118, 97, 108, 105, 100, 84, 101, 120, 116]) (DA.cons (DE.int) (DA.nil)))) (DA.nil))) (DE.fnB (VCall.repr c.gd c.u3) rfl g_repr b_repr (DA.cons (DE.var 1) (DA.nil))))) (DSs.one (DS.ret (DE.cmp (VOp.eq c.u1) (DL.pure (DL.lc [("_law_named", 3)] [3] c.cm c.nd (DI.seq (DL.pure (DL.list (DA.cons (DE.bool) (DA.cons (DE.bool) (DA.cons (DE.bool) (DA.nil))))))) (blkOk_by (by kernel_rfl)) (fun _ _ _ _ _ => DGw.name 3 c.b.nd) (fun _ _ _ _ _ => DTs.nil) (fun _ _ _ _ _ => DE.call F__law_told c.b.rm c.b.gd c.b.cm takesN (DA.cons (DE.var 0) (DA.cons (DE.var 3) (DA.nil)))))) (DE.bin VOp.mulA (DL.pure (DL.list (DA.cons (DE.var 2) (DA.nil)))) (DE.int))))))
theorem sc__law_bent : FnScope ["_law_purse_here", "_law_shown", "_law_at", "_law_way", "_law_last", "_law_signs", "_law_sign"] ["_law_purse_here", "_law_shown"] (defScope (top 65)) := ⟨rfl, rfl, rfl, by decide +kernel, rfl, by decide +kernel, by decide +kernel⟩
theorem fg__law_bent {f : Addr} {fd : FuncData} (F : FnP K "_law_bent" (top 65) f fd) (g_len : mg "len" = none) (F__law_draw : Fn P w K mg base 1 "_law_draw" m__law_draw) : FG P w K mg base 2 f fd ["_law_purse_here", "_law_shown"] m__law_bent := by
  replace F__law_draw := F__law_draw.mono (k := 1) (by decide)
  refine FG.of true F sc__law_bent fun cdv A outer s H E hr hg => ?_
  have c : Cn 1 (cxOf (L2.CX P w) P w K mg base ["_law_purse_here", "_law_shown", "_law_at", "_law_way", "_law_last", "_law_signs", "_law_sign"] "_law_bent" (defScope (top 65)) f cdv A outer s H E) := ⟨rfl, sc__law_bent.nd, hr, hg⟩
  have tk : Takes (cxOf (L2.CX P w) P w K mg base ["_law_purse_here", "_law_shown", "_law_at", "_law_way", "_law_last", "_law_signs", "_law_sign"] "_law_bent" (defScope (top 65)) f cdv A outer s H E) (fun cls d _ H' => E cls d H') := takes_of rfl rfl rfl rfl
  exact DSs.cons (DS.par2 2 3 c.cm c.nd (DA.cons (DE.call F__law_draw c.rm c.gd c.cm tk (DA.cons (DE.var 0) (DA.cons (DE.bin VOp.add (DE.fnB VCall.lenA rfl g_len b_len (DA.cons (DE.var 1) (DA.nil))) (DE.int)) (DA.nil)))) (DA.cons (DE.call F__law_draw c.rm c.gd c.cm tk (DA.cons (DE.var 0) (DA.cons (DE.int) (DA.nil)))) (DA.nil))) rfl) (DSs.cons (DS.set 4 c.nd (DE.bin VOp.add (DE.var 2) (DE.call F__law_draw c.rm c.gd c.cm tk (DA.cons (DE.var 0) (DA.cons (DE.bin VOp.sub (DE.bin VOp.add (DE.fnB VCall.lenA rfl g_len b_len (DA.cons (DE.var 1) (DA.nil))) (DE.int)) (DE.var 2)) (DA.nil)))))) (DSs.cons (DS.set 5 c.nd (DE.str [32, 39, 44, 60, 61, 62, 120, 65, 49, 10])) (DSs.cons (DS.set 6 c.nd (DE.ixA c.u1 (DE.var 5) (DE.call F__law_draw c.rm c.gd c.cm tk (DA.cons (DE.var 0) (DA.cons (DE.fnB VCall.lenA rfl g_len b_len (DA.cons (DE.var 5) (DA.nil))) (DA.nil)))))) (DSs.cons (DS.ite (DT.cmp VOp.lt (DE.var 3) (DE.int)) (DSs.one (DS.ret (DE.bin VOp.add (DE.bin VOp.add (DE.slice (DE.var 1) (DO.none) (DO.some (DE.var 2))) (DE.var 6)) (DE.slice (DE.var 1) (DO.some (DE.bin VOp.add (DE.var 2) (DE.var 3))) (DO.none))))) (DSs.nil)) (DSs.cons (DS.ite (DT.cmp (VOp.eq c.u1) (DE.var 3) (DE.int)) (DSs.one (DS.ret (DE.bin VOp.add (DE.slice (DE.var 1) (DO.none) (DO.some (DE.var 2))) (DE.slice (DE.var 1) (DO.some (DE.bin VOp.add (DE.var 2) (DE.int))) (DO.none))))) (DSs.nil)) (DSs.cons (DS.ite (DT.cmp (VOp.eq c.u1) (DE.var 3) (DE.int)) (DSs.one (DS.ret (DE.bin VOp.add (DE.bin VOp.add (DE.slice (DE.var 1) (DO.none) (DO.some (DE.var 2))) (DE.slice (DE.var 1) (DO.some (DE.var 2)) (DO.some (DE.bin VOp.add (DE.var 2) (DE.int))))) (DE.slice (DE.var 1) (DO.some (DE.var 2)) (DO.none))))) (DSs.nil)) (DSs.one (DS.ret (DE.ifExp (DT.cmp (VOp.eq c.u1) (DE.var 3) (DE.int)) (DE.bin VOp.add (DE.slice (DE.var 1) (DO.none) (DO.some (DE.var 2))) (DE.slice (DE.var 1) (DO.some (DE.var 4)) (DO.none))) (DE.bin VOp.add (DE.slice (DE.var 1) (DO.none) (DO.some (DE.var 4))) (DE.slice (DE.var 1) (DO.some (DE.var 2)) (DO.none))))))))))))
theorem sc__law_by_hand : FnScope ["_law_some_here", "_law_letters", "_law_ring_here", "_law_k", "_law_shown"] [] (defScope (top 66)) := ⟨rfl, rfl, rfl, by decide +kernel, rfl, by decide +kernel, by decide +kernel⟩
theorem fg__law_by_hand {f : Addr} {fd : FuncData} (F : FnP K "_law_by_hand" (top 66) f fd) (g_all : mg "all" = none) (g_range : mg "range" = none) (F__law_right : Fn P w K mg base 9 "_law_right" m__law_right) : FG P w K mg base 10 f fd [] m__law_by_hand := by
  replace F__law_right := F__law_right.mono (k := 9) (by decide)
  refine FG.of true F sc__law_by_hand fun cdv A outer s H E hr hg => ?_
  have c : Cn 9 (cxOf (L2.CX P w) P w K mg base ["_law_some_here", "_law_letters", "_law_ring_here", "_law_k", "_law_shown"] "_law_by_hand" (defScope (top 66)) f cdv A outer s H E) := ⟨rfl, sc__law_by_hand.nd, hr, hg⟩
  have tk : Takes (cxOf (L2.CX P w) P w K mg base ["_law_some_here", "_law_letters", "_law_ring_here", "_law_k", "_law_shown"] "_law_by_hand" (defScope (top 66)) f cdv A outer s H E) (fun cls d _ H' => E cls d H') := takes_of rfl rfl rfl rfl
  exact DSs.cons (DS.set 0 c.nd (DL.pure (DL.list (DA.cons (DE.str [120, 60, 121]) (DA.cons (DE.str [120, 32, 60, 121]) (DA.cons (DE.str [120, 32, 32, 60, 32, 121]) (DA.cons (DE.str [32, 120, 32, 60, 32, 121]) (DA.cons (DE.str [120, 32, 60, 32, 121, 32]) (DA.cons (DE.str [120, 32, 60, 32, 121, 44]) (DA.cons (DE.str [120, 32, 60, 32, 121, 44, 32]) (DA.cons (DE.str [120, 32, 60, 32, 121, 44, 121, 32, 60, 32, 122]) (DA.cons (DE.str [120, 32, 60, 32, 121, 32, 44, 32, 121, 32, 60, 32, 122]) (DA.cons (DE.str [44, 32, 120, 32, 60, 32, 121]) (DA.nil)))))))))))))) (DSs.cons (DS.set 0 c.nd (DE.bin VOp.add (DE.var 0) (DL.pure (DL.list (DA.cons (DE.str [120, 32, 60, 32, 121, 44, 32, 32, 121, 32, 60, 32, 122]) (DA.cons (DE.str [120, 32, 60, 32, 121, 10]) (DA.cons (DE.str [120, 10, 60, 32, 121]) (DA.cons (DE.str [120, 32, 62, 32, 121]) (DA.cons (DE.str [120, 32, 61, 61, 32, 121]) (DA.cons (DE.str [120, 32, 61, 62, 32, 121]) (DA.cons (DE.str [120, 32, 33, 61, 32, 121]) (DA.cons (DE.str [120, 32, 61, 60, 32, 121]) (DA.cons (DE.str [120, 32, 60, 32, 121, 32, 60, 32, 122]) (DA.nil)))))))))))))) (DSs.cons (DS.set 0 c.nd (DE.bin VOp.add (DE.var 0) (DL.pure (DL.list (DA.cons (DE.str [88, 32, 60, 32, 121]) (DA.cons (DE.str [120, 49, 32, 60, 32, 121]) (DA.cons (DE.str [97, 98, 99, 100, 101, 102, 103, 32, 60, 32, 121]) (DA.cons (DE.str [97, 98, 99, 100, 101, 102, 39, 32, 60, 32, 121]) (DA.cons (DE.str [120, 39, 39, 32, 60, 32, 121]) (DA.cons (DE.str [39, 120, 32, 60, 32, 121]) (DA.cons (DE.str [120, 39, 32, 60, 32, 121, 39]) (DA.cons (DE.str [120, 32, 60, 32, 49]) (DA.nil))))))))))))) (DSs.cons (DS.set 0 c.nd (DE.bin VOp.add (DE.var 0) (DL.pure (DL.list (DA.cons (DE.str [120, 32, 60]) (DA.cons (DE.str [60, 32, 121]) (DA.cons (DE.str [120]) (DA.cons (DE.str [120, 32, 121]) (DA.cons (DE.str [32]) (DA.cons (DE.str [44]) (DA.cons (DE.str [44, 32]) (DA.cons (DE.str [40, 41]) (DA.cons (DE.str [120, 32, 60, 32, 121, 59, 32, 121, 32, 60, 32, 122]) (DA.cons (DE.str [120, 32, 60, 32, 121, 44, 32, 120, 32, 60, 32, 121]) (DA.cons (DE.str [120, 32, 60, 61, 32, 121]) (DA.nil)))))))))))))))) (DSs.cons (DS.set 0 c.nd (DE.bin VOp.add (DE.var 0) (DL.pure (DL.list (DA.cons (DE.str [120, 32, 61, 32, 121]) (DA.cons (DE.str [120, 60, 61, 32, 121]) (DA.cons (DE.str []) (DA.nil)))))))) (DSs.cons (DS.set 1 c.nd (DE.str [97, 98, 99, 100, 101, 102, 103, 104, 105, 106, 107])) (DSs.cons (DS.setLc [("_law_k", 3)] [3] false 2 c.cm c.nd rfl (DI.rng1 rfl g_range (DA.cons (DE.int) (DA.nil))) (blkOk_by (by kernel_rfl)) (fun _ _ _ _ _ => DGw.name 3 c.b.nd) (fun _ _ _ _ _ => DTs.nil) (fun _ _ _ _ _ => DE.bin VOp.add (DE.bin VOp.add (DE.ixA c.b.u1 (DE.var 1) (DE.bin VOp.sub (DE.var 3) (DE.int))) (DE.str [32, 60, 61, 32])) (DE.ixA c.b.u1 (DE.var 1) (DE.var 3)))) (DSs.cons (DS.set 0 c.nd (DE.bin VOp.add (DE.var 0) (DL.pure (DL.list (DA.cons (DE.methS PySem.F.slot_str_join PySem.F.type_str_join VMs.join (DE.str [44, 32]) (DA.cons (DE.var 2) (DA.nil))) (DA.cons (DE.methS PySem.F.slot_str_join PySem.F.type_str_join VMs.join (DE.str [44, 32]) (DA.cons (DE.slice (DE.var 2) (DO.some (DE.int)) (DO.none)) (DA.nil))) (DA.cons (DE.methS PySem.F.slot_str_join PySem.F.type_str_join VMs.join (DE.str [44, 32]) (DA.cons (DE.slice (DE.var 2) (DO.some (DE.int)) (DO.some (DE.int))) (DA.nil))) (DA.cons (DE.methS PySem.F.slot_str_join PySem.F.type_str_join VMs.join (DE.str [44, 32]) (DA.cons (DE.bin VOp.mulA (DL.pure (DL.list (DA.cons (DE.str [120, 32, 60, 32, 121]) (DA.nil)))) (DE.int)) (DA.nil))) (DA.nil))))))))) (DSs.cons (DS.set 0 c.nd (DE.bin VOp.add (DE.var 0) (DL.pure (DL.list (DA.cons (DE.methS PySem.F.slot_str_join PySem.F.type_str_join VMs.join (DE.str [44, 32]) (DA.cons (DE.bin VOp.mulA (DL.pure (DL.list (DA.cons (DE.str [120, 32, 60, 32, 121]) (DA.nil)))) (DE.int)) (DA.nil))) (DA.cons (DE.nonE) (DA.cons (DE.bool) (DA.cons (DE.int) (DA.cons (DE.int) (DA.cons (DE.tup (DA.nil)) (DA.cons (DL.pure (DL.list (DA.nil))) (DA.cons (DE.dct0) (DA.cons (DE.tup (DA.cons (DE.str [120, 32, 60, 32, 121]) (DA.nil))) (DA.cons (DL.pure (DL.list (DA.cons (DE.str [120, 32, 60, 32, 121]) (DA.nil)))) (DA.cons (DE.tup (DA.cons (DE.str [120]) (DA.cons (DE.str [60]) (DA.cons (DE.str [121]) (DA.nil))))) (DA.nil)))))))))))))))) (DSs.one (DS.ret (DE.fnB (VCall.all c.cm) rfl g_all b_all (DA.cons (DL.pure (DL.lc [("_law_shown", 4)] [4] c.cm c.nd (DI.seq (DE.bin VOp.add (DE.var 0) (DL.pure (DL.list (DA.cons (DE.tup (DA.cons (DE.tup (DA.cons (DE.str [120]) (DA.cons (DE.str [60]) (DA.cons (DE.str [121]) (DA.nil))))) (DA.nil))) (DA.cons (DL.pure (DL.list (DA.cons (DL.pure (DL.list (DA.nil))) (DA.nil)))) (DA.nil))))))) (blkOk_by (by kernel_rfl)) (fun _ _ _ _ _ => DGw.name 4 c.b.nd) (fun _ _ _ _ _ => DTs.nil) (fun _ _ _ _ _ => DE.call F__law_right c.b.rm c.b.gd c.b.cm takesN (DA.cons (DE.var 4) (DA.nil))))) (DA.nil)))))))))))))
theorem sc_law : FnScope ["_law_script", "_law_k", "_law_purse_here", "_law_turn", "_law_shown"] ["_law_script"] (defScope (top 67)) := ⟨rfl, rfl, rfl, by decide +kernel, rfl, by decide +kernel, by decide +kernel⟩
theorem fg_law {f : Addr} {fd : FuncData} (F : FnP K "law" (top 67) f fd) (g_len : mg "len" = none) (g_max : mg "max" = none) (g_min : mg "min" = none) (g_range : mg "range" = none) (F__law_right : Fn P w K mg base 9 "_law_right" m__law_right) (F__law_bent : Fn P w K mg base 2 "_law_bent" m__law_bent) (F__law_written : Fn P w K mg base 1 "_law_written" m__law_written) (F__law_some : Fn P w K mg base 4 "_law_some" m__law_some) (F__law_purse : Fn P w K mg base 1 "_law_purse" m__law_purse) (F__law_cell : Fn P w K mg base 1 "_law_cell" m__law_cell) (F__law_by_hand : Fn P w K mg base 10 "_law_by_hand" m__law_by_hand) : FG P w K mg base 11 f fd ["_law_script"] m_law := by
  replace F__law_right := F__law_right.mono (k := 10) (by decide)
  replace F__law_bent := F__law_bent.mono (k := 10) (by decide)
  replace F__law_written := F__law_written.mono (k := 10) (by decide)
  replace F__law_some := F__law_some.mono (k := 10) (by decide)
  replace F__law_purse := F__law_purse.mono (k := 10) (by decide)
  replace F__law_cell := F__law_cell.mono (k := 10) (by decide)
  replace F__law_by_hand := F__law_by_hand.mono (k := 10) (by decide)
  refine FG.of true F sc_law fun cdv A outer s H E hr hg => ?_
  have c : Cn 10 (cxOf (L2.CX P w) P w K mg base ["_law_script", "_law_k", "_law_purse_here", "_law_turn", "_law_shown"] "law" (defScope (top 67)) f cdv A outer s H E) := ⟨rfl, sc_law.nd, hr, hg⟩
  have tk : Takes (cxOf (L2.CX P w) P w K mg base ["_law_script", "_law_k", "_law_purse_here", "_law_turn", "_law_shown"] "law" (defScope (top 67)) f cdv A outer s H E) (fun cls d _ H' => E cls d H') := takes_of rfl rfl rfl rfl
  exact DSs.cons (DS.ite (DT.not (DT.val (DE.call0 F__law_by_hand c.rm c.gd c.cm tk))) (DSs.one (DS.ret (DE.bool))) (DSs.nil)) (DSs.cons (DS.for_ (passes_of rfl) c.cm (DI.rng1 rfl g_range (DA.cons (DE.fnB (VCall.max c.cm) rfl g_max b_max (DA.cons (DE.int) (DA.cons (DE.fnB (VCall.min c.cm) rfl g_min b_min (DA.cons (DE.fnB VCall.lenA rfl g_len b_len (DA.cons (DE.var 0) (DA.nil))) (DA.cons (DE.int) (DA.nil)))) (DA.nil)))) (DA.nil))) (DG.name 1 c.nd) (DSs.cons (DS.set 2 c.nd (DE.call F__law_purse c.rm c.gd c.cm tk (DA.cons (DE.call F__law_cell c.rm c.gd c.cm tk (DA.cons (DE.var 0) (DA.cons (DE.var 1) (DA.nil)))) (DA.nil)))) (DSs.one (DS.for_ (passes_of rfl) c.cm (DI.rng1 rfl g_range (DA.cons (DE.int) (DA.nil))) (DG.name 3 c.nd) (DSs.cons (DS.set 4 c.nd (DE.call F__law_written c.rm c.gd c.cm tk (DA.cons (DE.call F__law_some c.rm c.gd c.cm tk (DA.cons (DE.var 2) (DA.cons (DE.int) (DA.cons (DE.int) (DA.nil))))) (DA.nil)))) (DSs.one (DS.ite (DW.dt (DW.or (DT.not (DT.val (DE.call F__law_right c.rm c.gd c.cm tk (DA.cons (DE.var 4) (DA.nil))))) (DW.or1 (DT.not (DT.val (DE.call F__law_right c.rm c.gd c.cm tk (DA.cons (DE.call F__law_bent c.rm c.gd c.cm tk (DA.cons (DE.var 2) (DA.cons (DE.var 4) (DA.nil)))) (DA.nil)))))))) (DSs.one (DS.ret (DE.bool))) (DSs.nil)))))))) (DSs.one (DS.ret (DE.bool))))
end
/-! ### the head -/
def d_is_name : He.DefD := ⟨("is_name", none), "is_name", "is_name", defArgs (top 38), defBody (top 38), defScope (top 38), [], []⟩
def d_is_variable : He.DefD := ⟨("is_variable", none), "is_variable", "is_variable", defArgs (top 39), defBody (top 39), defScope (top 39), [], []⟩
def d_is_claim : He.DefD := ⟨("is_claim", none), "is_claim", "is_claim", defArgs (top 40), defBody (top 40), defScope (top 40), [], []⟩
def d_check_claims : He.DefD := ⟨("check_claims", none), "check_claims", "check_claims", defArgs (top 41), defBody (top 41), defScope (top 41), [], []⟩
def d_are_claims : He.DefD := ⟨("are_claims", none), "are_claims", "are_claims", defArgs (top 42), defBody (top 42), defScope (top 42), [], []⟩
def d_read_claims : He.DefD := ⟨("read_claims", none), "read_claims", "read_claims", defArgs (top 43), defBody (top 43), defScope (top 43), [], []⟩
def d_parse_claims : He.DefD := ⟨("parse_claims", none), "parse_claims", "parse_claims", defArgs (top 44), defBody (top 44), defScope (top 44), [], []⟩
def d__law_cell : He.DefD := ⟨("_law_cell", none), "_law_cell", "_law_cell", defArgs (top 46), defBody (top 46), defScope (top 46), [], []⟩
def d__law_purse : He.DefD := ⟨("_law_purse", none), "_law_purse", "_law_purse", defArgs (top 47), defBody (top 47), defScope (top 47), [], []⟩
def d__law_draw : He.DefD := ⟨("_law_draw", none), "_law_draw", "_law_draw", defArgs (top 48), defBody (top 48), defScope (top 48), [], []⟩
def d__law_shuffled : He.DefD := ⟨("_law_shuffled", none), "_law_shuffled", "_law_shuffled", defArgs (top 49), defBody (top 49), defScope (top 49), [], []⟩
def d__law_names : He.DefD := ⟨("_law_names", none), "_law_names", "_law_names", defArgs (top 50), defBody (top 50), defScope (top 50), [], []⟩
def d__law_variables : He.DefD := ⟨("_law_variables", none), "_law_variables", "_law_variables", defArgs (top 51), defBody (top 51), defScope (top 51), [], []⟩
def d__law_any : He.DefD := ⟨("_law_any", none), "_law_any", "_law_any", defArgs (top 52), defBody (top 52), defScope (top 52), [], []⟩
def d__law_fitting : He.DefD := ⟨("_law_fitting", none), "_law_fitting", "_law_fitting", defArgs (top 53), defBody (top 53), defScope (top 53), [], []⟩
def d__law_ring : He.DefD := ⟨("_law_ring", none), "_law_ring", "_law_ring", defArgs (top 54), defBody (top 54), defScope (top 54), [], []⟩
def d__law_row : He.DefD := ⟨("_law_row", none), "_law_row", "_law_row", defArgs (top 55), defBody (top 55), defScope (top 55), [], []⟩
def d__law_some : He.DefD := ⟨("_law_some", none), "_law_some", "_law_some", defArgs (top 56), defBody (top 56), defScope (top 56), [], []⟩
def d__law_written : He.DefD := ⟨("_law_written", none), "_law_written", "_law_written", defArgs (top 57), defBody (top 57), defScope (top 57), [], []⟩
def d__law_is_name : He.DefD := ⟨("_law_is_name", none), "_law_is_name", "_law_is_name", defArgs (top 58), defBody (top 58), defScope (top 58), [], []⟩
def d__law_is_variable : He.DefD := ⟨("_law_is_variable", none), "_law_is_variable", "_law_is_variable", defArgs (top 59), defBody (top 59), defScope (top 59), [], []⟩
def d__law_is_claim : He.DefD := ⟨("_law_is_claim", none), "_law_is_claim", "_law_is_claim", defArgs (top 60), defBody (top 60), defScope (top 60), [], []⟩
def d__law_readable : He.DefD := ⟨("_law_readable", none), "_law_readable", "_law_readable", defArgs (top 61), defBody (top 61), defScope (top 61), [], []⟩
def d__law_kind : He.DefD := ⟨("_law_kind", none), "_law_kind", "_law_kind", defArgs (top 62), defBody (top 62), defScope (top 62), [], []⟩
def d__law_told : He.DefD := ⟨("_law_told", none), "_law_told", "_law_told", defArgs (top 63), defBody (top 63), defScope (top 63), [], []⟩
def d__law_right : He.DefD := ⟨("_law_right", none), "_law_right", "_law_right", defArgs (top 64), defBody (top 64), defScope (top 64), [], []⟩
def d__law_bent : He.DefD := ⟨("_law_bent", none), "_law_bent", "_law_bent", defArgs (top 65), defBody (top 65), defScope (top 65), [], []⟩
def d__law_by_hand : He.DefD := ⟨("_law_by_hand", none), "_law_by_hand", "_law_by_hand", defArgs (top 66), defBody (top 66), defScope (top 66), [], []⟩
def d_law : He.DefD := ⟨("law", none), "law", "law", defArgs (top 67), defBody (top 67), defScope (top 67), [], []⟩
def di_InvalidClaims : He.DefD := ⟨("InvalidClaims", some "__init__"), "__init__", "InvalidClaims.__init__", defArgs (ini (top 3) 0), defBody (ini (top 3) 0), defScope (ini (top 3) 0), [], []⟩
def di_InvalidText : He.DefD := ⟨("InvalidText", some "__init__"), "__init__", "InvalidText.__init__", defArgs (ini (top 11) 0), defBody (ini (top 11) 0), defScope (ini (top 11) 0), [], []⟩
def fn : List He.DefD := [d_is_name, d_is_variable, d_is_claim, d_check_claims, d_are_claims, d_read_claims, d_parse_claims, d__law_cell, d__law_purse, d__law_draw, d__law_shuffled, d__law_names, d__law_variables, d__law_any, d__law_fitting, d__law_ring, d__law_row, d__law_some, d__law_written, d__law_is_name, d__law_is_variable, d__law_is_claim, d__law_readable, d__law_kind, d__law_told, d__law_right, d__law_bent, d__law_by_hand, d_law, di_InvalidClaims, di_InvalidText]
def fa : List He.Fa := [.glo "is_name", .glo "is_variable", .glo "is_claim", .glo "check_claims", .glo "are_claims", .glo "read_claims", .glo "parse_claims", .glo "_law_cell", .glo "_law_purse", .glo "_law_draw", .glo "_law_shuffled", .glo "_law_names", .glo "_law_variables", .glo "_law_any", .glo "_law_fitting", .glo "_law_ring", .glo "_law_row", .glo "_law_some", .glo "_law_written", .glo "_law_is_name", .glo "_law_is_variable", .glo "_law_is_claim", .glo "_law_readable", .glo "_law_kind", .glo "_law_told", .glo "_law_right", .glo "_law_bent", .glo "_law_by_hand", .glo "law", .glo "InvalidClaims", .glo "InvalidText", .glo "LimitError", .glo "ConflictError", .glo "SearchError", .glo "CaprunsError", .glo "TooMany", .glo "Looping", .glo "Mismatch", .glo "DuplicateStep", .glo "Contradictory", .glo "NothingToUndo", .glo "UnknownClaim", .glo "UnknownStep", .glo "UnknownPoint", .glo "InvalidCommand", .glo "InvalidHistory", .glo "InvalidEdits", .glo "InvalidEdit", .glo "InvalidCondition", .glo "InvalidTimes", .glo "InvalidSummary", .glo "InvalidWalk", .glo "InvalidState", .glo "InvalidProgram", .glo "InvalidSteps", .glo "InvalidPoints", .glo "InvalidIndex", .glo "InvalidCap", .glo "InvalidFixed", .glo "InvalidVariables", .glo "InvalidClaim"]
def free : List Str := ["ArithmeticError", "LookupError", "RuntimeError", "ValueError", "abs", "all", "dict", "divmod", "enumerate", "int", "isinstance", "len", "list", "max", "min", "range", "repr", "set", "sorted", "str", "tuple"]
def vals : List (Str × AV) := [("MAX_CLAIMS", v_MAX_CLAIMS), ("MAX_CLAIM_VARIABLES", v_MAX_CLAIM_VARIABLES), ("LETTERS", v_LETTERS), ("OPERATORS", v_OPERATORS)]
def moreB (K : PySem.W.Frag) : Bool := gAll free vals K && (exTB exT K && exT.cs.all (inB K))
abbrev R : PySem.W.OpenRow := PySem.W.OpenLaw.row PySem.Challenge.rw_capruns_k03_strings_that_are_no_claims
abbrev hk : PySem.W.Hook := He.hookX 4 fa fn [] [] moreB
def ob (s : PySem.W.SharedT) : He.AlX := He.obsX 4 fa fn [] [] moreB (HandSHeadRun.getT s)
theorem ob_eq (s : PySem.W.SharedT) : ob s = hk.obs s.abs := He.obsX_eq (HandSHeadRun.getT_eq s)
def loose : List Str := (["CaprunsError", "InvalidClaim", "InvalidClaims", "InvalidVariables", "InvalidFixed", "InvalidCap", "InvalidIndex", "InvalidPoints", "InvalidSteps", "InvalidProgram", "InvalidText", "InvalidState", "InvalidWalk", "InvalidSummary", "InvalidTimes", "InvalidCondition", "InvalidEdit", "InvalidEdits", "InvalidHistory", "InvalidCommand"] : List Str) ++ (["SearchError", "UnknownPoint", "UnknownStep", "UnknownClaim", "NothingToUndo", "ConflictError", "Contradictory", "DuplicateStep", "Mismatch", "Looping", "LimitError", "TooMany", "MAX_CLAIMS", "MAX_CLAIM_VARIABLES", "LETTERS", "OPERATORS", "is_name", "is_variable", "is_claim", "check_claims"] : List Str) ++ (["are_claims", "read_claims", "parse_claims", "_law_cell", "_law_purse", "_law_draw", "_law_shuffled", "_law_names", "_law_variables", "_law_any", "_law_fitting", "_law_ring", "_law_row", "_law_some", "_law_written", "_law_is_name", "_law_is_variable", "_law_is_claim", "_law_readable", "_law_kind"] : List Str) ++ (["_law_told", "_law_right", "_law_bent", "_law_by_hand"] : List Str)
theorem run (w : World) : HandSHeadRun.RunEq R (PySem.W.view R.prog [67]) hk ob 20000 loose w := by
  intro os
  kernel_rfl
theorem facts {P : Program} {w : World} {K : PySem.W.Frag} {h : Heap} {mg : Str → Option Value} {f : Addr} (X : K.In h) (G : h.Ns mainGlobals mg) (hfa : mg ("law" : Str) = some (.ref f)) (c : He.SaysX fa fn [] [] moreB w h K) :
    ∃ fd : FuncData, (∀ (s : Shared) (u : Value), BindsTo s fd ⟨[u], []⟩ [("_law_script", u)]) ∧ ∀ base : Heap, K.In base → base.Ns mainGlobals mg → FG P w K mg base 11 f fd ["_law_script"] m_law := by
  have cd : He.SaysD fa fn K := c.t.d
  obtain ⟨fd_is_name, D_is_name⟩ := cd.def_ 0 (d := d_is_name) rfl
  replace D_is_name : FnP K "is_name" (top 38) (He.ga K "is_name") fd_is_name := D_is_name
  have o_is_name := He.glo_ok X G (cd.fact 0 (f := .glo "is_name") rfl)
  obtain ⟨fd_is_variable, D_is_variable⟩ := cd.def_ 1 (d := d_is_variable) rfl
  replace D_is_variable : FnP K "is_variable" (top 39) (He.ga K "is_variable") fd_is_variable := D_is_variable
  have o_is_variable := He.glo_ok X G (cd.fact 1 (f := .glo "is_variable") rfl)
  obtain ⟨fd_is_claim, D_is_claim⟩ := cd.def_ 2 (d := d_is_claim) rfl
  replace D_is_claim : FnP K "is_claim" (top 40) (He.ga K "is_claim") fd_is_claim := D_is_claim
  have o_is_claim := He.glo_ok X G (cd.fact 2 (f := .glo "is_claim") rfl)
  obtain ⟨fd_check_claims, D_check_claims⟩ := cd.def_ 3 (d := d_check_claims) rfl
  replace D_check_claims : FnP K "check_claims" (top 41) (He.ga K "check_claims") fd_check_claims := D_check_claims
  have o_check_claims := He.glo_ok X G (cd.fact 3 (f := .glo "check_claims") rfl)
  obtain ⟨fd_are_claims, D_are_claims⟩ := cd.def_ 4 (d := d_are_claims) rfl
  replace D_are_claims : FnP K "are_claims" (top 42) (He.ga K "are_claims") fd_are_claims := D_are_claims
  have o_are_claims := He.glo_ok X G (cd.fact 4 (f := .glo "are_claims") rfl)
  obtain ⟨fd_read_claims, D_read_claims⟩ := cd.def_ 5 (d := d_read_claims) rfl
  replace D_read_claims : FnP K "read_claims" (top 43) (He.ga K "read_claims") fd_read_claims := D_read_claims
  have o_read_claims := He.glo_ok X G (cd.fact 5 (f := .glo "read_claims") rfl)
  obtain ⟨fd_parse_claims, D_parse_claims⟩ := cd.def_ 6 (d := d_parse_claims) rfl
  replace D_parse_claims : FnP K "parse_claims" (top 44) (He.ga K "parse_claims") fd_parse_claims := D_parse_claims
  have o_parse_claims := He.glo_ok X G (cd.fact 6 (f := .glo "parse_claims") rfl)
  obtain ⟨fd__law_cell, D__law_cell⟩ := cd.def_ 7 (d := d__law_cell) rfl
  replace D__law_cell : FnP K "_law_cell" (top 46) (He.ga K "_law_cell") fd__law_cell := D__law_cell
  have o__law_cell := He.glo_ok X G (cd.fact 7 (f := .glo "_law_cell") rfl)
  obtain ⟨fd__law_purse, D__law_purse⟩ := cd.def_ 8 (d := d__law_purse) rfl
  replace D__law_purse : FnP K "_law_purse" (top 47) (He.ga K "_law_purse") fd__law_purse := D__law_purse
  have o__law_purse := He.glo_ok X G (cd.fact 8 (f := .glo "_law_purse") rfl)
  obtain ⟨fd__law_draw, D__law_draw⟩ := cd.def_ 9 (d := d__law_draw) rfl
  replace D__law_draw : FnP K "_law_draw" (top 48) (He.ga K "_law_draw") fd__law_draw := D__law_draw
  have o__law_draw := He.glo_ok X G (cd.fact 9 (f := .glo "_law_draw") rfl)
  obtain ⟨fd__law_shuffled, D__law_shuffled⟩ := cd.def_ 10 (d := d__law_shuffled) rfl
  replace D__law_shuffled : FnP K "_law_shuffled" (top 49) (He.ga K "_law_shuffled") fd__law_shuffled := D__law_shuffled
  have o__law_shuffled := He.glo_ok X G (cd.fact 10 (f := .glo "_law_shuffled") rfl)
  obtain ⟨fd__law_names, D__law_names⟩ := cd.def_ 11 (d := d__law_names) rfl
  replace D__law_names : FnP K "_law_names" (top 50) (He.ga K "_law_names") fd__law_names := D__law_names
  have o__law_names := He.glo_ok X G (cd.fact 11 (f := .glo "_law_names") rfl)
  obtain ⟨fd__law_variables, D__law_variables⟩ := cd.def_ 12 (d := d__law_variables) rfl
  replace D__law_variables : FnP K "_law_variables" (top 51) (He.ga K "_law_variables") fd__law_variables := D__law_variables
  have o__law_variables := He.glo_ok X G (cd.fact 12 (f := .glo "_law_variables") rfl)
  obtain ⟨fd__law_any, D__law_any⟩ := cd.def_ 13 (d := d__law_any) rfl
  replace D__law_any : FnP K "_law_any" (top 52) (He.ga K "_law_any") fd__law_any := D__law_any
  have o__law_any := He.glo_ok X G (cd.fact 13 (f := .glo "_law_any") rfl)
  obtain ⟨fd__law_fitting, D__law_fitting⟩ := cd.def_ 14 (d := d__law_fitting) rfl
  replace D__law_fitting : FnP K "_law_fitting" (top 53) (He.ga K "_law_fitting") fd__law_fitting := D__law_fitting
  have o__law_fitting := He.glo_ok X G (cd.fact 14 (f := .glo "_law_fitting") rfl)
  obtain ⟨fd__law_ring, D__law_ring⟩ := cd.def_ 15 (d := d__law_ring) rfl
  replace D__law_ring : FnP K "_law_ring" (top 54) (He.ga K "_law_ring") fd__law_ring := D__law_ring
  have o__law_ring := He.glo_ok X G (cd.fact 15 (f := .glo "_law_ring") rfl)
  obtain ⟨fd__law_row, D__law_row⟩ := cd.def_ 16 (d := d__law_row) rfl
  replace D__law_row : FnP K "_law_row" (top 55) (He.ga K "_law_row") fd__law_row := D__law_row
  have o__law_row := He.glo_ok X G (cd.fact 16 (f := .glo "_law_row") rfl)
  obtain ⟨fd__law_some, D__law_some⟩ := cd.def_ 17 (d := d__law_some) rfl
  replace D__law_some : FnP K "_law_some" (top 56) (He.ga K "_law_some") fd__law_some := D__law_some
  have o__law_some := He.glo_ok X G (cd.fact 17 (f := .glo "_law_some") rfl)
  obtain ⟨fd__law_written, D__law_written⟩ := cd.def_ 18 (d := d__law_written) rfl
  replace D__law_written : FnP K "_law_written" (top 57) (He.ga K "_law_written") fd__law_written := D__law_written
  have o__law_written := He.glo_ok X G (cd.fact 18 (f := .glo "_law_written") rfl)
  obtain ⟨fd__law_is_name, D__law_is_name⟩ := cd.def_ 19 (d := d__law_is_name) rfl
  replace D__law_is_name : FnP K "_law_is_name" (top 58) (He.ga K "_law_is_name") fd__law_is_name := D__law_is_name
  have o__law_is_name := He.glo_ok X G (cd.fact 19 (f := .glo "_law_is_name") rfl)
  obtain ⟨fd__law_is_variable, D__law_is_variable⟩ := cd.def_ 20 (d := d__law_is_variable) rfl
  replace D__law_is_variable : FnP K "_law_is_variable" (top 59) (He.ga K "_law_is_variable") fd__law_is_variable := D__law_is_variable
  have o__law_is_variable := He.glo_ok X G (cd.fact 20 (f := .glo "_law_is_variable") rfl)
  obtain ⟨fd__law_is_claim, D__law_is_claim⟩ := cd.def_ 21 (d := d__law_is_claim) rfl
  replace D__law_is_claim : FnP K "_law_is_claim" (top 60) (He.ga K "_law_is_claim") fd__law_is_claim := D__law_is_claim
  have o__law_is_claim := He.glo_ok X G (cd.fact 21 (f := .glo "_law_is_claim") rfl)
  obtain ⟨fd__law_readable, D__law_readable⟩ := cd.def_ 22 (d := d__law_readable) rfl
  replace D__law_readable : FnP K "_law_readable" (top 61) (He.ga K "_law_readable") fd__law_readable := D__law_readable
  have o__law_readable := He.glo_ok X G (cd.fact 22 (f := .glo "_law_readable") rfl)
  obtain ⟨fd__law_kind, D__law_kind⟩ := cd.def_ 23 (d := d__law_kind) rfl
  replace D__law_kind : FnP K "_law_kind" (top 62) (He.ga K "_law_kind") fd__law_kind := D__law_kind
  have o__law_kind := He.glo_ok X G (cd.fact 23 (f := .glo "_law_kind") rfl)
  obtain ⟨fd__law_told, D__law_told⟩ := cd.def_ 24 (d := d__law_told) rfl
  replace D__law_told : FnP K "_law_told" (top 63) (He.ga K "_law_told") fd__law_told := D__law_told
  have o__law_told := He.glo_ok X G (cd.fact 24 (f := .glo "_law_told") rfl)
  obtain ⟨fd__law_right, D__law_right⟩ := cd.def_ 25 (d := d__law_right) rfl
  replace D__law_right : FnP K "_law_right" (top 64) (He.ga K "_law_right") fd__law_right := D__law_right
  have o__law_right := He.glo_ok X G (cd.fact 25 (f := .glo "_law_right") rfl)
  obtain ⟨fd__law_bent, D__law_bent⟩ := cd.def_ 26 (d := d__law_bent) rfl
  replace D__law_bent : FnP K "_law_bent" (top 65) (He.ga K "_law_bent") fd__law_bent := D__law_bent
  have o__law_bent := He.glo_ok X G (cd.fact 26 (f := .glo "_law_bent") rfl)
  obtain ⟨fd__law_by_hand, D__law_by_hand⟩ := cd.def_ 27 (d := d__law_by_hand) rfl
  replace D__law_by_hand : FnP K "_law_by_hand" (top 66) (He.ga K "_law_by_hand") fd__law_by_hand := D__law_by_hand
  have o__law_by_hand := He.glo_ok X G (cd.fact 27 (f := .glo "_law_by_hand") rfl)
  obtain ⟨fd_law, D_law⟩ := cd.def_ 28 (d := d_law) rfl
  replace D_law : FnP K "law" (top 67) (He.ga K "law") fd_law := D_law
  have o_law := He.glo_ok X G (cd.fact 28 (f := .glo "law") rfl)
  have cm : (gAll free vals K && (exTB exT K && exT.cs.all (inB K))) = true := c.more
  rw [Bool.and_eq_true, Bool.and_eq_true] at cm
  obtain ⟨c1, c2, c3⟩ := cm
  have EX : ExT exT K mg := exTB_ok X G c2
  have C_InvalidClaims : ∃ a, mg "InvalidClaims" = some (.ref a) := ⟨_, He.glo_ok X G (cd.fact 29 (f := .glo "InvalidClaims") rfl)⟩
  have C_InvalidText : ∃ a, mg "InvalidText" = some (.ref a) := ⟨_, He.glo_ok X G (cd.fact 30 (f := .glo "InvalidText") rfl)⟩
  have C_LimitError : ∃ a, mg "LimitError" = some (.ref a) := ⟨_, He.glo_ok X G (cd.fact 31 (f := .glo "LimitError") rfl)⟩
  have C_ConflictError : ∃ a, mg "ConflictError" = some (.ref a) := ⟨_, He.glo_ok X G (cd.fact 32 (f := .glo "ConflictError") rfl)⟩
  have C_SearchError : ∃ a, mg "SearchError" = some (.ref a) := ⟨_, He.glo_ok X G (cd.fact 33 (f := .glo "SearchError") rfl)⟩
  have C_CaprunsError : ∃ a, mg "CaprunsError" = some (.ref a) := ⟨_, He.glo_ok X G (cd.fact 34 (f := .glo "CaprunsError") rfl)⟩
  have C_TooMany : ∃ a, mg "TooMany" = some (.ref a) := ⟨_, He.glo_ok X G (cd.fact 35 (f := .glo "TooMany") rfl)⟩
  have C_Looping : ∃ a, mg "Looping" = some (.ref a) := ⟨_, He.glo_ok X G (cd.fact 36 (f := .glo "Looping") rfl)⟩
  have C_Mismatch : ∃ a, mg "Mismatch" = some (.ref a) := ⟨_, He.glo_ok X G (cd.fact 37 (f := .glo "Mismatch") rfl)⟩
  have C_DuplicateStep : ∃ a, mg "DuplicateStep" = some (.ref a) := ⟨_, He.glo_ok X G (cd.fact 38 (f := .glo "DuplicateStep") rfl)⟩
  have C_Contradictory : ∃ a, mg "Contradictory" = some (.ref a) := ⟨_, He.glo_ok X G (cd.fact 39 (f := .glo "Contradictory") rfl)⟩
  have C_NothingToUndo : ∃ a, mg "NothingToUndo" = some (.ref a) := ⟨_, He.glo_ok X G (cd.fact 40 (f := .glo "NothingToUndo") rfl)⟩
  have C_UnknownClaim : ∃ a, mg "UnknownClaim" = some (.ref a) := ⟨_, He.glo_ok X G (cd.fact 41 (f := .glo "UnknownClaim") rfl)⟩
  have C_UnknownStep : ∃ a, mg "UnknownStep" = some (.ref a) := ⟨_, He.glo_ok X G (cd.fact 42 (f := .glo "UnknownStep") rfl)⟩
  have C_UnknownPoint : ∃ a, mg "UnknownPoint" = some (.ref a) := ⟨_, He.glo_ok X G (cd.fact 43 (f := .glo "UnknownPoint") rfl)⟩
  have C_InvalidCommand : ∃ a, mg "InvalidCommand" = some (.ref a) := ⟨_, He.glo_ok X G (cd.fact 44 (f := .glo "InvalidCommand") rfl)⟩
  have C_InvalidHistory : ∃ a, mg "InvalidHistory" = some (.ref a) := ⟨_, He.glo_ok X G (cd.fact 45 (f := .glo "InvalidHistory") rfl)⟩
  have C_InvalidEdits : ∃ a, mg "InvalidEdits" = some (.ref a) := ⟨_, He.glo_ok X G (cd.fact 46 (f := .glo "InvalidEdits") rfl)⟩
  have C_InvalidEdit : ∃ a, mg "InvalidEdit" = some (.ref a) := ⟨_, He.glo_ok X G (cd.fact 47 (f := .glo "InvalidEdit") rfl)⟩
  have C_InvalidCondition : ∃ a, mg "InvalidCondition" = some (.ref a) := ⟨_, He.glo_ok X G (cd.fact 48 (f := .glo "InvalidCondition") rfl)⟩
  have C_InvalidTimes : ∃ a, mg "InvalidTimes" = some (.ref a) := ⟨_, He.glo_ok X G (cd.fact 49 (f := .glo "InvalidTimes") rfl)⟩
  have C_InvalidSummary : ∃ a, mg "InvalidSummary" = some (.ref a) := ⟨_, He.glo_ok X G (cd.fact 50 (f := .glo "InvalidSummary") rfl)⟩
  have C_InvalidWalk : ∃ a, mg "InvalidWalk" = some (.ref a) := ⟨_, He.glo_ok X G (cd.fact 51 (f := .glo "InvalidWalk") rfl)⟩
  have C_InvalidState : ∃ a, mg "InvalidState" = some (.ref a) := ⟨_, He.glo_ok X G (cd.fact 52 (f := .glo "InvalidState") rfl)⟩
  have C_InvalidProgram : ∃ a, mg "InvalidProgram" = some (.ref a) := ⟨_, He.glo_ok X G (cd.fact 53 (f := .glo "InvalidProgram") rfl)⟩
  have C_InvalidSteps : ∃ a, mg "InvalidSteps" = some (.ref a) := ⟨_, He.glo_ok X G (cd.fact 54 (f := .glo "InvalidSteps") rfl)⟩
  have C_InvalidPoints : ∃ a, mg "InvalidPoints" = some (.ref a) := ⟨_, He.glo_ok X G (cd.fact 55 (f := .glo "InvalidPoints") rfl)⟩
  have C_InvalidIndex : ∃ a, mg "InvalidIndex" = some (.ref a) := ⟨_, He.glo_ok X G (cd.fact 56 (f := .glo "InvalidIndex") rfl)⟩
  have C_InvalidCap : ∃ a, mg "InvalidCap" = some (.ref a) := ⟨_, He.glo_ok X G (cd.fact 57 (f := .glo "InvalidCap") rfl)⟩
  have C_InvalidFixed : ∃ a, mg "InvalidFixed" = some (.ref a) := ⟨_, He.glo_ok X G (cd.fact 58 (f := .glo "InvalidFixed") rfl)⟩
  have C_InvalidVariables : ∃ a, mg "InvalidVariables" = some (.ref a) := ⟨_, He.glo_ok X G (cd.fact 59 (f := .glo "InvalidVariables") rfl)⟩
  have C_InvalidClaim : ∃ a, mg "InvalidClaim" = some (.ref a) := ⟨_, He.glo_ok X G (cd.fact 60 (f := .glo "InvalidClaim") rfl)⟩
  obtain ⟨fi_InvalidClaims, I_InvalidClaims⟩ := cd.def_ 29 (d := di_InvalidClaims) rfl
  replace I_InvalidClaims : FunD K "__init__" "InvalidClaims.__init__" (defArgs (ini (top 3) 0)) (defBody (ini (top 3) 0)) (defScope (ini (top 3) 0)) [] [] (He.ma K (He.ga K "InvalidClaims") "__init__") fi_InvalidClaims := I_InvalidClaims
  have B_InvalidClaims : Binds K fi_InvalidClaims ["self", "position"] [] := I_InvalidClaims.bindsN (fun _ _ _ _ _ _ us hl => match us, hl with | [_, _], _ => rfl)
  obtain ⟨fi_InvalidText, I_InvalidText⟩ := cd.def_ 30 (d := di_InvalidText) rfl
  replace I_InvalidText : FunD K "__init__" "InvalidText.__init__" (defArgs (ini (top 11) 0)) (defBody (ini (top 11) 0)) (defScope (ini (top 11) 0)) [] [] (He.ma K (He.ga K "InvalidText") "__init__") fi_InvalidText := I_InvalidText
  have B_InvalidText : Binds K fi_InvalidText ["self", "line"] [] := I_InvalidText.bindsN (fun _ _ _ _ _ _ us hl => match us, hl with | [_, _], _ => rfl)
  have g_ArithmeticError : mg "ArithmeticError" = none := gAll_free X G c1 0
  have g_LookupError : mg "LookupError" = none := gAll_free X G c1 1
  have g_RuntimeError : mg "RuntimeError" = none := gAll_free X G c1 2
  have g_ValueError : mg "ValueError" = none := gAll_free X G c1 3
  have g_abs : mg "abs" = none := gAll_free X G c1 4
  have g_all : mg "all" = none := gAll_free X G c1 5
  have g_dict : mg "dict" = none := gAll_free X G c1 6
  have g_divmod : mg "divmod" = none := gAll_free X G c1 7
  have g_enumerate : mg "enumerate" = none := gAll_free X G c1 8
  have g_int : mg "int" = none := gAll_free X G c1 9
  have g_isinstance : mg "isinstance" = none := gAll_free X G c1 10
  have g_len : mg "len" = none := gAll_free X G c1 11
  have g_list : mg "list" = none := gAll_free X G c1 12
  have g_max : mg "max" = none := gAll_free X G c1 13
  have g_min : mg "min" = none := gAll_free X G c1 14
  have g_range : mg "range" = none := gAll_free X G c1 15
  have g_repr : mg "repr" = none := gAll_free X G c1 16
  have g_set : mg "set" = none := gAll_free X G c1 17
  have g_sorted : mg "sorted" = none := gAll_free X G c1 18
  have g_str : mg "str" = none := gAll_free X G c1 19
  have g_tuple : mg "tuple" = none := gAll_free X G c1 20
  have V_MAX_CLAIMS : GV K mg "MAX_CLAIMS" v_MAX_CLAIMS := gAll_val X G c1 0
  have V_MAX_CLAIM_VARIABLES : GV K mg "MAX_CLAIM_VARIABLES" v_MAX_CLAIM_VARIABLES := gAll_val X G c1 1
  have V_LETTERS : GV K mg "LETTERS" v_LETTERS := gAll_val X G c1 2
  have V_OPERATORS : GV K mg "OPERATORS" v_OPERATORS := gAll_val X G c1 3
  have e := hfa.symm.trans o_law
  cases e
  refine ⟨fd_law, fun s u => FunD.bindsA (ps := ["_law_script"]) D_law (fun _ _ _ _ _ _ us hl => match us, hl with | [_], _ => rfl) s [u] rfl, fun base _ _ => ?_⟩
  have R_InvalidClaims : ∀ base : Heap, ExI P w K mg base 1 "InvalidClaims" "position" := fun base => by
    obtain ⟨a, e1, T, no, _⟩ := EX.ex "InvalidClaims" (by decide +kernel)
    have e2 : a = He.ga K "InvalidClaims" := by
      have z := He.glo_ok X G (cd.fact 29 (f := .glo "InvalidClaims") rfl)
      rw [e1] at z; cases z; rfl
    subst e2
    have q := List.all_eq_true.mp c3 "InvalidClaims" (by decide +kernel)
    unfold inB at q
    rw [Bool.and_eq_true] at q
    exact ⟨_, _, fi_InvalidClaims, "position", e1, T.o, no "position" (by decide +kernel), He.eqO_ok q.2, of_decide_eq_true q.1, init1 I_InvalidClaims ⟨rfl, rfl, rfl, by decide +kernel, rfl, by decide +kernel, by decide +kernel⟩ (Or.inl rfl) (Or.inl rfl) rfl rfl, B_InvalidClaims⟩
  have R_InvalidText : ∀ base : Heap, ExI P w K mg base 1 "InvalidText" "line" := fun base => by
    obtain ⟨a, e1, T, no, _⟩ := EX.ex "InvalidText" (by decide +kernel)
    have e2 : a = He.ga K "InvalidText" := by
      have z := He.glo_ok X G (cd.fact 30 (f := .glo "InvalidText") rfl)
      rw [e1] at z; cases z; rfl
    subst e2
    have q := List.all_eq_true.mp c3 "InvalidText" (by decide +kernel)
    unfold inB at q
    rw [Bool.and_eq_true] at q
    exact ⟨_, _, fi_InvalidText, "line", e1, T.o, no "line" (by decide +kernel), He.eqO_ok q.2, of_decide_eq_true q.1, init1 I_InvalidText ⟨rfl, rfl, rfl, by decide +kernel, rfl, by decide +kernel, by decide +kernel⟩ (Or.inl rfl) (Or.inl rfl) rfl rfl, B_InvalidText⟩
  have G_is_name := fg_is_name (P := P) (w := w) (base := base) (mg := mg) D_is_name g_all g_isinstance g_len g_str V_LETTERS
  have F_is_name : Fn P w K mg base 1 "is_name" m_is_name := Fn.of (ps := ["thing"]) D_is_name o_is_name (fun l h hl => aDef_len l h hl) (fun _ _ _ _ _ _ us hl => match us, hl with | [_], _ => rfl) G_is_name
  have G_is_variable := fg_is_variable (P := P) (w := w) (base := base) (mg := mg) D_is_variable g_isinstance g_str F_is_name
  have F_is_variable : Fn P w K mg base 2 "is_variable" m_is_variable := Fn.of (ps := ["thing"]) D_is_variable o_is_variable (fun l h hl => aDef_len l h hl) (fun _ _ _ _ _ _ us hl => match us, hl with | [_], _ => rfl) G_is_variable
  have G_is_claim := fg_is_claim (P := P) (w := w) (base := base) (mg := mg) D_is_claim g_isinstance g_len g_str g_tuple V_OPERATORS F_is_variable
  have F_is_claim : Fn P w K mg base 3 "is_claim" m_is_claim := Fn.of (ps := ["thing"]) D_is_claim o_is_claim (fun l h hl => aDef_len l h hl) (fun _ _ _ _ _ _ us hl => match us, hl with | [_], _ => rfl) G_is_claim
  have G_check_claims := fg_check_claims (P := P) (w := w) (base := base) (mg := mg) D_check_claims g_enumerate g_isinstance g_len g_set g_tuple V_MAX_CLAIM_VARIABLES V_MAX_CLAIMS F_is_claim C_InvalidClaims (R_InvalidClaims base)
  have F_check_claims : Fn P w K mg base 4 "check_claims" m_check_claims := Fn.of (ps := ["claims"]) D_check_claims o_check_claims (fun l h hl => aDef_len l h hl) (fun _ _ _ _ _ _ us hl => match us, hl with | [_], _ => rfl) G_check_claims
  have G_are_claims := fg_are_claims (P := P) (w := w) (base := base) (mg := mg) D_are_claims F_check_claims EX C_InvalidClaims
  have F_are_claims : Fn P w K mg base 5 "are_claims" m_are_claims := Fn.of (ps := ["thing"]) D_are_claims o_are_claims (fun l h hl => aDef_len l h hl) (fun _ _ _ _ _ _ us hl => match us, hl with | [_], _ => rfl) G_are_claims
  have G_read_claims := fg_read_claims (P := P) (w := w) (base := base) (mg := mg) D_read_claims g_tuple F_are_claims
  have F_read_claims : Fn P w K mg base 6 "read_claims" m_read_claims := Fn.of (ps := ["text"]) D_read_claims o_read_claims (fun l h hl => aDef_len l h hl) (fun _ _ _ _ _ _ us hl => match us, hl with | [_], _ => rfl) G_read_claims
  have G_parse_claims := fg_parse_claims (P := P) (w := w) (base := base) (mg := mg) D_parse_claims g_isinstance g_str F_read_claims C_InvalidText (R_InvalidText base)
  have F_parse_claims : Fn P w K mg base 7 "parse_claims" m_parse_claims := Fn.of (ps := ["text"]) D_parse_claims o_parse_claims (fun l h hl => aDef_len l h hl) (fun _ _ _ _ _ _ us hl => match us, hl with | [_], _ => rfl) G_parse_claims
  have FK_parse_claims_0_text : FnK P w K mg base 7 "parse_claims" 0 ["text"] (fun a b => a ++ b) m_parse_claims := FnK.of (ps := ["text"]) D_parse_claims o_parse_claims (fun l h hl => aDef_len l h hl) (fun _ _ _ _ _ _ us ws h1 h2 => match us, ws, h1, h2 with | [], [_], _, _ => rfl) G_parse_claims
  have G__law_cell := fg__law_cell (P := P) (w := w) (base := base) (mg := mg) D__law_cell g_len
  have F__law_cell : Fn P w K mg base 1 "_law_cell" m__law_cell := Fn.of (ps := ["_law_script", "_law_k"]) D__law_cell o__law_cell (fun l h hl => aDef_len l h hl) (fun _ _ _ _ _ _ us hl => match us, hl with | [_, _], _ => rfl) G__law_cell
  have G__law_purse := fg__law_purse (P := P) (w := w) (base := base) (mg := mg) D__law_purse g_abs
  have F__law_purse : Fn P w K mg base 1 "_law_purse" m__law_purse := Fn.of (ps := ["_law_cell_here"]) D__law_purse o__law_purse (fun l h hl => aDef_len l h hl) (fun _ _ _ _ _ _ us hl => match us, hl with | [_], _ => rfl) G__law_purse
  have G__law_draw := fg__law_draw (P := P) (w := w) (base := base) (mg := mg) D__law_draw g_divmod
  have F__law_draw : Fn P w K mg base 1 "_law_draw" m__law_draw := Fn.of (ps := ["_law_purse_here", "_law_size"]) D__law_draw o__law_draw (fun l h hl => aDef_len l h hl) (fun _ _ _ _ _ _ us hl => match us, hl with | [_, _], _ => rfl) G__law_draw
  have G__law_shuffled := fg__law_shuffled (P := P) (w := w) (base := base) (mg := mg) D__law_shuffled g_len g_list g_range F__law_draw
  have F__law_shuffled : Fn P w K mg base 2 "_law_shuffled" m__law_shuffled := Fn.of (ps := ["_law_purse_here", "_law_things"]) D__law_shuffled o__law_shuffled (fun l h hl => aDef_len l h hl) (fun _ _ _ _ _ _ us hl => match us, hl with | [_, _], _ => rfl) G__law_shuffled
  have G__law_names := fg__law_names (P := P) (w := w) (base := base) (mg := mg) D__law_names g_len g_range g_sorted F__law_draw
  have F__law_names : Fn P w K mg base 2 "_law_names" m__law_names := Fn.of (ps := ["_law_purse_here", "_law_many"]) D__law_names o__law_names (fun l h hl => aDef_len l h hl) (fun _ _ _ _ _ _ us hl => match us, hl with | [_, _], _ => rfl) G__law_names
  have G__law_variables := fg__law_variables (P := P) (w := w) (base := base) (mg := mg) D__law_variables F__law_draw F__law_names
  have F__law_variables : Fn P w K mg base 3 "_law_variables" m__law_variables := Fn.of (ps := ["_law_purse_here", "_law_many"]) D__law_variables o__law_variables (fun l h hl => aDef_len l h hl) (fun _ _ _ _ _ _ us hl => match us, hl with | [_, _], _ => rfl) G__law_variables
  have G__law_any := fg__law_any (P := P) (w := w) (base := base) (mg := mg) D__law_any g_len g_range F__law_draw
  have F__law_any : Fn P w K mg base 2 "_law_any" m__law_any := Fn.of (ps := ["_law_purse_here", "_law_names_here", "_law_many"]) D__law_any o__law_any (fun l h hl => aDef_len l h hl) (fun _ _ _ _ _ _ us hl => match us, hl with | [_, _, _], _ => rfl) G__law_any
  have G__law_fitting := fg__law_fitting (P := P) (w := w) (base := base) (mg := mg) D__law_fitting g_dict g_len F__law_any F__law_draw
  have F__law_fitting : Fn P w K mg base 3 "_law_fitting" m__law_fitting := Fn.of (ps := ["_law_purse_here", "_law_names_here", "_law_many"]) D__law_fitting o__law_fitting (fun l h hl => aDef_len l h hl) (fun _ _ _ _ _ _ us hl => match us, hl with | [_, _, _], _ => rfl) G__law_fitting
  have G__law_ring := fg__law_ring (P := P) (w := w) (base := base) (mg := mg) D__law_ring g_len g_range F__law_shuffled F__law_draw
  have F__law_ring : Fn P w K mg base 3 "_law_ring" m__law_ring := Fn.of (ps := ["_law_purse_here", "_law_names_here"]) D__law_ring o__law_ring (fun l h hl => aDef_len l h hl) (fun _ _ _ _ _ _ us hl => match us, hl with | [_, _], _ => rfl) G__law_ring
  have G__law_row := fg__law_row (P := P) (w := w) (base := base) (mg := mg) D__law_row g_len g_range F__law_shuffled F__law_draw
  have F__law_row : Fn P w K mg base 3 "_law_row" m__law_row := Fn.of (ps := ["_law_purse_here", "_law_names_here"]) D__law_row o__law_row (fun l h hl => aDef_len l h hl) (fun _ _ _ _ _ _ us hl => match us, hl with | [_, _], _ => rfl) G__law_row
  have G__law_some := fg__law_some (P := P) (w := w) (base := base) (mg := mg) D__law_some g_int F__law_shuffled F__law_ring F__law_fitting F__law_row F__law_any F__law_draw F__law_variables
  have F__law_some : Fn P w K mg base 4 "_law_some" m__law_some := Fn.of (ps := ["_law_purse_here", "_law_wide", "_law_most"]) D__law_some o__law_some (fun l h hl => aDef_len l h hl) (fun _ _ _ _ _ _ us hl => match us, hl with | [_, _, _], _ => rfl) G__law_some
  have G__law_written := fg__law_written (P := P) (w := w) (base := base) (mg := mg) D__law_written
  have F__law_written : Fn P w K mg base 1 "_law_written" m__law_written := Fn.of (ps := ["_law_rows"]) D__law_written o__law_written (fun l h hl => aDef_len l h hl) (fun _ _ _ _ _ _ us hl => match us, hl with | [_], _ => rfl) G__law_written
  have G__law_is_name := fg__law_is_name (P := P) (w := w) (base := base) (mg := mg) D__law_is_name g_all g_isinstance g_len g_str
  have F__law_is_name : Fn P w K mg base 1 "_law_is_name" m__law_is_name := Fn.of (ps := ["_law_word"]) D__law_is_name o__law_is_name (fun l h hl => aDef_len l h hl) (fun _ _ _ _ _ _ us hl => match us, hl with | [_], _ => rfl) G__law_is_name
  have G__law_is_variable := fg__law_is_variable (P := P) (w := w) (base := base) (mg := mg) D__law_is_variable g_isinstance g_str F__law_is_name
  have F__law_is_variable : Fn P w K mg base 2 "_law_is_variable" m__law_is_variable := Fn.of (ps := ["_law_word"]) D__law_is_variable o__law_is_variable (fun l h hl => aDef_len l h hl) (fun _ _ _ _ _ _ us hl => match us, hl with | [_], _ => rfl) G__law_is_variable
  have G__law_is_claim := fg__law_is_claim (P := P) (w := w) (base := base) (mg := mg) D__law_is_claim g_isinstance g_len g_str g_tuple F__law_is_variable
  have F__law_is_claim : Fn P w K mg base 3 "_law_is_claim" m__law_is_claim := Fn.of (ps := ["_law_row_here"]) D__law_is_claim o__law_is_claim (fun l h hl => aDef_len l h hl) (fun _ _ _ _ _ _ us hl => match us, hl with | [_], _ => rfl) G__law_is_claim
  have G__law_readable := fg__law_readable (P := P) (w := w) (base := base) (mg := mg) D__law_readable g_all g_len g_set g_tuple F__law_is_claim
  have F__law_readable : Fn P w K mg base 4 "_law_readable" m__law_readable := Fn.of (ps := ["_law_shown"]) D__law_readable o__law_readable (fun l h hl => aDef_len l h hl) (fun _ _ _ _ _ _ us hl => match us, hl with | [_], _ => rfl) G__law_readable
  have G__law_kind := fg__law_kind (P := P) (w := w) (base := base) (mg := mg) D__law_kind g_ArithmeticError g_LookupError g_RuntimeError g_ValueError g_isinstance EX C_LimitError C_ConflictError C_SearchError C_CaprunsError C_TooMany C_Looping C_Mismatch C_DuplicateStep C_Contradictory C_NothingToUndo C_UnknownClaim C_UnknownStep C_UnknownPoint C_InvalidCommand C_InvalidHistory C_InvalidEdits C_InvalidEdit C_InvalidCondition C_InvalidTimes C_InvalidSummary C_InvalidWalk C_InvalidState C_InvalidText C_InvalidProgram C_InvalidSteps C_InvalidPoints C_InvalidIndex C_InvalidCap C_InvalidFixed C_InvalidVariables C_InvalidClaims C_InvalidClaim
  have H__law_kind := fgh__law_kind (P := P) (w := w) (base := base) (mg := mg) D__law_kind g_ArithmeticError g_LookupError g_RuntimeError g_ValueError g_isinstance EX C_LimitError C_ConflictError C_SearchError C_CaprunsError C_TooMany C_Looping C_Mismatch C_DuplicateStep C_Contradictory C_NothingToUndo C_UnknownClaim C_UnknownStep C_UnknownPoint C_InvalidCommand C_InvalidHistory C_InvalidEdits C_InvalidEdit C_InvalidCondition C_InvalidTimes C_InvalidSummary C_InvalidWalk C_InvalidState C_InvalidText C_InvalidProgram C_InvalidSteps C_InvalidPoints C_InvalidIndex C_InvalidCap C_InvalidFixed C_InvalidVariables C_InvalidClaims C_InvalidClaim
  have X__law_kind : FnX P w K mg base 1 "_law_kind" m__law_kind := FnX.of (ps := ["_law_e"]) D__law_kind o__law_kind (fun l h hl => aDef_len l h hl) (fun _ _ _ _ _ _ us hl => match us, hl with | [_], _ => rfl) H__law_kind
  have G__law_told := fg__law_told (P := P) (w := w) (base := base) (mg := mg) D__law_told g_repr F_parse_claims FK_parse_claims_0_text EX C_CaprunsError C_SearchError C_ConflictError C_LimitError X__law_kind
  have F__law_told : Fn P w K mg base 8 "_law_told" m__law_told := Fn.of (ps := ["_law_shown", "_law_named"]) D__law_told o__law_told (fun l h hl => aDef_len l h hl) (fun _ _ _ _ _ _ us hl => match us, hl with | [_, _], _ => rfl) G__law_told
  have G__law_right := fg__law_right (P := P) (w := w) (base := base) (mg := mg) D__law_right g_isinstance g_repr g_str F__law_told F__law_readable
  have F__law_right : Fn P w K mg base 9 "_law_right" m__law_right := Fn.of (ps := ["_law_shown"]) D__law_right o__law_right (fun l h hl => aDef_len l h hl) (fun _ _ _ _ _ _ us hl => match us, hl with | [_], _ => rfl) G__law_right
  have G__law_bent := fg__law_bent (P := P) (w := w) (base := base) (mg := mg) D__law_bent g_len F__law_draw
  have F__law_bent : Fn P w K mg base 2 "_law_bent" m__law_bent := Fn.of (ps := ["_law_purse_here", "_law_shown"]) D__law_bent o__law_bent (fun l h hl => aDef_len l h hl) (fun _ _ _ _ _ _ us hl => match us, hl with | [_, _], _ => rfl) G__law_bent
  have G__law_by_hand := fg__law_by_hand (P := P) (w := w) (base := base) (mg := mg) D__law_by_hand g_all g_range F__law_right
  have F__law_by_hand : Fn P w K mg base 10 "_law_by_hand" m__law_by_hand := Fn.of (ps := []) D__law_by_hand o__law_by_hand (fun l h hl => aDef_len l h hl) (fun _ _ _ _ _ _ us hl => match us, hl with | [], _ => rfl) G__law_by_hand
  exact fg_law D_law g_len g_max g_min g_range F__law_right F__law_bent F__law_written F__law_some F__law_purse F__law_cell F__law_by_hand
end AIL
namespace AIL
open PySem PySem.Spec PyProof.Rows L2 AI
section
variable {e : AHeap} {b : Nat}
theorem draw_spec {h : AHeap} {n : Nat} {s : Int} (hh : HI e b h) (hn : n < b) (h0 : 0 < s) (h1 : s < 1073741824) :
    Ens (m__law_draw [.ref n, .int s] h) fun v h' => (∃ r, v = .int r ∧ 0 ≤ r ∧ r < s) ∧ HI e b h' := by
  obtain ⟨a, d, t, e9, hd⟩ := hh.at hn
  have hn9 : n < h.length := by have := hh.len; omega
  refine en_def rfl ?_
  have c1 : ∀ x : Int, cMul a (x % 45007 + 31019) = true := fun x => by
    have := Int.emod_nonneg x (show (45007 : Int) ≠ 0 by decide)
    have := Int.emod_lt_of_pos x (show (0 : Int) < 45007 by decide)
    unfold cMul
    simp only [Bool.or_eq_true, decide_eq_true_eq]
    right; omega
  have c2 : ∀ x : Int, cMul 90007 x = true := fun x => by unfold cMul; simp
  have c3 : ∀ x : Int, cMod x 2147483399 = true := fun _ => rfl
  have c4 : ∀ x : Int, cMod x 45007 = true := fun _ => rfl
  have c5 : ∀ x : Int, cMod x s = true := fun _ => by unfold cMod; simpa using h0
  have c6 : ∀ x : Int, cDiv x s = true := fun _ => by unfold cDiv; simp; omega
  have c7 : ∀ x : Int, cDiv x 64 = true := fun _ => rfl
  have e1 : ∀ x, (h.set n x)[n]? = some x := fun x => List.getElem?_set_self hn9
  have i0 : ixN 3 0 = some 0 := rfl
  have i1 : ixN 3 1 = some 1 := rfl
  have i2 : ixN 3 2 = some 2 := rfl
  have v0 : ∀ {h' : AHeap} {p q r : AV}, h'[n]? = some (AO.list [p, q, r]) → vIxA h' (.ref n) (.int 0) = some p := fun e => by rw [vIxA_rl e]; rfl
  have v1 : ∀ {h' : AHeap} {p q r : AV}, h'[n]? = some (AO.list [p, q, r]) → vIxA h' (.ref n) (.int 1) = some q := fun e => by rw [vIxA_rl e]; rfl
  have v2 : ∀ {h' : AHeap} {p q r : AV}, h'[n]? = some (AO.list [p, q, r]) → vIxA h' (.ref n) (.int 2) = some r := fun e => by rw [vIxA_rl e]; rfl
  simp only [en_bind, en_ok, en_bad, en_lift, en_var, en_c, en_bin, en_un, en_test, en_chain, en_andT, en_orT, en_notT, en_and, en_or, en_not, en_if, en_nil, en_cons, en_tup, en_list, en_pureL, en_newL, en_fn, en_call, en_callK, en_methS, en_oN, en_oS, en_sl, en_rng1, en_iter, en_lc, es_seq, es_skip, es_ret, es_retN, es_if, es_asg, es_par2, es_for, eg_name, eg_nil, eg_cons, eg_tup, eg_sub, vAdd_ii, vAdd_ss, vAdd_ll, vSub_ii, vMul_ii, vDiv_ii, vMod_ii, vLt_ii, vLe_ii, vGt_ii, vGe_ii, vEq_ii, vEq_ss, vNe_ii, vNe_ss, vIx_t, vIx_l, vIx_s, vIx_r, vLen_s, vLen_t, vLen_l, vLen_r, es_drop, es_bad, es_try0, en_listOf, en_methO, es_setL1, es_setL0, en_set0, en_fmt, en_joinN, en_joinC, en_enum, en_sortS, en_split, en_rng2, vIxA_t, vIxA_l, vIxA_s, vLenA_s, vLenA_t, vLenA_l, vMulA_ii, List.getElem?_cons_zero, List.getElem?_cons_succ, List.set_cons_zero, List.set_cons_succ, Option.some.injEq, AV.int.injEq, AV.bl.injEq, AV.str.injEq, AV.ref.injEq, AV.tup.injEq, AV.lst.injEq, AO.list.injEq, List.cons.injEq, exists_eq_left', exists_eq_left, exists_and_left, List.map_cons, List.map_nil, List.replicate, List.cons_append, List.nil_append, and_true, true_and, if_true, Nat.sub_self, ite_true, List.length_cons, List.length_nil, Nat.zero_add, Nat.reduceAdd, Nat.reduceSub, List.length_set, e9, e1, v0 e9, v1 e9, v2 e9, v0 (e1 _), v1 (e1 _), v2 (e1 _), i0, i1, i2, c1, c2, c3, c4, c5, c6, c7, vDivmod, List.set_set]
  by_cases hp : 0 < d
  · rw [if_pos (by simpa using hp)]
    refine ⟨_, _, ⟨rfl, rfl⟩, _, _, rfl, rfl, by simp, ⟨_, rfl, Int.emod_nonneg _ (by omega), Int.emod_lt_of_pos _ h0⟩, hh.set hn (Int.ediv_nonneg hd (by omega))⟩
  · rw [if_neg (by simpa using hp)]
    exact ⟨by simp, ⟨Int.emod_nonneg _ (by omega), Int.emod_lt_of_pos _ h0⟩, hh.set hn hd⟩
end
section
variable {e : AHeap} {b : Nat}
theorem erase_perm {α : Type} : ∀ {l : List α} {j : Nat} (hj : j < l.length), (l[j] :: l.eraseIdx j).Perm l
  | x :: l, 0, _ => .refl _
  | x :: l, j + 1, hj => (List.Perm.swap x (l[j]'(by simpa using hj)) _).trans ((erase_perm (l := l) (j := j) (by simpa using hj)).cons x)
/-- x stands for the list l -/
def Src (e : AHeap) (b : Nat) (x : AV) (l : List AV) : Prop := x = .lst l ∨ ∃ i, x = .ref (b + i) ∧ e[i]? = some (.list l)
theorem Src.seq {x : AV} {l : List AV} {e' : AHeap} {h : AHeap} (s : Src e b x l) (hh : HI (e ++ e') b h) : seqX h x = some l ∧ vLenA h [x] = some (.int l.length) := by
  rcases s with rfl | ⟨i, rfl, ei⟩
  · exact ⟨rfl, rfl⟩
  · have hi : i < e.length := (List.getElem?_eq_some_iff.mp ei).1
    have : h[b + i]? = some (.list l) := by
      rw [hh.atE rfl, List.getElem?_append_left hi]; exact ei
    refine ⟨?_, vLenA_rl this⟩
    show seqL h (.ref (b + i)) = some l
    unfold seqL
    dsimp only
    rw [this]
theorem iInts_len : ∀ (i : Int) (n : Nat), (iInts i n).length = n := by
  intro i n
  simp [iInts]
theorem szOk_le {α : Type} {s : List α} (hl : s.length ≤ 10000) : szOk s = true := by
  unfold szOk
  exact decide_eq_true (le_line (by unfold szM; omega))
theorem shuf_spec {h : AHeap} {n : Nat} {x : AV} {l : List AV} (hh : HI e b h) (hc : e.all (AO.closed 0) = true) (hn : n < b) (hx : Src e b x l) (hcl : AV.closeds 0 l = true) (hl : l.length ≤ 10000) :
    Ens (m__law_shuffled [.ref n, x] h) fun v h' => (∃ l', v = .lst l' ∧ l'.Perm l) ∧ HI e b h' := by
  have hlen := hh.len
  refine en_defH rfl hc hh ?_
  have s0 := hx.seq (e' := []) (h := h) (by simpa using hh)
  have h1 : HI (e ++ [.list l]) b (h ++ [.list l]) := hh.push _
  have h2 : HI (e ++ [.list l, .list []]) b (h ++ [.list l] ++ [.list []]) := by simpa using h1.push [.list []]
  have s2 := hx.seq h2
  simp only [en_bind, en_ok, en_bad, en_lift, en_var, en_c, en_bin, en_un, en_test, en_chain, en_andT, en_orT, en_notT, en_and, en_or, en_not, en_if, en_nil, en_cons, en_tup, en_list, en_pureL, en_newL, en_fn, en_call, en_callK, en_methS, en_oN, en_oS, en_sl, en_rng1, en_iter, en_lc, es_seq, es_skip, es_ret, es_retN, es_if, es_asg, es_par2, es_for, eg_name, eg_nil, eg_cons, eg_tup, eg_sub, es_drop, es_bad, es_try0, en_listOf, en_methO, es_setL1, es_setL0, en_set0, en_fmt, en_joinN, en_joinC, en_enum, en_sortS, en_split, en_rng2, vIxA_t, vIxA_l, vIxA_s, vLenA_s, vLenA_t, vLenA_l, vMulA_ii, List.getElem?_cons_zero, List.getElem?_cons_succ, List.set_cons_zero, List.set_cons_succ, Option.some.injEq, AV.int.injEq, AV.bl.injEq, AV.str.injEq, AV.ref.injEq, AV.tup.injEq, AV.lst.injEq, AO.list.injEq, List.cons.injEq, exists_eq_left', exists_eq_left, exists_and_left, List.map_cons, List.map_nil, List.replicate, List.cons_append, List.nil_append, and_true, true_and, if_true, Nat.sub_self, ite_true, List.length_cons, List.length_nil, Nat.zero_add, Nat.reduceAdd, Nat.reduceSub, List.length_set, s0.1, s2.2]
  refine ⟨rfl, _, _, ⟨rfl, rfl⟩, by unfold AI.inR; simp; omega, ?_⟩
  rw [show (h ++ [AO.list l]).length = h.length + 1 by simp]
  refine es_loop (fun r ρ h' => ∃ left found w, ρ = [some (.ref n), some x, some (.ref h.length), some (.ref (h.length + 1)), w] ∧ HI (e ++ [.list left, .list found]) b h' ∧ left.length = r.length ∧ (left ++ found).Perm l) (fun v r ρ h' => ?_) (fun ρ h' => ?_) ?_
  · rintro ⟨left, found, w, rfl, hI, hL, hP⟩
    have hl2 := hI.len
    have f0 : h'[h.length]? = some (.list left) := by rw [hI.atE (show h.length = b + e.length by omega)]; simp
    have f1 : h'[h.length + 1]? = some (.list found) := by rw [hI.atE (show h.length + 1 = b + (e.length + 1) by omega)]; simp
    simp only [en_bind, en_ok, en_bad, en_lift, en_var, en_c, en_bin, en_un, en_test, en_chain, en_andT, en_orT, en_notT, en_and, en_or, en_not, en_if, en_nil, en_cons, en_tup, en_list, en_pureL, en_newL, en_fn, en_call, en_callK, en_methS, en_oN, en_oS, en_sl, en_rng1, en_iter, en_lc, es_seq, es_skip, es_ret, es_retN, es_if, es_asg, es_par2, es_for, eg_name, eg_nil, eg_cons, eg_tup, eg_sub, es_drop, es_bad, es_try0, en_listOf, en_methO, es_setL1, es_setL0, en_set0, en_fmt, en_joinN, en_joinC, en_enum, en_sortS, en_split, en_rng2, vIxA_t, vIxA_l, vIxA_s, vLenA_s, vLenA_t, vLenA_l, vMulA_ii, List.getElem?_cons_zero, List.getElem?_cons_succ, List.set_cons_zero, List.set_cons_succ, Option.some.injEq, AV.int.injEq, AV.bl.injEq, AV.str.injEq, AV.ref.injEq, AV.tup.injEq, AV.lst.injEq, AO.list.injEq, List.cons.injEq, exists_eq_left', exists_eq_left, exists_and_left, List.map_cons, List.map_nil, List.replicate, List.cons_append, List.nil_append, and_true, true_and, if_true, Nat.sub_self, ite_true, List.length_cons, List.length_nil, Nat.zero_add, Nat.reduceAdd, Nat.reduceSub, List.length_set, f0, f1, isL, vLenA_rl f0, eg_name]
    have hpos : 0 < left.length := by rw [hL]; simp
    have hle : left.length ≤ 10000 := by have := hP.length_eq; rw [List.length_append] at this; omega
    refine (draw_spec hI hn (s := left.length) (by omega) (by omega)).mono ?_
    rintro v1 h3 ⟨⟨q, rfl, q0, q1⟩, hI3⟩
    have f3 : h3[h.length]? = some (.list left) := by rw [hI3.atE (show h.length = b + e.length by omega)]; simp
    obtain ⟨j, rfl⟩ := Int.eq_ofNat_of_zero_le q0
    have hj : j < left.length := by omega
    have o1 : opPopAt h3 [.int (j : Int)] (.list left) = some (left[j], .list (left.eraseIdx j)) := by
      unfold opPopAt
      dsimp only
      rw [if_pos (by simp; omega)]
      have : seqIndex? (j : Int) left.length = some j := by
        unfold seqIndex?
        simp only [show ¬ ((j : Int) < 0) by omega, if_false]
        simp; omega
      rw [this]; dsimp only
      rw [List.getElem?_eq_getElem hj]
    refine ⟨_, f3, _, _, o1, ?_⟩
    have hI4 : HI (e ++ [.list (left.eraseIdx j), .list found]) b (h3.set h.length (.list (left.eraseIdx j))) := by
      have := hI3.setE (i := e.length) (o := .list (left.eraseIdx j)) (show h.length = b + e.length by omega)
      rwa [List.set_append_right _ _ (by omega), show e.length - e.length = 0 by omega] at this
    have f4 : (h3.set h.length (.list (left.eraseIdx j)))[h.length + 1]? = some (.list found) := by rw [hI4.atE (show h.length + 1 = b + (e.length + 1) by omega)]; simp
    have o2 : opAppend (h3.set h.length (.list (left.eraseIdx j))) [left[j]] (.list found) = some (.non, .list (found ++ [left[j]])) := by
      unfold opAppend
      dsimp only
      rw [if_pos]
      have := hP.length_eq; rw [List.length_append] at this
      unfold szM; simp; omega
    refine ⟨_, f4, _, _, o2, left.eraseIdx j, found ++ [left[j]], ?_, ?_, ?_⟩
    · have := hI4.setE (i := e.length + 1) (o := .list (found ++ [left[j]])) (show h.length + 1 = b + (e.length + 1) by omega)
      rwa [List.set_append_right _ _ (by omega), show e.length + 1 - e.length = 1 by omega] at this
    · rw [List.length_eraseIdx_of_lt hj, hL]; simp
    · refine List.Perm.trans ?_ hP
      have p1 : left.Perm (left[j] :: left.eraseIdx j) := (erase_perm hj).symm
      have p2 : (left.eraseIdx j ++ (found ++ [left[j]])).Perm (left[j] :: (left.eraseIdx j ++ found)) := by
        rw [← List.append_assoc]
        exact List.perm_append_singleton _ _
      exact p2.trans (p1.symm.append_right found)
  · rintro ⟨left, found, w, rfl, hI, hL, hP⟩
    have hl0 : left = [] := List.eq_nil_of_length_eq_zero (by simpa using hL)
    subst hl0
    rw [List.nil_append] at hP
    have f1 : h'[h.length + 1]? = some (.list found) := by rw [hI.atE (show h.length + 1 = b + (e.length + 1) by omega)]; simp
    simp only [en_bind, en_ok, en_bad, en_lift, en_var, en_c, en_bin, en_un, en_test, en_chain, en_andT, en_orT, en_notT, en_and, en_or, en_not, en_if, en_nil, en_cons, en_tup, en_list, en_pureL, en_newL, en_fn, en_call, en_callK, en_methS, en_oN, en_oS, en_sl, en_rng1, en_iter, en_lc, es_seq, es_skip, es_ret, es_retN, es_if, es_asg, es_par2, es_for, eg_name, eg_nil, eg_cons, eg_tup, eg_sub, es_drop, es_bad, es_try0, en_listOf, en_methO, es_setL1, es_setL0, en_set0, en_fmt, en_joinN, en_joinC, en_enum, en_sortS, en_split, en_rng2, vIxA_t, vIxA_l, vIxA_s, vLenA_s, vLenA_t, vLenA_l, vMulA_ii, List.getElem?_cons_zero, List.getElem?_cons_succ, List.set_cons_zero, List.set_cons_succ, Option.some.injEq, AV.int.injEq, AV.bl.injEq, AV.str.injEq, AV.ref.injEq, AV.tup.injEq, AV.lst.injEq, AO.list.injEq, List.cons.injEq, exists_eq_left', exists_eq_left, exists_and_left, List.map_cons, List.map_nil, List.replicate, List.cons_append, List.nil_append, and_true, true_and, if_true, Nat.sub_self, ite_true, List.length_cons, List.length_nil, Nat.zero_add, Nat.reduceAdd, Nat.reduceSub, List.length_set]
    exact ⟨_, hI, .lst found, .list (by omega) f1 (closeds_all fun v hv => closeds_mem hcl v (hP.mem_iff.mp hv)), fun h2 k => ⟨⟨_, rfl, hP⟩, k⟩⟩
  · exact ⟨l, [], _, rfl, by simpa using h2, by simp [iInts_len], by simp⟩
end
/-! ### the functions that are asked, the law's own ones -/
abbrev ABC : List Nat := [97, 98, 99, 100, 101, 102, 103, 104, 105, 106, 107, 108, 109, 110, 111, 112, 113, 114, 115, 116, 117, 118, 119, 120, 121, 122]
def nmS (s : List Nat) : Bool := decide (1 ≤ s.length) && (decide (s.length ≤ 6) && s.all fun c => decide (c ∈ ABC))
def nm : AV → Bool
  | .str s => nmS s
  | _ => false
def tagged : AV → Bool
  | .ref _ => false
  | .ty _ => false
  | .gl _ => false
  | .exn _ _ _ => false
  | .ins _ _ _ => false
  | _ => true
def tg : AV → Tag
  | .non => .non | .bl _ => .bl | .int _ => .int | .str _ => .str | .tup _ => .tup | .lst _ => .lst | .dct _ _ => .dct | _ => .non
theorem tag_of {h : AHeap} {v : AV} (t : tagged v = true) : tagOf h v = some (tg v) := by
  cases v <;> first | rfl | cases t
/-- a value that is_variable may be asked about -/
def Atm (v : AV) : Prop := tagged v = true ∧ ∀ s, v = .str s → s.length ≤ 10000
theorem szK {n : Nat} (h : n ≤ 10000) : decide (n ≤ szM) = true := decide_eq_true (by unfold szM; omega)
theorem isi {h : AHeap} {v : AV} {t : Tag} (a : Atm v) (ht : t ≠ .non) : vIsi h [v, .ty t] = some (.bl (isT (tg v) t)) := vIsi_v ht (tag_of a.1)
def isAbc : AV → AV
  | .str [c] => .bl (decide (c ∈ ABC))
  | _ => .non
theorem bools_map (f : Nat → Bool) : ∀ s : List Nat, bools? (s.map fun c => AV.bl (f c)) = some (s.map f)
  | [] => rfl
  | c :: s => by
    rw [List.map_cons]
    show (bools? (s.map fun c => AV.bl (f c))).map (f c :: ·) = _
    rw [bools_map f s]; rfl
theorem all_abc {h : AHeap} (s : List Nat) : vAll h [.lst ((s.map fun c => AV.str [c]).map isAbc)] = some (.bl (s.all fun c => decide (c ∈ ABC))) := by
  have e : (s.map fun c => AV.str [c]).map isAbc = s.map fun c => AV.bl (decide (c ∈ ABC)) := by
    rw [List.map_map]; rfl
  rw [e]
  show (bools? (s.map fun c => AV.bl (decide (c ∈ ABC)))).map (fun bs => AV.bl (bs.all _root_.id)) = _
  rw [bools_map]
  simp [List.all_map]
theorem abc_comp {ρ : AEnv} {h : AHeap} {s : List Nat} {f : AE} (hl : s.length ≤ 10000) (hf : ∀ c ρ1, ρ1[1]? = some (some (.str [c])) → f ρ1 h = .ok (.bl (decide (c ∈ ABC))) h) (hr : ρ.length = 2) :
    lcL (agName 1) aYes f (s.map fun c => .str [c]) ρ h = .ok ((s.map fun c => AV.str [c]).map isAbc) h := by
  refine lcL_map isAbc fun v hv => ?_
  obtain ⟨c, _, rfl⟩ := List.mem_map.mp hv
  exact ⟨_, rfl, hf c _ (List.getElem?_set_self (by omega))⟩
theorem in_abc {h : AHeap} {c : Nat} : vInA h (.str [c]) (.str ABC) = some (.bl (decide (c ∈ ABC))) := rfl
theorem szOk_map {α β : Type} {s : List α} {f : α → β} (hl : s.length ≤ 10000) : szOk (s.map f) = true := by
  unfold szOk
  rw [List.length_map]
  exact decide_eq_true (le_line (by unfold szM; omega))
theorem name1 {h : AHeap} {v : AV} (a : Atm v) : m_is_name [v] h = .ok (.bl (nm v)) h := by
  refine Ens.eq (en_def rfl ?_)
  have no : tg v ≠ .str → nm v = false := fun z => by cases v <;> first | rfl | exact absurd rfl z
  simp only [en_bind, en_ok, en_bad, en_lift, en_var, en_c, en_bin, en_un, en_test, en_chain, en_andT, en_orT, en_notT, en_and, en_or, en_not, en_if, en_nil, en_cons, en_tup, en_list, en_pureL, en_newL, en_fn, en_call, en_callK, en_methS, en_oN, en_oS, en_sl, en_rng1, en_iter, en_lc, es_seq, es_skip, es_ret, es_retN, es_if, es_asg, es_par2, es_for, eg_name, eg_nil, eg_cons, eg_tup, eg_sub, vAdd_ii, vAdd_ss, vAdd_ll, vSub_ii, vMul_ii, vDiv_ii, vMod_ii, vLt_ii, vLe_ii, vGt_ii, vGe_ii, vEq_ii, vEq_ss, vNe_ii, vNe_ss, vIx_t, vIx_l, vIx_s, vIx_r, vLen_s, vLen_t, vLen_l, vLen_r, es_drop, es_bad, es_try0, en_listOf, en_methO, es_setL1, es_setL0, en_set0, en_fmt, en_joinN, en_joinC, en_enum, en_sortS, en_split, en_rng2, vIxA_t, vIxA_l, vIxA_s, vLenA_s, vLenA_t, vLenA_l, vMulA_ii, List.getElem?_cons_zero, List.getElem?_cons_succ, List.set_cons_zero, List.set_cons_succ, Option.some.injEq, AV.int.injEq, AV.bl.injEq, AV.str.injEq, AV.ref.injEq, AV.tup.injEq, AV.lst.injEq, AO.list.injEq, List.cons.injEq, exists_eq_left', exists_eq_left, exists_and_left, List.map_cons, List.map_nil, List.replicate, List.cons_append, List.nil_append, and_true, true_and, if_true, Nat.sub_self, ite_true, List.length_cons, List.length_nil, Nat.zero_add, Nat.reduceAdd, Nat.reduceSub, List.length_set, isi a (t := .str) (by decide)]
  by_cases ht : tg v = .str
  · obtain ⟨s, rfl⟩ : ∃ s, v = .str s := by cases v <;> first | exact ⟨_, rfl⟩ | cases ht | cases a.1
    have hl := a.2 s rfl
    have b : isT (tg (.str s)) .str = true := rfl
    simp only [b, if_true, List.getElem?_cons_zero, List.getElem?_cons_succ, List.set_cons_zero, List.set_cons_succ, Option.some.injEq, AV.int.injEq, AV.bl.injEq, AV.str.injEq, AV.ref.injEq, AV.tup.injEq, AV.lst.injEq, AO.list.injEq, List.cons.injEq, exists_eq_left', exists_eq_left, exists_and_left, List.map_cons, List.map_nil, List.replicate, List.cons_append, List.nil_append, and_true, true_and, if_true, Nat.sub_self, ite_true, List.length_cons, List.length_nil, Nat.zero_add, Nat.reduceAdd, Nat.reduceSub, List.length_set, vAdd_ii, vAdd_ss, vAdd_ll, vSub_ii, vMul_ii, vDiv_ii, vMod_ii, vLt_ii, vLe_ii, vGt_ii, vGe_ii, vEq_ii, vEq_ss, vNe_ii, vNe_ss, vIx_t, vIx_l, vIx_s, vIx_r, vLen_s, vLen_t, vLen_l, vLen_r, es_drop, es_bad, es_try0, en_listOf, en_methO, es_setL1, es_setL0, en_set0, en_fmt, en_joinN, en_joinC, en_enum, en_sortS, en_split, en_rng2, vIxA_t, vIxA_l, vIxA_s, vLenA_s, vLenA_t, vLenA_l, vMulA_ii, szK hl, itemsOf, szOk_map hl]
    by_cases h1 : (1 : Int) ≤ s.length
    · simp only [decide_eq_true h1, if_true, List.getElem?_cons_zero, List.getElem?_cons_succ, List.set_cons_zero, List.set_cons_succ, Option.some.injEq, AV.int.injEq, AV.bl.injEq, AV.str.injEq, AV.ref.injEq, AV.tup.injEq, AV.lst.injEq, AO.list.injEq, List.cons.injEq, exists_eq_left', exists_eq_left, exists_and_left, List.map_cons, List.map_nil, List.replicate, List.cons_append, List.nil_append, and_true, true_and, if_true, Nat.sub_self, ite_true, List.length_cons, List.length_nil, Nat.zero_add, Nat.reduceAdd, Nat.reduceSub, List.length_set]
      by_cases h2 : (s.length : Int) ≤ 6
      · simp only [decide_eq_true h2, if_true, List.getElem?_cons_zero, List.getElem?_cons_succ, List.set_cons_zero, List.set_cons_succ, Option.some.injEq, AV.int.injEq, AV.bl.injEq, AV.str.injEq, AV.ref.injEq, AV.tup.injEq, AV.lst.injEq, AO.list.injEq, List.cons.injEq, exists_eq_left', exists_eq_left, exists_and_left, List.map_cons, List.map_nil, List.replicate, List.cons_append, List.nil_append, and_true, true_and, if_true, Nat.sub_self, ite_true, List.length_cons, List.length_nil, Nat.zero_add, Nat.reduceAdd, Nat.reduceSub, List.length_set]
        rw [abc_comp hl (fun c ρ1 e => by simp only [aBin, aVar, e, aC, Res.bind, v_LETTERS, in_abc, lift1]) rfl]
        rw [en_ok]
        simp only [all_abc, List.getElem?_cons_zero, List.getElem?_cons_succ, List.set_cons_zero, List.set_cons_succ, Option.some.injEq, AV.int.injEq, AV.bl.injEq, AV.str.injEq, AV.ref.injEq, AV.tup.injEq, AV.lst.injEq, AO.list.injEq, List.cons.injEq, exists_eq_left', exists_eq_left, exists_and_left, List.map_cons, List.map_nil, List.replicate, List.cons_append, List.nil_append, and_true, true_and, if_true, Nat.sub_self, ite_true, List.length_cons, List.length_nil, Nat.zero_add, Nat.reduceAdd, Nat.reduceSub, List.length_set]
        refine ⟨Nat.le_refl _, ?_⟩
        show (s.all fun c => decide (c ∈ ABC)) = nmS s
        unfold nmS
        rw [decide_eq_true (show 1 ≤ s.length by omega), decide_eq_true (show s.length ≤ 6 by omega)]
        rfl
      · simp only [decide_eq_false h2, Bool.false_eq_true, if_false, List.getElem?_cons_zero, List.getElem?_cons_succ, List.set_cons_zero, List.set_cons_succ, Option.some.injEq, AV.int.injEq, AV.bl.injEq, AV.str.injEq, AV.ref.injEq, AV.tup.injEq, AV.lst.injEq, AO.list.injEq, List.cons.injEq, exists_eq_left', exists_eq_left, exists_and_left, List.map_cons, List.map_nil, List.replicate, List.cons_append, List.nil_append, and_true, true_and, if_true, Nat.sub_self, ite_true, List.length_cons, List.length_nil, Nat.zero_add, Nat.reduceAdd, Nat.reduceSub, List.length_set]
        refine ⟨Nat.le_refl _, ?_⟩
        show false = nmS s
        unfold nmS
        rw [decide_eq_false (show ¬ s.length ≤ 6 by omega)]
        simp
    · simp only [decide_eq_false h1, Bool.false_eq_true, if_false, List.getElem?_cons_zero, List.getElem?_cons_succ, List.set_cons_zero, List.set_cons_succ, Option.some.injEq, AV.int.injEq, AV.bl.injEq, AV.str.injEq, AV.ref.injEq, AV.tup.injEq, AV.lst.injEq, AO.list.injEq, List.cons.injEq, exists_eq_left', exists_eq_left, exists_and_left, List.map_cons, List.map_nil, List.replicate, List.cons_append, List.nil_append, and_true, true_and, if_true, Nat.sub_self, ite_true, List.length_cons, List.length_nil, Nat.zero_add, Nat.reduceAdd, Nat.reduceSub, List.length_set]
      refine ⟨Nat.le_refl _, ?_⟩
      show false = nmS s
      unfold nmS
      rw [decide_eq_false (show ¬ 1 ≤ s.length by omega)]
      rfl
  · have b : isT (tg v) .str = false := by
      unfold isT
      rw [decide_eq_false ht]; simp
    simp only [b, Bool.false_eq_true, if_false, no ht]
    simp
/-! variables -/
def endQ (s : List Nat) : Bool := decide (AI.cutL s (some (-1)) none = [39])
def cutE (s : List Nat) : List Nat := AI.cutL s none (some (-1))
theorem cutE_len (s : List Nat) : (cutE s).length ≤ s.length := by
  unfold cutE AI.cutL
  simp only [List.length_take, List.length_drop]
  omega
theorem ends_eq (s : List Nat) : Txt.endswith (sOf s) (sOf [39]) = endQ s := by
  unfold endQ Txt.endswith
  have hl : (sOf s).length = s.length := by simp [PySem.Str.length]
  have h1 : (sOf [39]).length = 1 := rfl
  rw [hl, h1]
  rcases List.eq_nil_or_concat s with rfl | ⟨t, c, rfl⟩
  · rfl
  · rw [List.concat_eq_append]
    have e : AI.cutL (t ++ [c]) (some (-1)) none = [c] := by
      unfold AI.cutL HT.sIx
      have z : ((-1 : Int) + ((t ++ [c]).length : Int)).toNat = t.length := by simp; omega
      simp only [show ((-1 : Int) < 0) = True by simp, if_true, z]
      simp
    rw [e]
    have e2 : Builtin.Str.subAt (sOf (t ++ [c])) (sOf [39]) ((t ++ [c]).length - 1) = decide (c = 39) := by
      unfold Builtin.Str.subAt
      have z : (sOf (t ++ [c])).cps.extract ((t ++ [c]).length - 1) ((t ++ [c]).length - 1 + (sOf [39]).length) = #[c] := by
        apply Array.ext'
        simp [h1]
      rw [z]
      by_cases hc : c = 39
      · subst hc; rfl
      · rw [decide_eq_false hc]
        simp [hc]
    rw [e2]
    simp
def vrS (s : List Nat) : Bool := nmS (if endQ s = true then cutE s else s)
def vr : AV → Bool
  | .str s => vrS s
  | _ => false
theorem atm_str {s : List Nat} (h : s.length ≤ 10000) : Atm (.str s) := ⟨rfl, fun _ e => by cases e; exact h⟩
theorem var1 {h : AHeap} {v : AV} (a : Atm v) : m_is_variable [v] h = .ok (.bl (vr v)) h := by
  refine Ens.eq (en_def rfl ?_)
  have no : tg v ≠ .str → vr v = false := fun z => by cases v <;> first | rfl | exact absurd rfl z
  simp only [en_bind, en_ok, en_bad, en_lift, en_var, en_c, en_bin, en_un, en_test, en_chain, en_andT, en_orT, en_notT, en_and, en_or, en_not, en_if, en_nil, en_cons, en_tup, en_list, en_pureL, en_newL, en_fn, en_call, en_callK, en_methS, en_oN, en_oS, en_sl, en_rng1, en_iter, en_lc, es_seq, es_skip, es_ret, es_retN, es_if, es_asg, es_par2, es_for, eg_name, eg_nil, eg_cons, eg_tup, eg_sub, vAdd_ii, vAdd_ss, vAdd_ll, vSub_ii, vMul_ii, vDiv_ii, vMod_ii, vLt_ii, vLe_ii, vGt_ii, vGe_ii, vEq_ii, vEq_ss, vNe_ii, vNe_ss, vIx_t, vIx_l, vIx_s, vIx_r, vLen_s, vLen_t, vLen_l, vLen_r, es_drop, es_bad, es_try0, en_listOf, en_methO, es_setL1, es_setL0, en_set0, en_fmt, en_joinN, en_joinC, en_enum, en_sortS, en_split, en_rng2, vIxA_t, vIxA_l, vIxA_s, vLenA_s, vLenA_t, vLenA_l, vMulA_ii, List.getElem?_cons_zero, List.getElem?_cons_succ, List.set_cons_zero, List.set_cons_succ, Option.some.injEq, AV.int.injEq, AV.bl.injEq, AV.str.injEq, AV.ref.injEq, AV.tup.injEq, AV.lst.injEq, AO.list.injEq, List.cons.injEq, exists_eq_left', exists_eq_left, exists_and_left, List.map_cons, List.map_nil, List.replicate, List.cons_append, List.nil_append, and_true, true_and, if_true, Nat.sub_self, ite_true, List.length_cons, List.length_nil, Nat.zero_add, Nat.reduceAdd, Nat.reduceSub, List.length_set, isi a (t := .str) (by decide)]
  by_cases ht : tg v = .str
  · obtain ⟨s, rfl⟩ : ∃ s, v = .str s := by cases v <;> first | exact ⟨_, rfl⟩ | cases ht | cases a.1
    have hl := a.2 s rfl
    have b : isT (tg (.str s)) .str = true := rfl
    have ve : vEnds s h [.str [39]] = some (.bl (endQ s)) := by rw [← ends_eq]; rfl
    have vn : vNeg h (.int 1) = some (.int (-1)) := rfl
    have vs : vSl h (.str s) none (some (-1)) = some (.str (cutE s)) := by
      show (if decide (s.length ≤ szM) = true then some (AV.str (AI.cutL s none (some (-1)))) else none) = _
      rw [if_pos (szK hl)]; rfl
    simp only [b, Bool.not_true, Bool.not_false, Bool.false_eq_true, if_false, if_true, List.getElem?_cons_zero, List.getElem?_cons_succ, List.set_cons_zero, List.set_cons_succ, Option.some.injEq, AV.int.injEq, AV.bl.injEq, AV.str.injEq, AV.ref.injEq, AV.tup.injEq, AV.lst.injEq, AO.list.injEq, List.cons.injEq, exists_eq_left', exists_eq_left, exists_and_left, List.map_cons, List.map_nil, List.replicate, List.cons_append, List.nil_append, and_true, true_and, if_true, Nat.sub_self, ite_true, List.length_cons, List.length_nil, Nat.zero_add, Nat.reduceAdd, Nat.reduceSub, List.length_set, ve, vn, vs]
    have hc : (cutE s).length ≤ 10000 := Nat.le_trans (cutE_len s) hl
    by_cases he : endQ s = true
    · rw [if_pos he, name1 (atm_str hc), en_ok]
      refine ⟨Nat.le_refl _, ?_, rfl⟩
      show AV.bl (nmS (cutE s)) = AV.bl (vrS s)
      unfold vrS; rw [if_pos he]
    · rw [if_neg he, name1 (atm_str hl), en_ok]
      refine ⟨Nat.le_refl _, ?_, rfl⟩
      show AV.bl (nmS s) = AV.bl (vrS s)
      unfold vrS; rw [if_neg he]
  · have b : isT (tg v) .str = false := by
      unfold isT
      rw [decide_eq_false ht]; simp
    simp only [b, Bool.not_false, Bool.false_eq_true, if_false, if_true, List.getElem?_cons_zero, List.getElem?_cons_succ, List.set_cons_zero, List.set_cons_succ, Option.some.injEq, AV.int.injEq, AV.bl.injEq, AV.str.injEq, AV.ref.injEq, AV.tup.injEq, AV.lst.injEq, AO.list.injEq, List.cons.injEq, exists_eq_left', exists_eq_left, exists_and_left, List.map_cons, List.map_nil, List.replicate, List.cons_append, List.nil_append, and_true, true_and, if_true, Nat.sub_self, ite_true, List.length_cons, List.length_nil, Nat.zero_add, Nat.reduceAdd, Nat.reduceSub, List.length_set, no ht]
    simp
/-! claims -/
def opS (v : AV) : Bool := match v with
  | .str s => inV (.str (sOf s)) [.str (sOf [60]), .str (sOf [60, 61]), .str (sOf [61])]
  | _ => false
def cl : AV → Bool
  | .tup [a, b, c] => vr a && vr c && opS b
  | _ => false
/-- a value that is_claim may be asked about -/
def Val (v : AV) : Prop := Atm v ∧ ∀ l, v = .tup l → ∀ x ∈ l, Atm x
theorem op_in {h : AHeap} {s : List Nat} : vInA h (.str s) v_OPERATORS = some (.bl (opS (.str s))) := rfl
theorem atI3 (a b c : AV) : atI [a, b, c] 0 = some a ∧ atI [a, b, c] 1 = some b ∧ atI [a, b, c] 2 = some c := ⟨rfl, rfl, rfl⟩
theorem cl_no {v : AV} (h : ∀ a b c, v ≠ .tup [a, b, c]) : cl v = false := by
  unfold cl
  split
  · rename_i a b c; exact absurd rfl (h a b c)
  · rfl
theorem len3 {l : List AV} (h : l.length = 3) : ∃ a b c, l = [a, b, c] := by
  match l, h with
  | [a, b, c], _ => exact ⟨a, b, c, rfl⟩
theorem claim1 {h : AHeap} {v : AV} (a : Val v) : m_is_claim [v] h = .ok (.bl (cl v)) h := by
  refine Ens.eq (en_def rfl ?_)
  simp only [en_bind, en_ok, en_bad, en_lift, en_var, en_c, en_bin, en_un, en_test, en_chain, en_andT, en_orT, en_notT, en_and, en_or, en_not, en_if, en_nil, en_cons, en_tup, en_list, en_pureL, en_newL, en_fn, en_call, en_callK, en_methS, en_oN, en_oS, en_sl, en_rng1, en_iter, en_lc, es_seq, es_skip, es_ret, es_retN, es_if, es_asg, es_par2, es_for, eg_name, eg_nil, eg_cons, eg_tup, eg_sub, vAdd_ii, vAdd_ss, vAdd_ll, vSub_ii, vMul_ii, vDiv_ii, vMod_ii, vLt_ii, vLe_ii, vGt_ii, vGe_ii, vEq_ii, vEq_ss, vNe_ii, vNe_ss, vIx_t, vIx_l, vIx_s, vIx_r, vLen_s, vLen_t, vLen_l, vLen_r, es_drop, es_bad, es_try0, en_listOf, en_methO, es_setL1, es_setL0, en_set0, en_fmt, en_joinN, en_joinC, en_enum, en_sortS, en_split, en_rng2, vIxA_t, vIxA_l, vIxA_s, vLenA_s, vLenA_t, vLenA_l, vMulA_ii, List.getElem?_cons_zero, List.getElem?_cons_succ, List.set_cons_zero, List.set_cons_succ, Option.some.injEq, AV.int.injEq, AV.bl.injEq, AV.str.injEq, AV.ref.injEq, AV.tup.injEq, AV.lst.injEq, AO.list.injEq, List.cons.injEq, exists_eq_left', exists_eq_left, exists_and_left, List.map_cons, List.map_nil, List.replicate, List.cons_append, List.nil_append, and_true, true_and, if_true, Nat.sub_self, ite_true, List.length_cons, List.length_nil, Nat.zero_add, Nat.reduceAdd, Nat.reduceSub, List.length_set, isi a.1 (t := .tup) (by decide)]
  by_cases ht : tg v = .tup
  · obtain ⟨l, rfl⟩ : ∃ l, v = .tup l := by cases v <;> first | exact ⟨_, rfl⟩ | cases ht | cases a.1.1
    have b : isT (tg (.tup l)) .tup = true := rfl
    simp only [b, Bool.not_true, Bool.not_false, Bool.false_eq_true, if_false, if_true, List.getElem?_cons_zero, List.getElem?_cons_succ, List.set_cons_zero, List.set_cons_succ, Option.some.injEq, AV.int.injEq, AV.bl.injEq, AV.str.injEq, AV.ref.injEq, AV.tup.injEq, AV.lst.injEq, AO.list.injEq, List.cons.injEq, exists_eq_left', exists_eq_left, exists_and_left, List.map_cons, List.map_nil, List.replicate, List.cons_append, List.nil_append, and_true, true_and, if_true, Nat.sub_self, ite_true, List.length_cons, List.length_nil, Nat.zero_add, Nat.reduceAdd, Nat.reduceSub, List.length_set, vAdd_ii, vAdd_ss, vAdd_ll, vSub_ii, vMul_ii, vDiv_ii, vMod_ii, vLt_ii, vLe_ii, vGt_ii, vGe_ii, vEq_ii, vEq_ss, vNe_ii, vNe_ss, vIx_t, vIx_l, vIx_s, vIx_r, vLen_s, vLen_t, vLen_l, vLen_r, es_drop, es_bad, es_try0, en_listOf, en_methO, es_setL1, es_setL0, en_set0, en_fmt, en_joinN, en_joinC, en_enum, en_sortS, en_split, en_rng2, vIxA_t, vIxA_l, vIxA_s, vLenA_s, vLenA_t, vLenA_l, vMulA_ii]
    by_cases hl : l.length = 3
    · obtain ⟨p, q, r, rfl⟩ := len3 hl
      have hx := a.2 _ rfl
      have ap := hx p (by simp)
      have aq := hx q (by simp)
      have ar := hx r (by simp)
      have n3 : decide (((([p, q, r] : List AV).length : Nat) : Int) = 3) = true := rfl
      have z3 : (([p, q, r] : List AV).length : Int) = 3 := rfl
      simp only [List.getElem?_cons_zero, List.getElem?_cons_succ, List.set_cons_zero, List.set_cons_succ, Option.some.injEq, AV.int.injEq, AV.bl.injEq, AV.str.injEq, AV.ref.injEq, AV.tup.injEq, AV.lst.injEq, AO.list.injEq, List.cons.injEq, exists_eq_left', exists_eq_left, exists_and_left, List.map_cons, List.map_nil, List.replicate, List.cons_append, List.nil_append, and_true, true_and, if_true, Nat.sub_self, ite_true, List.length_cons, List.length_nil, Nat.zero_add, Nat.reduceAdd, Nat.reduceSub, List.length_set, z3, n3, decide_true, Bool.not_true, Bool.false_eq_true, if_false, en_bind, en_ok, en_bad, en_lift, en_var, en_c, en_bin, en_un, en_test, en_chain, en_andT, en_orT, en_notT, en_and, en_or, en_not, en_if, en_nil, en_cons, en_tup, en_list, en_pureL, en_newL, en_fn, en_call, en_callK, en_methS, en_oN, en_oS, en_sl, en_rng1, en_iter, en_lc, es_seq, es_skip, es_ret, es_retN, es_if, es_asg, es_par2, es_for, eg_name, eg_nil, eg_cons, eg_tup, eg_sub]
      rw [if_neg (by simp)]
      refine ⟨_, _, ⟨rfl, rfl⟩, _, _, rfl, _, _, rfl, rfl, ?_⟩
      rw [var1 ap, en_ok]
      refine ⟨_, rfl, ?_⟩
      have ce : cl (.tup [p, q, r]) = (vr p && vr r && opS q) := rfl
      rw [ce]
      cases vr p with
      | false => simp
      | true =>
        rw [if_pos rfl, var1 ar, en_ok]
        refine ⟨_, rfl, ?_⟩
        cases vr r with
        | false => simp
        | true =>
          rw [if_pos rfl]
          refine ⟨_, isi aq (by decide), _, rfl, ?_⟩
          by_cases hs : tg q = .str
          · obtain ⟨s, rfl⟩ : ∃ s, q = .str s := by cases q <;> first | exact ⟨_, rfl⟩ | cases hs | cases aq.1
            rw [if_pos (show isT (tg (.str s)) .str = true from rfl)]
            exact ⟨_, op_in, Nat.le_refl _, rfl, rfl⟩
          · have b2 : isT (tg q) .str = false := by
              unfold isT
              rw [decide_eq_false hs]; simp
            have o2 : opS q = false := by cases q <;> first | rfl | exact absurd rfl hs
            rw [b2, o2]
            simp
    · have n3 : decide (((l.length : Nat) : Int) = 3) = false := decide_eq_false (by omega)
      have c0 : cl (.tup l) = false := cl_no fun x y z e => hl (by cases e; rfl)
      simp only [n3, Bool.not_false, if_true, List.getElem?_cons_zero, List.getElem?_cons_succ, List.set_cons_zero, List.set_cons_succ, Option.some.injEq, AV.int.injEq, AV.bl.injEq, AV.str.injEq, AV.ref.injEq, AV.tup.injEq, AV.lst.injEq, AO.list.injEq, List.cons.injEq, exists_eq_left', exists_eq_left, exists_and_left, List.map_cons, List.map_nil, List.replicate, List.cons_append, List.nil_append, and_true, true_and, if_true, Nat.sub_self, ite_true, List.length_cons, List.length_nil, Nat.zero_add, Nat.reduceAdd, Nat.reduceSub, List.length_set, c0]
      simp
  · have b : isT (tg v) .tup = false := by
      unfold isT
      rw [decide_eq_false ht]; simp
    have c0 : cl v = false := cl_no fun x y z e => ht (by rw [e]; rfl)
    simp only [b, Bool.not_false, Bool.false_eq_true, if_false, if_true, List.getElem?_cons_zero, List.getElem?_cons_succ, List.set_cons_zero, List.set_cons_succ, Option.some.injEq, AV.int.injEq, AV.bl.injEq, AV.str.injEq, AV.ref.injEq, AV.tup.injEq, AV.lst.injEq, AO.list.injEq, List.cons.injEq, exists_eq_left', exists_eq_left, exists_and_left, List.map_cons, List.map_nil, List.replicate, List.cons_append, List.nil_append, and_true, true_and, if_true, Nat.sub_self, ite_true, List.length_cons, List.length_nil, Nat.zero_add, Nat.reduceAdd, Nat.reduceSub, List.length_set, c0]
    simp
/-! ### texts -/
theorem strs_of {p : List Nat → Prop} : ∀ {ys : List AV}, (∀ y ∈ ys, ∃ s, y = AV.str s ∧ p s) → ∃ l : List (List Nat), ys = l.map AV.str ∧ ∀ s ∈ l, p s
  | [], _ => ⟨[], rfl, by simp⟩
  | y :: ys, h => by
    obtain ⟨s, rfl, hs⟩ := h _ (List.mem_cons_self ..)
    obtain ⟨l, rfl, hl⟩ := strs_of (ys := ys) fun z hz => h z (List.mem_cons_of_mem _ hz)
    refine ⟨s :: l, rfl, fun t ht => ?_⟩
    rcases List.mem_cons.mp ht with e | e
    · rw [e]; exact hs
    · exact hl t e
theorem strs_map : ∀ l : List (List Nat), strs? (l.map AV.str) = some (l.map sOf)
  | [] => rfl
  | s :: l => by
    show (strs? (l.map AV.str)).map (sOf s :: ·) = _
    rw [strs_map l]; rfl
theorem joinL_one : ∀ cs : List Nat, TL.joinL [] (cs.map fun c => [c]) = cs
  | [] => rfl
  | [c] => rfl
  | c :: d :: cs => by
    show [c] ++ ([] ++ TL.joinL [] ((d :: cs).map fun c => [c])) = _
    rw [joinL_one (d :: cs)]; rfl
theorem len_sum (l : List (List Nat)) : ((l.map sOf).map (fun (z : PySem.Str) => z.length)).sum = (l.map List.length).sum := by
  induction l with
  | nil => rfl
  | cons s l ih =>
    simp only [List.map_cons, List.sum_cons, ih]
    congr 1
theorem join_all {h : AHeap} {sep : List Nat} {l : List (List Nat)} (hb : (l.map List.length).sum + l.length * sep.length ≤ 16777216) : vJoin sep h [.lst (l.map AV.str)] = some (.str (TL.joinL sep l)) := by
  show (match strs? (l.map AV.str) with
      | some zs => if decide ((zs.map (fun (z : PySem.Str) => z.length)).sum + zs.length * sep.length ≤ 16777216) = true then some (AV.str (Txt.join (sOf sep) zs).cps.toList) else none
      | none => none) = _
  rw [strs_map]
  dsimp only
  have e : Txt.join (sOf sep) (l.map sOf) = SX.S (TL.joinL sep l) := SX.join_S sep l
  rw [if_pos (decide_eq_true (by rw [len_sum, List.length_map]; exact hb)), e]
theorem ones_of {p : Nat → Prop} : ∀ {ys : List AV}, (∀ y ∈ ys, ∃ c, y = AV.str [c] ∧ p c) → ∃ cs : List Nat, ys = (cs.map fun c => [c]).map AV.str ∧ ∀ c ∈ cs, p c
  | [], _ => ⟨[], rfl, by simp⟩
  | y :: ys, h => by
    obtain ⟨c, rfl, hc⟩ := h _ (List.mem_cons_self ..)
    obtain ⟨l, rfl, hl⟩ := ones_of (ys := ys) fun z hz => h z (List.mem_cons_of_mem _ hz)
    refine ⟨c :: l, rfl, fun t ht => ?_⟩
    rcases List.mem_cons.mp ht with e | e
    · rw [e]; exact hc
    · exact hl t e
theorem join_one {h : AHeap} {cs : List Nat} (hl : cs.length ≤ 10000) : vJoin [] h [.lst ((cs.map fun c => [c]).map AV.str)] = some (.str cs) := by
  have hs : ((cs.map fun c => [c]).map List.length).sum = cs.length := by
    clear hl
    induction cs with
    | nil => rfl
    | cons c cs ih => simp only [List.map_cons, List.sum_cons, ih, List.length_cons]; show 1 + _ = _; omega
  rw [join_all (by rw [hs]; simp; omega), joinL_one]
theorem cut_mem {α : Type} {l : List α} {lo hi : Option Int} : ∀ x ∈ AI.cutL l lo hi, x ∈ l := fun x hx => by
  unfold AI.cutL at hx
  exact List.mem_of_mem_drop (List.mem_of_mem_take hx)
theorem cut_len {α : Type} {l : List α} {lo hi : Option Int} : (AI.cutL l lo hi).length ≤ l.length := by
  unfold AI.cutL
  simp only [List.length_take, List.length_drop]
  omega
theorem cut_take {α : Type} {l : List α} {k : Nat} (h : k ≤ l.length) : AI.cutL l none (some (k : Int)) = l.take k := by
  unfold AI.cutL HT.sIx
  have : ¬ ((k : Int) < 0) := by omega
  simp only [this, if_false, Int.toNat_natCast, Nat.min_eq_left h]
  simp
theorem cut_drop {α : Type} {l : List α} {k : Nat} (h : k ≤ l.length) : AI.cutL l (some (k : Int)) none = l.drop k := by
  unfold AI.cutL HT.sIx
  have : ¬ ((k : Int) < 0) := by omega
  simp only [this, if_false, Int.toNat_natCast, Nat.min_eq_left h]
  exact List.take_of_length_le (by simp)
theorem vSl_s {h : AHeap} {s : List Nat} {lo hi : Option Int} (z : s.length ≤ 10000) : vSl h (AV.str s) lo hi = some (AV.str (AI.cutL s lo hi)) := by
  show (if decide (s.length ≤ szM) = true then some (AV.str (AI.cutL s lo hi)) else none) = _
  rw [if_pos (szK z)]
theorem iInts_mem {i : Int} {n : Nat} {v : AV} (h : v ∈ iInts i n) : ∃ k : Nat, v = .int (i + (k : Int)) ∧ k < n := by
  unfold iInts at h
  obtain ⟨k, hk, rfl⟩ := List.mem_map.mp h
  exact ⟨k, rfl, List.mem_range.mp hk⟩
theorem sort_str {l : List (List Nat)} : (isortS ((l.map sOf).map fun a => a.cps.toList)).map AV.str = (isortS l).map AV.str := by
  congr 2
  rw [List.map_map]
  conv => rhs; rw [← List.map_id l]
  congr 1
section
variable {e : AHeap} {b : Nat}
def Names (k : Int) (v : AV) : Prop := ∃ l : List (List Nat), v = .lst (l.map AV.str) ∧ (l.length : Int) = k ∧ ∀ s ∈ l, nmS s = true
theorem sorted_names {l : List (List Nat)} {k : Int} (hl : (l.length : Int) = k) (h : ∀ s ∈ l, nmS s = true) : Names k (.lst ((isortS ((l.map sOf).map fun a => a.cps.toList)).map AV.str)) := by
  refine ⟨isortS l, by rw [sort_str], by rw [(isortS_perm l).length_eq]; exact hl, fun s hs => h s ((isortS_perm l).mem_iff.mp hs)⟩
theorem abc_nm {s : List Nat} (h1 : 1 ≤ s.length) (h2 : s.length ≤ 6) (h : ∀ c ∈ s, c ∈ ABC) : nmS s = true := by
  unfold nmS
  rw [decide_eq_true h1, decide_eq_true h2]
  simp only [Bool.true_and]
  exact List.all_eq_true.mpr fun c hc => decide_eq_true (h c hc)
theorem names_spec {h : AHeap} {n : Nat} {k : Int} (hh : HI e b h) (hc : e.all (AO.closed 0) = true) (hn : n < b) (hk : 0 ≤ k) (hk2 : k ≤ 60) :
    Ens (m__law_names [.ref n, .int k] h) fun v h' => Names k v ∧ HI e b h' := by
  refine en_defH rfl hc hh ?_
  have ix4 : ∀ {q : Int}, 0 ≤ q → q < 4 → ∃ p : Int, atI [AV.int 1, .int 5, .int 7, .int 11] q = some (.int p) ∧ 1 ≤ p ∧ p ≤ 11 := fun {q} q0 q1 => by
    obtain ⟨v, ev, mv⟩ := atI_nat' (l := [AV.int 1, .int 5, .int 7, .int 11]) q0 q1
    simp only [List.mem_cons, List.not_mem_nil, or_false] at mv
    rcases mv with rfl | rfl | rfl | rfl
    · exact ⟨1, ev, by decide, by decide⟩
    · exact ⟨5, ev, by decide, by decide⟩
    · exact ⟨7, ev, by decide, by decide⟩
    · exact ⟨11, ev, by decide, by decide⟩
  have hr : AI.inR k = true := by unfold AI.inR; exact decide_eq_true (by omega)
  have hz : szOk (iInts 0 k.toNat) = true := szOk_le (by rw [iInts_len]; omega)
  have cm : ∀ p : Int, 1 ≤ p → p ≤ 11 → ∀ x : Int, cMul p x = true := fun p h1 h2 x => by unfold cMul; simp; left; omega
  have c12 : ∀ x : Int, cMod x 12 = true := fun _ => rfl
  have c26 : ∀ x : Int, cMod x 26 = true := fun _ => rfl
  simp only [en_bind, en_ok, en_bad, en_lift, en_var, en_c, en_bin, en_un, en_test, en_chain, en_andT, en_orT, en_notT, en_and, en_or, en_not, en_if, en_nil, en_cons, en_tup, en_list, en_pureL, en_newL, en_fn, en_call, en_callK, en_methS, en_oN, en_oS, en_sl, en_rng1, en_iter, en_lc, es_seq, es_skip, es_ret, es_retN, es_if, es_asg, es_par2, es_for, eg_name, eg_nil, eg_cons, eg_tup, eg_sub, es_drop, es_bad, es_try0, en_listOf, en_methO, es_setL1, es_setL0, en_set0, en_fmt, en_joinN, en_joinC, en_enum, en_sortS, en_split, en_rng2, vIxA_t, vIxA_l, vIxA_s, vLenA_s, vLenA_t, vLenA_l, vMulA_ii, vAdd_ii, vAdd_ss, vAdd_ll, vSub_ii, vMul_ii, vDiv_ii, vMod_ii, vLt_ii, vLe_ii, vGt_ii, vGe_ii, vEq_ii, vEq_ss, vNe_ii, vNe_ss, vIx_t, vIx_l, vIx_s, vIx_r, vLen_s, vLen_t, vLen_l, vLen_r, List.getElem?_cons_zero, List.getElem?_cons_succ, List.set_cons_zero, List.set_cons_succ, Option.some.injEq, AV.int.injEq, AV.bl.injEq, AV.str.injEq, AV.ref.injEq, AV.tup.injEq, AV.lst.injEq, AO.list.injEq, List.cons.injEq, exists_eq_left', exists_eq_left, exists_and_left, List.map_cons, List.map_nil, List.replicate, List.cons_append, List.nil_append, and_true, true_and, if_true, Nat.sub_self, ite_true, List.length_cons, List.length_nil, Nat.zero_add, Nat.reduceAdd, Nat.reduceSub, List.length_set]
  refine ⟨rfl, (draw_spec hh hn (by decide) (by decide)).mono ?_⟩
  rintro v1 h1 ⟨⟨at_, rfl, a0, a1⟩, hh1⟩
  refine ⟨rfl, (draw_spec hh1 hn (by decide) (by decide)).mono ?_⟩
  rintro v1 h2 ⟨⟨q, rfl, q0, q1⟩, hh2⟩
  obtain ⟨p, ep, p0, p1⟩ := ix4 q0 q1
  refine ⟨_, by rw [vIxA_l]; exact ep, rfl, _, _, ⟨rfl, rfl⟩, _, _, rfl, rfl, ?_⟩
  refine (draw_spec hh2 hn (by decide) (by decide)).mono ?_
  rintro v1 h3 ⟨⟨q2, rfl, q20, q21⟩, hh3⟩
  refine ⟨_, vEq_ii, _, rfl, ?_⟩
  by_cases hq : q2 = 1
  · rw [if_pos (decide_eq_true hq)]
    refine ⟨hr, hz, ?_⟩
    refine en_lcL (fun h' => HI e b h') (fun y => ∃ s, y = AV.str s ∧ nmS s = true) ?_ hh3 ?_
    · rintro v hv h4 hh4
      obtain ⟨j, rfl, hj⟩ := iInts_mem hv
      refine ⟨_, rfl, ?_⟩
      simp only [en_bind, en_ok, en_bad, en_lift, en_var, en_c, en_bin, en_un, en_test, en_chain, en_andT, en_orT, en_notT, en_and, en_or, en_not, en_if, en_nil, en_cons, en_tup, en_list, en_pureL, en_newL, en_fn, en_call, en_callK, en_methS, en_oN, en_oS, en_sl, en_rng1, en_iter, en_lc, es_seq, es_skip, es_ret, es_retN, es_if, es_asg, es_par2, es_for, eg_name, eg_nil, eg_cons, eg_tup, eg_sub, es_drop, es_bad, es_try0, en_listOf, en_methO, es_setL1, es_setL0, en_set0, en_fmt, en_joinN, en_joinC, en_enum, en_sortS, en_split, en_rng2, vIxA_t, vIxA_l, vIxA_s, vLenA_s, vLenA_t, vLenA_l, vMulA_ii, vAdd_ii, vAdd_ss, vAdd_ll, vSub_ii, vMul_ii, vDiv_ii, vMod_ii, vLt_ii, vLe_ii, vGt_ii, vGe_ii, vEq_ii, vEq_ss, vNe_ii, vNe_ss, vIx_t, vIx_l, vIx_s, vIx_r, vLen_s, vLen_t, vLen_l, vLen_r, List.getElem?_cons_zero, List.getElem?_cons_succ, List.set_cons_zero, List.set_cons_succ, Option.some.injEq, AV.int.injEq, AV.bl.injEq, AV.str.injEq, AV.ref.injEq, AV.tup.injEq, AV.lst.injEq, AO.list.injEq, List.cons.injEq, exists_eq_left', exists_eq_left, exists_and_left, List.map_cons, List.map_nil, List.replicate, List.cons_append, List.nil_append, and_true, true_and, if_true, Nat.sub_self, ite_true, List.length_cons, List.length_nil, Nat.zero_add, Nat.reduceAdd, Nat.reduceSub, List.length_set, wipeA, List.foldl, cm p p0 p1, c12]
      have z0 := Int.emod_nonneg (at_ + p * (0 + (j : Int))) (show (12 : Int) ≠ 0 by decide)
      have z1 := Int.emod_lt_of_pos (at_ + p * (0 + (j : Int))) (show (0 : Int) < 12 by decide)
      obtain ⟨w, ew, mw⟩ := atI_nat' (l := [AV.str [112, 111, 105, 110, 116], .str [115, 116, 101, 112], .str [101, 110, 100, 115], .str [108, 111, 111, 112, 115], .str [100, 111, 119, 110], .str [117, 112], .str [110, 111, 110, 101], .str [115, 116, 117, 99, 107], .str [97, 100, 100], .str [120], .str [121], .str [117, 110, 100, 111]]) z0 z1
      rw [ew]
      refine ⟨_, rfl, ?_, hh4⟩
      simp only [List.mem_cons, List.not_mem_nil, or_false] at mw
      rcases mw with rfl | rfl | rfl | rfl | rfl | rfl | rfl | rfl | rfl | rfl | rfl | rfl <;> exact ⟨_, rfl, by decide⟩
    · rintro ys h4 hy hY hh4
      obtain ⟨l, rfl, hl⟩ := strs_of hY
      rw [iInts_len] at hy
      have hlk : (l.length : Int) = k := by rw [List.length_map] at hy; omega
      refine ⟨_, rfl, _, strs_map l, by rw [List.length_map]; omega, [], by simpa using hh4, _, .pure ?_, fun h5 k5 => ⟨sorted_names hlk hl, k5⟩⟩
      exact closeds_all fun v hv => by obtain ⟨s, _, rfl⟩ := List.mem_map.mp hv; rfl
  · rw [if_neg (by simpa using hq)]
    refine (draw_spec hh3 hn (by decide) (by decide)).mono ?_
    rintro v1 h4 ⟨⟨m, rfl, m0, m1⟩, hh4⟩
    refine ⟨_, rfl, by unfold AI.inR; exact decide_eq_true (by omega), szOk_le (by rw [iInts_len]; omega), ?_⟩
    refine en_lcL (fun h' => HI e b h') (fun y => ∃ c, y = AV.str [c] ∧ c ∈ ABC) ?_ hh4 ?_
    · rintro v hv h5 hh5
      refine ⟨_, rfl, ?_⟩
      simp only [en_bind, en_ok, en_bad, en_lift, en_var, en_c, en_bin, en_un, en_test, en_chain, en_andT, en_orT, en_notT, en_and, en_or, en_not, en_if, en_nil, en_cons, en_tup, en_list, en_pureL, en_newL, en_fn, en_call, en_callK, en_methS, en_oN, en_oS, en_sl, en_rng1, en_iter, en_lc, es_seq, es_skip, es_ret, es_retN, es_if, es_asg, es_par2, es_for, eg_name, eg_nil, eg_cons, eg_tup, eg_sub, es_drop, es_bad, es_try0, en_listOf, en_methO, es_setL1, es_setL0, en_set0, en_fmt, en_joinN, en_joinC, en_enum, en_sortS, en_split, en_rng2, vIxA_t, vIxA_l, vIxA_s, vLenA_s, vLenA_t, vLenA_l, vMulA_ii, vAdd_ii, vAdd_ss, vAdd_ll, vSub_ii, vMul_ii, vDiv_ii, vMod_ii, vLt_ii, vLe_ii, vGt_ii, vGe_ii, vEq_ii, vEq_ss, vNe_ii, vNe_ss, vIx_t, vIx_l, vIx_s, vIx_r, vLen_s, vLen_t, vLen_l, vLen_r, List.getElem?_cons_zero, List.getElem?_cons_succ, List.set_cons_zero, List.set_cons_succ, Option.some.injEq, AV.int.injEq, AV.bl.injEq, AV.str.injEq, AV.ref.injEq, AV.tup.injEq, AV.lst.injEq, AO.list.injEq, List.cons.injEq, exists_eq_left', exists_eq_left, exists_and_left, List.map_cons, List.map_nil, List.replicate, List.cons_append, List.nil_append, and_true, true_and, if_true, Nat.sub_self, ite_true, List.length_cons, List.length_nil, Nat.zero_add, Nat.reduceAdd, Nat.reduceSub, List.length_set, wipeA, List.foldl]
      refine (draw_spec hh5 hn (by decide) (by decide)).mono ?_
      rintro w h6 ⟨⟨q, rfl, q0, q1⟩, hh6⟩
      obtain ⟨c, ec, mc⟩ := atI_nat' (l := ABC) q0 q1
      refine ⟨.str [c], ?_, ⟨_, rfl, mc⟩, hh6⟩
      rw [vIxA_s, if_pos (by rfl), ec]; rfl
    · rintro ys h5 hy hY hh5
      obtain ⟨stem, rfl, hst⟩ := ones_of hY
      rw [iInts_len, List.length_map, List.length_map] at hy
      have hs5 : stem.length ≤ 5 := by omega
      refine ⟨_, join_one (by omega), _, by rw [vLenA_s, if_pos (szK (by omega))], _, vAdd_ii, ?_⟩
      refine (draw_spec hh5 hn (by omega) (by omega)).mono ?_
      rintro w h6 ⟨⟨cut, rfl, cu0, cu1⟩, hh6⟩
      refine (draw_spec hh6 hn (by decide) (by decide)).mono ?_
      rintro w h7 ⟨⟨beg, rfl, be0, be1⟩, hh7⟩
      refine ⟨rfl, _, _, ⟨rfl, rfl⟩, _, _, rfl, rfl, hr, hz, ?_⟩
      obtain ⟨cu, rfl⟩ := Int.eq_ofNat_of_zero_le cu0
      have hcu : cu ≤ stem.length := by omega
      refine en_lcL (fun h' => HI e b h') (fun y => ∃ s, y = AV.str s ∧ nmS s = true) ?_ hh7 ?_
      · rintro v hv h8 hh8
        obtain ⟨j, rfl, hj⟩ := iInts_mem hv
        refine ⟨_, rfl, ?_⟩
        have z0 := Int.emod_nonneg (beg + p * (0 + (j : Int))) (show (26 : Int) ≠ 0 by decide)
        have z1 := Int.emod_lt_of_pos (beg + p * (0 + (j : Int))) (show (0 : Int) < 26 by decide)
        obtain ⟨c, ec, mc⟩ := atI_nat' (l := ABC) z0 z1
        have s26 : decide (26 ≤ szM) = true := rfl
        have l1 : (stem.take cu).length ≤ 5 := by rw [List.length_take]; omega
        have l2 : (stem.drop cu).length ≤ 5 := by rw [List.length_drop]; omega
        have l3 : (stem.take cu).length + (stem.drop cu).length = stem.length := by rw [List.length_take, List.length_drop]; omega
        simp only [en_bind, en_ok, en_bad, en_lift, en_var, en_c, en_bin, en_un, en_test, en_chain, en_andT, en_orT, en_notT, en_and, en_or, en_not, en_if, en_nil, en_cons, en_tup, en_list, en_pureL, en_newL, en_fn, en_call, en_callK, en_methS, en_oN, en_oS, en_sl, en_rng1, en_iter, en_lc, es_seq, es_skip, es_ret, es_retN, es_if, es_asg, es_par2, es_for, eg_name, eg_nil, eg_cons, eg_tup, eg_sub, es_drop, es_bad, es_try0, en_listOf, en_methO, es_setL1, es_setL0, en_set0, en_fmt, en_joinN, en_joinC, en_enum, en_sortS, en_split, en_rng2, vIxA_t, vIxA_l, vIxA_s, vLenA_s, vLenA_t, vLenA_l, vMulA_ii, vAdd_ii, vAdd_ss, vAdd_ll, vSub_ii, vMul_ii, vDiv_ii, vMod_ii, vLt_ii, vLe_ii, vGt_ii, vGe_ii, vEq_ii, vEq_ss, vNe_ii, vNe_ss, vIx_t, vIx_l, vIx_s, vIx_r, vLen_s, vLen_t, vLen_l, vLen_r, List.getElem?_cons_zero, List.getElem?_cons_succ, List.set_cons_zero, List.set_cons_succ, Option.some.injEq, AV.int.injEq, AV.bl.injEq, AV.str.injEq, AV.ref.injEq, AV.tup.injEq, AV.lst.injEq, AO.list.injEq, List.cons.injEq, exists_eq_left', exists_eq_left, exists_and_left, List.map_cons, List.map_nil, List.replicate, List.cons_append, List.nil_append, and_true, true_and, if_true, Nat.sub_self, ite_true, List.length_cons, List.length_nil, Nat.zero_add, Nat.reduceAdd, Nat.reduceSub, List.length_set, wipeA, List.foldl, cm p p0 p1, c26, ec, Option.map_some, s26, vSl_s (show stem.length ≤ 10000 by omega), cut_take hcu, cut_drop hcu, szK (n := (stem.take cu).length + 1) (by omega),
          szK (n := ((stem.take cu) ++ [c]).length + (stem.drop cu).length) (by rw [List.length_append, List.length_singleton]; omega)]
        refine ⟨abc_nm (by simp; omega) (by rw [List.length_append, List.length_append, List.length_singleton]; omega) fun d hd => ?_, hh8⟩
        simp only [List.mem_append, List.mem_singleton] at hd
        rcases hd with (z | rfl) | z
        · exact hst d (List.mem_of_mem_take z)
        · exact mc
        · exact hst d (List.mem_of_mem_drop z)
      · rintro ys h8 hy8 hY8 hh8
        obtain ⟨l, rfl, hl⟩ := strs_of hY8
        rw [iInts_len] at hy8
        have hlk : (l.length : Int) = k := by rw [List.length_map] at hy8; omega
        refine ⟨_, rfl, _, strs_map l, by rw [List.length_map]; omega, [], by simpa using hh8, _, .pure ?_, fun h5 k5 => ⟨sorted_names hlk hl, k5⟩⟩
        exact closeds_all fun v hv => by obtain ⟨s, _, rfl⟩ := List.mem_map.mp hv; rfl
/-- a variable -/
def VS (s : List Nat) : Prop := ∃ t, nmS t = true ∧ (s = t ∨ s = t ++ [39])
theorem nm_len {t : List Nat} (h : nmS t = true) : 1 ≤ t.length ∧ t.length ≤ 6 ∧ ∀ c ∈ t, c ∈ ABC := by
  unfold nmS at h
  simp only [Bool.and_eq_true, decide_eq_true_eq, List.all_eq_true] at h
  exact ⟨h.1, h.2.1, h.2.2⟩
theorem VS.len {s : List Nat} (h : VS s) : 1 ≤ s.length ∧ s.length ≤ 7 := by
  obtain ⟨t, ht, rfl | rfl⟩ := h
  · have := nm_len ht; omega
  · have := nm_len ht
    rw [List.length_append, List.length_singleton]; omega
theorem cutE_app (t : List Nat) (c : Nat) : cutE (t ++ [c]) = t := by
  unfold cutE
  rw [show ((-1 : Int)) = ((-1 : Int)) from rfl]
  unfold AI.cutL HT.sIx
  have z : ((-1 : Int) + ((t ++ [c]).length : Int)).toNat = t.length := by simp; omega
  simp only [show ((-1 : Int) < 0) = True by simp, if_true, z]
  simp
theorem cutT_app (t : List Nat) (c : Nat) : AI.cutL (t ++ [c]) (some (-1)) none = [c] := by
  unfold AI.cutL HT.sIx
  have z : ((-1 : Int) + ((t ++ [c]).length : Int)).toNat = t.length := by simp; omega
  simp only [show ((-1 : Int) < 0) = True by simp, if_true, z]
  simp
theorem endQ_app (t : List Nat) (c : Nat) : endQ (t ++ [c]) = decide (c = 39) := by
  unfold endQ
  rw [cutT_app]
  by_cases hc : c = 39 <;> simp [hc]
theorem VS.ok {s : List Nat} (h : VS s) : vrS s = true := by
  obtain ⟨t, ht, rfl | rfl⟩ := h
  · obtain ⟨h1, h2, h3⟩ := nm_len ht
    rcases List.eq_nil_or_concat s with rfl | ⟨u, c, rfl⟩
    · simp at h1
    · rw [List.concat_eq_append] at *
      unfold vrS
      have : endQ (u ++ [c]) = false := by
        rw [endQ_app]
        refine decide_eq_false fun e => ?_
        have := h3 c (by simp)
        rw [e] at this
        revert this; decide
      rw [this]
      simpa using ht
  · unfold vrS
    rw [endQ_app, cutE_app]
    simpa using ht
theorem VS.push {t : List Nat} (h : nmS t = true) : VS t := ⟨t, h, .inl rfl⟩
theorem VS.pushA {t : List Nat} (h : nmS t = true) : VS (t ++ [39]) := ⟨t, h, .inr rfl⟩
def Vars (k : Int) (v : AV) : Prop := ∃ l : List (List Nat), v = .lst (l.map AV.str) ∧ (l.length : Int) = k ∧ ∀ s ∈ l, VS s
theorem strs_closed {l : List (List Nat)} {k : Nat} : AV.closeds k (l.map AV.str) = true := closeds_all fun v hv => by obtain ⟨s, _, rfl⟩ := List.mem_map.mp hv; rfl
theorem vars_spec {h : AHeap} {n : Nat} {k : Int} (hh : HI e b h) (hc : e.all (AO.closed 0) = true) (hn : n < b) (hk : 0 ≤ k) (hk2 : k ≤ 60) :
    Ens (m__law_variables [.ref n, .int k] h) fun v h' => Vars k v ∧ HI e b h' := by
  have hlen := hh.len
  refine en_defH rfl hc hh ?_
  simp only [en_bind, en_ok, en_bad, en_lift, en_var, en_c, en_bin, en_un, en_test, en_chain, en_andT, en_orT, en_notT, en_and, en_or, en_not, en_if, en_nil, en_cons, en_tup, en_list, en_pureL, en_newL, en_fn, en_call, en_callK, en_methS, en_oN, en_oS, en_sl, en_rng1, en_iter, en_lc, es_seq, es_skip, es_ret, es_retN, es_if, es_asg, es_par2, es_for, eg_name, eg_nil, eg_cons, eg_tup, eg_sub, es_drop, es_bad, es_try0, en_listOf, en_methO, es_setL1, es_setL0, en_set0, en_fmt, en_joinN, en_joinC, en_enum, en_sortS, en_split, en_rng2, vIxA_t, vIxA_l, vIxA_s, vLenA_s, vLenA_t, vLenA_l, vMulA_ii, vAdd_ii, vAdd_ss, vAdd_ll, vSub_ii, vMul_ii, vDiv_ii, vMod_ii, vLt_ii, vLe_ii, vGt_ii, vGe_ii, vEq_ii, vEq_ss, vNe_ii, vNe_ss, vIx_t, vIx_l, vIx_s, vIx_r, vLen_s, vLen_t, vLen_l, vLen_r, List.getElem?_cons_zero, List.getElem?_cons_succ, List.set_cons_zero, List.set_cons_succ, Option.some.injEq, AV.int.injEq, AV.bl.injEq, AV.str.injEq, AV.ref.injEq, AV.tup.injEq, AV.lst.injEq, AO.list.injEq, List.cons.injEq, exists_eq_left', exists_eq_left, exists_and_left, List.map_cons, List.map_nil, List.replicate, List.cons_append, List.nil_append, and_true, true_and, if_true, Nat.sub_self, ite_true, List.length_cons, List.length_nil, Nat.zero_add, Nat.reduceAdd, Nat.reduceSub, List.length_set]
  refine (names_spec hh hc hn hk hk2).mono ?_
  rintro v h1 ⟨⟨l, rfl, hl, hN⟩, hh1⟩
  have hl1 := hh1.len
  refine ⟨l.map AV.str, rfl, szOk_le (by rw [List.length_map]; omega), ?_⟩
  refine en_lcL (fun h' => HI e b h') (fun y => ∃ s, y = AV.str s ∧ VS s) ?_ hh1 ?_
  · rintro v hv h8 hh8
    obtain ⟨s, hs, rfl⟩ := List.mem_map.mp hv
    refine ⟨_, rfl, ?_⟩
    simp only [en_bind, en_ok, en_bad, en_lift, en_var, en_c, en_bin, en_un, en_test, en_chain, en_andT, en_orT, en_notT, en_and, en_or, en_not, en_if, en_nil, en_cons, en_tup, en_list, en_pureL, en_newL, en_fn, en_call, en_callK, en_methS, en_oN, en_oS, en_sl, en_rng1, en_iter, en_lc, es_seq, es_skip, es_ret, es_retN, es_if, es_asg, es_par2, es_for, eg_name, eg_nil, eg_cons, eg_tup, eg_sub, es_drop, es_bad, es_try0, en_listOf, en_methO, es_setL1, es_setL0, en_set0, en_fmt, en_joinN, en_joinC, en_enum, en_sortS, en_split, en_rng2, vIxA_t, vIxA_l, vIxA_s, vLenA_s, vLenA_t, vLenA_l, vMulA_ii, vAdd_ii, vAdd_ss, vAdd_ll, vSub_ii, vMul_ii, vDiv_ii, vMod_ii, vLt_ii, vLe_ii, vGt_ii, vGe_ii, vEq_ii, vEq_ss, vNe_ii, vNe_ss, vIx_t, vIx_l, vIx_s, vIx_r, vLen_s, vLen_t, vLen_l, vLen_r, List.getElem?_cons_zero, List.getElem?_cons_succ, List.set_cons_zero, List.set_cons_succ, Option.some.injEq, AV.int.injEq, AV.bl.injEq, AV.str.injEq, AV.ref.injEq, AV.tup.injEq, AV.lst.injEq, AO.list.injEq, List.cons.injEq, exists_eq_left', exists_eq_left, exists_and_left, List.map_cons, List.map_nil, List.replicate, List.cons_append, List.nil_append, and_true, true_and, if_true, Nat.sub_self, ite_true, List.length_cons, List.length_nil, Nat.zero_add, Nat.reduceAdd, Nat.reduceSub, List.length_set, wipeA, List.foldl]
    refine ⟨rfl, (draw_spec hh8 hn (by decide) (by decide)).mono ?_⟩
    rintro w h9 ⟨⟨q, rfl, q0, q1⟩, hh9⟩
    obtain ⟨v, ev, mv⟩ := atI_nat' (l := [AV.str [], .str [39]]) q0 q1
    refine ⟨v, by rw [vIxA_l]; exact ev, ?_⟩
    have sl := nm_len (hN s hs)
    simp only [List.mem_cons, List.not_mem_nil, or_false] at mv
    rcases mv with rfl | rfl
    · exact ⟨_, by rw [vAdd_ss, if_pos (szK (by simp; omega))], ⟨_, rfl, by rw [List.append_nil]; exact .push (hN s hs)⟩, hh9⟩
    · exact ⟨_, by rw [vAdd_ss, if_pos (szK (by simp; omega))], ⟨_, rfl, .pushA (hN s hs)⟩, hh9⟩
  · rintro ys h8 hy8 hY8 hh8
    obtain ⟨m, rfl, hm⟩ := strs_of hY8
    have hmk : (m.length : Int) = k := by rw [List.length_map, List.length_map] at hy8; omega
    have hl8 := hh8.len
    have fin : ∀ (h9 : AHeap) (m' : List (List Nat)), HI (e ++ [.list (m'.map AV.str)]) b h9 → (m'.length : Int) = k → (∀ s ∈ m', VS s) →
        ∃ e', HI (e ++ e') b h9 ∧ ∃ x, Sees h9 h.length (AV.ref h8.length) x ∧ ∀ h2, HI e b h2 → Vars k x ∧ HI e b h2 := fun h9 m' z1 z2 z3 =>
      ⟨_, z1, _, .list (l := m'.map AV.str) (by omega) (by rw [z1.atE (show h8.length = b + e.length by omega)]; simp) strs_closed, fun h2 k2 => ⟨⟨m', rfl, z2, z3⟩, k2⟩⟩
    have hp : HI (e ++ [.list (m.map AV.str)]) b (h8 ++ [.list (m.map AV.str)]) := hh8.push _
    by_cases h1k : 1 < k
    · rw [if_pos (decide_eq_true h1k)]
      refine (draw_spec hp hn (by decide) (by decide)).mono ?_
      rintro w h9 ⟨⟨q, rfl, q0, q1⟩, hh9⟩
      refine ⟨_, vEq_ii, _, rfl, ?_⟩
      by_cases hq : q = 0
      · rw [if_pos (decide_eq_true hq)]
        have f9 : h9[h8.length]? = some (.list (m.map AV.str)) := by rw [hh9.atE (show h8.length = b + e.length by omega)]; simp
        match m, hm, hmk, f9, hh9 with
        | [], _, hmk, _, _ => simp at hmk; omega
        | [_], _, hmk, _, _ => simp at hmk; omega
        | s0 :: s1 :: r, hm, hmk, f9, hh9 =>
        have v0 := hm s0 (List.mem_cons_self ..)
        have l0 := v0.len
        have neg1 : vNeg h9 (.int 1) = some (.int (-1)) := rfl
        have i1 : ixN ((s0 :: s1 :: r).map AV.str).length 1 = some 1 := by
          unfold ixN
          simp
          omega
        have set1 : ∀ s, (((s0 :: s1 :: r).map AV.str).set 1 (.str s)) = (s0 :: s :: r).map AV.str := fun s => rfl
        have put : ∀ s, VS s → ∃ e', HI (e ++ e') b (h9.set h8.length (AO.list ((s0 :: s :: r).map AV.str))) ∧ ∃ x, Sees (h9.set h8.length (AO.list ((s0 :: s :: r).map AV.str))) h.length (AV.ref h8.length) x ∧ ∀ h2, HI e b h2 → Vars k x ∧ HI e b h2 := fun s hs => by
          refine fin _ (s0 :: s :: r) ?_ hmk fun t ht => ?_
          · have := hh9.setE (i := e.length) (o := .list ((s0 :: s :: r).map AV.str)) (show h8.length = b + e.length by omega)
            rwa [List.set_append_right _ _ (by omega), show e.length - e.length = 0 by omega] at this
          · rcases List.mem_cons.mp ht with z | z
            · rw [z]; exact v0
            · rcases List.mem_cons.mp z with z | z
              · rw [z]; exact hs
              · exact hm t (List.mem_cons_of_mem _ (List.mem_cons_of_mem _ z))
        have x0 : vIxA h9 (.ref h8.length) (.int 0) = some (.str s0) := by rw [vIxA_rl f9]; exact atI_0
        rcases List.eq_nil_or_concat s0 with rfl | ⟨u, c, rfl⟩
        · simp at l0
        · rw [List.concat_eq_append] at *
          have last : atI (u ++ [c]) (-1) = some c := by
            unfold atI ixN
            simp
            rw [if_pos (by omega), show ((-1 : Int) + ((u.length : Int) + 1)).toNat = u.length by omega]
            simp
          have x1 : vIxA h9 (.str (u ++ [c])) (.int (-1)) = some (.str [c]) := by
            rw [vIxA_s, if_pos (szK (by omega)), last]; rfl
          refine ⟨_, x0, _, neg1, _, x1, _, vEq_ss, _, rfl, ?_⟩
          obtain ⟨t, ht, z⟩ := v0
          obtain ⟨t1, t2, t3⟩ := nm_len ht
          by_cases hc9 : c = 39
          · rw [if_pos (decide_eq_true (by rw [hc9]))]
            refine ⟨_, x0, _, neg1, _, rfl, _, by rw [vSl_s (by omega)], _, f9, _, i1, ?_⟩
            rw [show AI.cutL (u ++ [c]) none (some (-1)) = u from cutE_app u c, set1]
            refine put u ?_
            rcases z with z | z
            · have := t3 c (by rw [← z]; simp)
              rw [hc9] at this
              exact absurd this (by decide)
            · have : u = t := by
                have := congrArg List.dropLast z
                simpa using this
              rw [this]; exact .push ht
          · rw [if_neg (by simpa using hc9)]
            refine ⟨_, x0, _, by rw [vAdd_ss, if_pos (szK (by simp at l0 ⊢; omega))], _, f9, _, i1, ?_⟩
            rw [set1]
            refine put _ ?_
            rcases z with z | z
            · rw [z]; exact .pushA ht
            · have := congrArg List.getLast? z
              simp at this
              exact absurd this hc9
      · rw [if_neg (by simpa using hq)]
        exact fin _ m hh9 hmk hm
    · rw [if_neg (by simpa using h1k), if_neg (by decide)]
      exact fin _ m hp hmk hm
end
/-! ### drawn claims -/
abbrev Cl := List Nat × List Nat × List Nat
def clv (c : Cl) : AV := .tup [.str c.1, .str c.2.1, .str c.2.2]
def OPS : List (List Nat) := [[60], [60, 61], [61]]
/-- a claim between these variables -/
def Gd (names : List (List Nat)) (c : Cl) : Prop := c.1 ∈ names ∧ c.2.1 ∈ OPS ∧ c.2.2 ∈ names
theorem cl_closed {cs : List Cl} {k : Nat} : AV.closeds k (cs.map clv) = true := closeds_all fun v hv => by obtain ⟨c, _, rfl⟩ := List.mem_map.mp hv; rfl
theorem append_ok {h : AHeap} {v : AV} {m : List AV} (hl : m.length ≤ 10000) : opAppend h [v] (.list m) = some (.non, .list (m ++ [v])) := by
  unfold opAppend
  dsimp only
  rw [if_pos (decide_eq_true (by unfold szM; omega))]
theorem set_last {e : AHeap} {x y : AO} : (e ++ [x]).set e.length y = e ++ [y] := by
  rw [List.set_append_right _ _ (by omega), show e.length - e.length = 0 by omega]; rfl
section
variable {e : AHeap} {b : Nat}
theorem _root_.AI.HI.last {h : AHeap} {x : AO} {i : Nat} (hh : HI (e ++ [x]) b h) (hi : i = b + e.length) : h[i]? = some x := by
  rw [hh.atE hi]; simp
theorem _root_.AI.HI.edit {h : AHeap} {x y : AO} {i : Nat} (hh : HI (e ++ [x]) b h) (hi : i = b + e.length) : HI (e ++ [y]) b (h.set i y) := by
  have := hh.setE (o := y) hi
  rwa [set_last] at this
theorem pick {names : List (List Nat)} {q : Int} (q0 : 0 ≤ q) (q1 : q < names.length) : ∃ s, atI (names.map AV.str) q = some (.str s) ∧ s ∈ names := by
  obtain ⟨v, ev, mv⟩ := atI_nat' (l := names.map AV.str) q0 (by simpa using q1)
  obtain ⟨s, hs, rfl⟩ := List.mem_map.mp mv
  exact ⟨s, ev, hs⟩
def Cls (names : List (List Nat)) (k : Int) (v : AV) : Prop := ∃ cs : List Cl, v = .lst (cs.map clv) ∧ (cs.length : Int) ≤ k ∧ ∀ c ∈ cs, Gd names c
theorem any_spec {h : AHeap} {n : Nat} {k : Int} {names : List (List Nat)} (hh : HI e b h) (hc : e.all (AO.closed 0) = true) (hn : n < b) (hk : 0 ≤ k) (hk2 : k ≤ 10000) (h1 : 1 ≤ names.length) (h2 : names.length ≤ 10000) :
    Ens (m__law_any [.ref n, .lst (names.map AV.str), .int k] h) fun v h' => Cls names k v ∧ HI e b h' := by
  have hlen := hh.len
  refine en_defH rfl hc hh ?_
  have hr : AI.inR k = true := by unfold AI.inR; exact decide_eq_true (by omega)
  simp only [en_bind, en_ok, en_bad, en_lift, en_var, en_c, en_bin, en_un, en_test, en_chain, en_andT, en_orT, en_notT, en_and, en_or, en_not, en_if, en_nil, en_cons, en_tup, en_list, en_pureL, en_newL, en_fn, en_call, en_callK, en_methS, en_oN, en_oS, en_sl, en_rng1, en_iter, en_lc, es_seq, es_skip, es_ret, es_retN, es_if, es_asg, es_par2, es_for, eg_name, eg_nil, eg_cons, eg_tup, eg_sub, es_drop, es_bad, es_try0, en_listOf, en_methO, es_setL1, es_setL0, en_set0, en_fmt, en_joinN, en_joinC, en_enum, en_sortS, en_split, en_rng2, vIxA_t, vIxA_l, vIxA_s, vLenA_s, vLenA_t, vLenA_l, vMulA_ii, vAdd_ii, vAdd_ss, vAdd_ll, vSub_ii, vMul_ii, vDiv_ii, vMod_ii, vLt_ii, vLe_ii, vGt_ii, vGe_ii, vEq_ii, vEq_ss, vNe_ii, vNe_ss, vIx_t, vIx_l, vIx_s, vIx_r, vLen_s, vLen_t, vLen_l, vLen_r, List.getElem?_cons_zero, List.getElem?_cons_succ, List.set_cons_zero, List.set_cons_succ, Option.some.injEq, AV.int.injEq, AV.bl.injEq, AV.str.injEq, AV.ref.injEq, AV.tup.injEq, AV.lst.injEq, AO.list.injEq, List.cons.injEq, exists_eq_left', exists_eq_left, exists_and_left, List.map_cons, List.map_nil, List.replicate, List.cons_append, List.nil_append, and_true, true_and, if_true, Nat.sub_self, ite_true, List.length_cons, List.length_nil, Nat.zero_add, Nat.reduceAdd, Nat.reduceSub, List.length_set, hr]
  refine ⟨rfl, ?_⟩
  refine es_loop (fun r ρ h' => ∃ (cs : List Cl) (w4 w5 : Option AV), ρ = [some (.ref n), some (.lst (names.map AV.str)), some (.int k), some (.ref h.length), w4, w5] ∧ HI (e ++ [.list (cs.map clv)]) b h' ∧ (cs.length : Int) + r.length = k ∧ ∀ c ∈ cs, Gd names c) (fun v r ρ h' => ?_) (fun ρ h' => ?_) ?_
  · rintro ⟨cs, w4, w5, rfl, hI, hL, hG⟩
    simp only [List.length_cons] at hL
    simp only [en_bind, en_ok, en_bad, en_lift, en_var, en_c, en_bin, en_un, en_test, en_chain, en_andT, en_orT, en_notT, en_and, en_or, en_not, en_if, en_nil, en_cons, en_tup, en_list, en_pureL, en_newL, en_fn, en_call, en_callK, en_methS, en_oN, en_oS, en_sl, en_rng1, en_iter, en_lc, es_seq, es_skip, es_ret, es_retN, es_if, es_asg, es_par2, es_for, eg_name, eg_nil, eg_cons, eg_tup, eg_sub, es_drop, es_bad, es_try0, en_listOf, en_methO, es_setL1, es_setL0, en_set0, en_fmt, en_joinN, en_joinC, en_enum, en_sortS, en_split, en_rng2, vIxA_t, vIxA_l, vIxA_s, vLenA_s, vLenA_t, vLenA_l, vMulA_ii, vAdd_ii, vAdd_ss, vAdd_ll, vSub_ii, vMul_ii, vDiv_ii, vMod_ii, vLt_ii, vLe_ii, vGt_ii, vGe_ii, vEq_ii, vEq_ss, vNe_ii, vNe_ss, vIx_t, vIx_l, vIx_s, vIx_r, vLen_s, vLen_t, vLen_l, vLen_r, List.getElem?_cons_zero, List.getElem?_cons_succ, List.set_cons_zero, List.set_cons_succ, Option.some.injEq, AV.int.injEq, AV.bl.injEq, AV.str.injEq, AV.ref.injEq, AV.tup.injEq, AV.lst.injEq, AO.list.injEq, List.cons.injEq, exists_eq_left', exists_eq_left, exists_and_left, List.map_cons, List.map_nil, List.replicate, List.cons_append, List.nil_append, and_true, true_and, if_true, Nat.sub_self, ite_true, List.length_cons, List.length_nil, Nat.zero_add, Nat.reduceAdd, Nat.reduceSub, List.length_set]
    refine ⟨rfl, (draw_spec hI hn (by decide) (by decide)).mono ?_⟩
    rintro w h3 ⟨⟨q, rfl, q0, q1⟩, hI3⟩
    obtain ⟨o, eo, mo⟩ : ∃ o, atI [AV.str [60, 61], AV.str [60, 61], AV.str [60], AV.str [61]] q = some (.str o) ∧ o ∈ OPS := by
      obtain ⟨v, ev, mv⟩ := atI_nat' (l := [AV.str [60, 61], AV.str [60, 61], AV.str [60], AV.str [61]]) q0 q1
      simp only [List.mem_cons, List.not_mem_nil, or_false] at mv
      rcases mv with rfl | rfl | rfl | rfl <;> exact ⟨_, ev, by decide⟩
    refine ⟨_, by rw [vIxA_l]; exact eo, ?_⟩
    simp only [hI3.last (show h.length = b + e.length by omega), isL, List.getElem?_cons_zero, List.getElem?_cons_succ, List.set_cons_zero, List.set_cons_succ, Option.some.injEq, AV.int.injEq, AV.bl.injEq, AV.str.injEq, AV.ref.injEq, AV.tup.injEq, AV.lst.injEq, AO.list.injEq, List.cons.injEq, exists_eq_left', exists_eq_left, exists_and_left, List.map_cons, List.map_nil, List.replicate, List.cons_append, List.nil_append, and_true, true_and, if_true, Nat.sub_self, ite_true, List.length_cons, List.length_nil, Nat.zero_add, Nat.reduceAdd, Nat.reduceSub, List.length_set, List.length_map]
    refine (draw_spec hI3 hn (by omega) (by omega)).mono ?_
    rintro w h4 ⟨⟨q2, rfl, q20, q21⟩, hI4⟩
    obtain ⟨s, es, ms⟩ := pick q20 q21
    refine ⟨_, by rw [vIxA_l]; exact es, ?_⟩
    refine (draw_spec hI4 hn (by omega) (by omega)).mono ?_
    rintro w h5 ⟨⟨q3, rfl, q30, q31⟩, hI5⟩
    obtain ⟨t, et, mt⟩ := pick q30 q31
    refine ⟨_, by rw [vIxA_l]; exact et, rfl, _, hI5.last (by omega), _, _, append_ok (by rw [List.length_map]; omega), cs ++ [(s, o, t)], _, _, ⟨rfl, rfl⟩, ?_, by simp; omega, fun c hc => ?_⟩
    · have := hI5.edit (y := .list (cs.map clv ++ [AV.tup [.str s, .str o, .str t]])) (show h.length = b + e.length by omega)
      rw [List.map_append]
      exact this
    · rcases List.mem_append.mp hc with z | z
      · exact hG c z
      · rw [List.mem_singleton.mp z]; exact ⟨ms, mo, mt⟩
  · rintro ⟨cs, w4, w5, rfl, hI, hL, hG⟩
    simp only [en_bind, en_ok, en_bad, en_lift, en_var, en_c, en_bin, en_un, en_test, en_chain, en_andT, en_orT, en_notT, en_and, en_or, en_not, en_if, en_nil, en_cons, en_tup, en_list, en_pureL, en_newL, en_fn, en_call, en_callK, en_methS, en_oN, en_oS, en_sl, en_rng1, en_iter, en_lc, es_seq, es_skip, es_ret, es_retN, es_if, es_asg, es_par2, es_for, eg_name, eg_nil, eg_cons, eg_tup, eg_sub, es_drop, es_bad, es_try0, en_listOf, en_methO, es_setL1, es_setL0, en_set0, en_fmt, en_joinN, en_joinC, en_enum, en_sortS, en_split, en_rng2, vIxA_t, vIxA_l, vIxA_s, vLenA_s, vLenA_t, vLenA_l, vMulA_ii, List.getElem?_cons_zero, List.getElem?_cons_succ, List.set_cons_zero, List.set_cons_succ, Option.some.injEq, AV.int.injEq, AV.bl.injEq, AV.str.injEq, AV.ref.injEq, AV.tup.injEq, AV.lst.injEq, AO.list.injEq, List.cons.injEq, exists_eq_left', exists_eq_left, exists_and_left, List.map_cons, List.map_nil, List.replicate, List.cons_append, List.nil_append, and_true, true_and, if_true, Nat.sub_self, ite_true, List.length_cons, List.length_nil, Nat.zero_add, Nat.reduceAdd, Nat.reduceSub, List.length_set]
    exact ⟨_, hI, .lst (cs.map clv), .list (by omega) (hI.last (by omega)) cl_closed, fun h2 k2 => ⟨⟨cs, rfl, by simp at hL; omega, hG⟩, k2⟩⟩
  · exact ⟨[], _, _, rfl, hh.push _, by simp [iInts_len]; omega, by simp⟩
end
def Ints (vs : List AV) : Prop := ∀ v ∈ vs, ∃ i, v = .int i
theorem dGet_in : ∀ {ks : List Key} {vs : List AV} {k : Key}, ks.length = vs.length → Ints vs → k ∈ ks → ∃ i, dGet ks vs k = some (.int i)
  | [], _, _, _, _, hk => by cases hk
  | j :: ks, [], _, hl, _, _ => by cases hl
  | j :: ks, v :: vs, k, hl, hi, hk => by
    unfold dGet
    by_cases hj : j = k
    · rw [if_pos hj]
      obtain ⟨i, rfl⟩ := hi v (List.mem_cons_self ..)
      exact ⟨i, rfl⟩
    · rw [if_neg hj]
      refine dGet_in (by simpa using hl) (fun w hw => hi w (List.mem_cons_of_mem _ hw)) ?_
      rcases List.mem_cons.mp hk with z | z
      · exact absurd z.symm hj
      · exact z
theorem putA_ints {ks : List Key} {vs : List AV} {k : Key} {i : Int} (hl : ks.length = vs.length) (hi : Ints vs) : (putA ks vs k (.int i)).1.length = (putA ks vs k (.int i)).2.length ∧ Ints (putA ks vs k (.int i)).2 ∧ (∀ j ∈ ks, j ∈ (putA ks vs k (.int i)).1) ∧ k ∈ (putA ks vs k (.int i)).1 := by
  unfold putA
  by_cases hm : memK ks k = true
  · rw [if_pos hm]
    refine ⟨by simp [hl], ?_, fun j hj => hj, memK_iff.mp hm⟩
    clear hm
    induction ks generalizing vs with
    | nil => intro v hv; simp at hv
    | cons j ks ih =>
      cases vs with
      | nil => cases hl
      | cons w vs =>
        rw [List.zipWith_cons_cons]
        intro v hv
        rcases List.mem_cons.mp hv with z | z
        · rw [z]
          split
          · exact ⟨i, rfl⟩
          · exact hi w (List.mem_cons_self ..)
        · exact ih (by simpa using hl) (fun w hw => hi w (List.mem_cons_of_mem _ hw)) v z
  · rw [if_neg hm]
    refine ⟨by simp [hl], fun v hv => ?_, fun j hj => List.mem_append_left _ hj, by simp⟩
    rcases List.mem_append.mp hv with z | z
    · exact hi v z
    · rw [List.mem_singleton.mp z]; exact ⟨i, rfl⟩
def NI (v y : AV) : Prop := ∃ s i, v = .str s ∧ y = .tup [.str s, .int i]
theorem putAll_ints : ∀ {l ys : List AV} {ks : List Key} {vs : List AV}, Paired NI l ys → ks.length = vs.length → Ints vs →
    ∃ ks' vs', putAll ks vs ys = some (ks', vs') ∧ ks'.length = vs'.length ∧ Ints vs' ∧ (∀ k ∈ ks, k ∈ ks') ∧ ∀ s, AV.str s ∈ l → Sum.inr (sOf s) ∈ ks'
  | [], _, ks, vs, .nil, hl, hi => ⟨ks, vs, rfl, hl, hi, fun _ h => h, fun s h => by cases h⟩
  | v :: l, y :: ys, ks, vs, .cons hy r, hl, hi => by
    obtain ⟨s, i, rfl, rfl⟩ := hy
    obtain ⟨q1, q2, q3, q4⟩ := putA_ints (k := .inr (sOf s)) (i := i) hl hi
    obtain ⟨ks', vs', z1, z2, z3, z4, z5⟩ := putAll_ints r q1 q2
    refine ⟨ks', vs', z1, z2, z3, fun k hk => z4 k (q3 k hk), fun t ht => ?_⟩
    rcases List.mem_cons.mp ht with e | e
    · cases e; exact z4 _ q4
    · exact z5 t e
theorem int_closed : ∀ {vs : List AV} {k : Nat}, Ints vs → AV.closeds k vs = true := fun h => closeds_all fun v hv => by obtain ⟨i, rfl⟩ := h v hv; rfl
section
variable {e : AHeap} {b : Nat}
theorem fit_spec {h : AHeap} {n : Nat} {k : Int} {names : List (List Nat)} (hh : HI e b h) (hc : e.all (AO.closed 0) = true) (hn : n < b) (hk : 0 ≤ k) (hk2 : k ≤ 10000) (h1 : 1 ≤ names.length) (h2 : names.length ≤ 10000) :
    Ens (m__law_fitting [.ref n, .lst (names.map AV.str), .int k] h) fun v h' => Cls names k v ∧ HI e b h' := by
  have hlen := hh.len
  refine en_defH rfl hc hh ?_
  simp only [en_bind, en_ok, en_bad, en_lift, en_var, en_c, en_bin, en_un, en_test, en_chain, en_andT, en_orT, en_notT, en_and, en_or, en_not, en_if, en_nil, en_cons, en_tup, en_list, en_pureL, en_newL, en_fn, en_call, en_callK, en_methS, en_oN, en_oS, en_sl, en_rng1, en_iter, en_lc, es_seq, es_skip, es_ret, es_retN, es_if, es_asg, es_par2, es_for, eg_name, eg_nil, eg_cons, eg_tup, eg_sub, es_drop, es_bad, es_try0, en_listOf, en_methO, es_setL1, es_setL0, en_set0, en_fmt, en_joinN, en_joinC, en_enum, en_sortS, en_split, en_rng2, vIxA_t, vIxA_l, vIxA_s, vLenA_s, vLenA_t, vLenA_l, vMulA_ii, vAdd_ii, vAdd_ss, vAdd_ll, vSub_ii, vMul_ii, vDiv_ii, vMod_ii, vLt_ii, vLe_ii, vGt_ii, vGe_ii, vEq_ii, vEq_ss, vNe_ii, vNe_ss, vIx_t, vIx_l, vIx_s, vIx_r, vLen_s, vLen_t, vLen_l, vLen_r, List.getElem?_cons_zero, List.getElem?_cons_succ, List.set_cons_zero, List.set_cons_succ, Option.some.injEq, AV.int.injEq, AV.bl.injEq, AV.str.injEq, AV.ref.injEq, AV.tup.injEq, AV.lst.injEq, AO.list.injEq, List.cons.injEq, exists_eq_left', exists_eq_left, exists_and_left, List.map_cons, List.map_nil, List.replicate, List.cons_append, List.nil_append, and_true, true_and, if_true, Nat.sub_self, ite_true, List.length_cons, List.length_nil, Nat.zero_add, Nat.reduceAdd, Nat.reduceSub, List.length_set]
  refine ⟨names.map AV.str, rfl, szOk_le (by simpa using h2), ?_⟩
  refine en_lcR (fun h' => HI e b h') NI ?_ hh ?_
  · rintro v hv h8 hh8
    obtain ⟨s, hs, rfl⟩ := List.mem_map.mp hv
    refine ⟨_, rfl, ?_⟩
    simp only [en_bind, en_ok, en_bad, en_lift, en_var, en_c, en_bin, en_un, en_test, en_chain, en_andT, en_orT, en_notT, en_and, en_or, en_not, en_if, en_nil, en_cons, en_tup, en_list, en_pureL, en_newL, en_fn, en_call, en_callK, en_methS, en_oN, en_oS, en_sl, en_rng1, en_iter, en_lc, es_seq, es_skip, es_ret, es_retN, es_if, es_asg, es_par2, es_for, eg_name, eg_nil, eg_cons, eg_tup, eg_sub, es_drop, es_bad, es_try0, en_listOf, en_methO, es_setL1, es_setL0, en_set0, en_fmt, en_joinN, en_joinC, en_enum, en_sortS, en_split, en_rng2, vIxA_t, vIxA_l, vIxA_s, vLenA_s, vLenA_t, vLenA_l, vMulA_ii, vAdd_ii, vAdd_ss, vAdd_ll, vSub_ii, vMul_ii, vDiv_ii, vMod_ii, vLt_ii, vLe_ii, vGt_ii, vGe_ii, vEq_ii, vEq_ss, vNe_ii, vNe_ss, vIx_t, vIx_l, vIx_s, vIx_r, vLen_s, vLen_t, vLen_l, vLen_r, List.getElem?_cons_zero, List.getElem?_cons_succ, List.set_cons_zero, List.set_cons_succ, Option.some.injEq, AV.int.injEq, AV.bl.injEq, AV.str.injEq, AV.ref.injEq, AV.tup.injEq, AV.lst.injEq, AO.list.injEq, List.cons.injEq, exists_eq_left', exists_eq_left, exists_and_left, List.map_cons, List.map_nil, List.replicate, List.cons_append, List.nil_append, and_true, true_and, if_true, Nat.sub_self, ite_true, List.length_cons, List.length_nil, Nat.zero_add, Nat.reduceAdd, Nat.reduceSub, List.length_set, wipeA, List.foldl, List.length_map]
    refine (draw_spec hh8 hn (by omega) (by omega)).mono ?_
    rintro w h9 ⟨⟨q, rfl, q0, q1⟩, hh9⟩
    exact ⟨rfl, ⟨s, q, rfl, rfl⟩, hh9⟩
  · rintro ys h8 hY hh8
    have hl8 := hh8.len
    obtain ⟨ks, vs, z1, z2, z3, _, z5⟩ := putAll_ints hY (ks := []) (vs := []) rfl (by intro v hv; cases hv)
    have dp : vDictP h8 [AV.lst ys] = some (.dct ks vs) := by
      show (AI.putAll [] [] ys).map (fun r : List Key × List AV => AV.dct r.1 r.2) = _
      rw [z1]; rfl
    refine ⟨_, dp, rfl, ?_⟩
    have hp : HI (e ++ [.list []]) b (h8 ++ [.list []]) := hh8.push _
    refine ⟨_, _, ⟨rfl, rfl⟩, ?_⟩
    refine (any_spec hp (by rw [List.all_append, hc]; rfl) hn hk hk2 h1 h2).mono ?_
    rintro w h9 ⟨⟨cs0, rfl, hl0, hg0⟩, hh9⟩
    have gt : ∀ s ∈ names, ∃ i, dGet ks vs (.inr (sOf s)) = some (.int i) := fun s hs => dGet_in z2 z3 (z5 s (List.mem_map.mpr ⟨s, hs, rfl⟩))
    refine ⟨cs0.map clv, rfl, ?_⟩
    refine es_loop (fun r ρ h' => ∃ (cs rs : List Cl) (w5 w6 w7 w8 w9 : Option AV), ρ = [some (.ref n), some (.lst (names.map AV.str)), some (.int k), some (.dct ks vs), some (.ref h8.length), w5, w6, w7, w8, w9] ∧ r = rs.map clv ∧ HI (e ++ [.list (cs.map clv)]) b h' ∧
      cs.length + rs.length = cs0.length ∧ (∀ c ∈ cs, Gd names c) ∧ ∀ c ∈ rs, Gd names c) (fun v r ρ h' => ?_) (fun ρ h' => ?_) ?_
    · rintro ⟨cs, rs, w5, w6, w7, w8, w9, rfl, hr, hI, hL, hG, hR⟩
      cases rs with
      | nil => cases hr
      | cons c rs =>
      have hr : v = clv c ∧ r = rs.map clv := by simpa using hr
      obtain ⟨rfl, rfl⟩ := hr
      obtain ⟨g1, g2, g3⟩ := hR c (List.mem_cons_self ..)
      rw [show clv c = .tup [.str c.1, .str c.2.1, .str c.2.2] from rfl]
      simp only [eg_tup, eg_cons, eg_nil, eg_name, List.getElem?_cons_zero, List.getElem?_cons_succ, List.set_cons_zero, List.set_cons_succ, Option.some.injEq, AV.int.injEq, AV.bl.injEq, AV.str.injEq, AV.ref.injEq, AV.tup.injEq, AV.lst.injEq, AO.list.injEq, List.cons.injEq, exists_eq_left', exists_eq_left, exists_and_left, List.map_cons, List.map_nil, List.replicate, List.cons_append, List.nil_append, and_true, true_and, if_true, Nat.sub_self, ite_true, List.length_cons, List.length_nil, Nat.zero_add, Nat.reduceAdd, Nat.reduceSub, List.length_set]
      refine ⟨_, _, ⟨rfl, rfl⟩, _, _, rfl, _, _, rfl, rfl, ?_⟩
      refine es_cut (fun ρ1 h1 => h1 = h' ∧ ∃ a c1, a ∈ names ∧ c1 ∈ names ∧ ρ1 = [some (.ref n), some (.lst (names.map AV.str)), some (.int k), some (.dct ks vs), some (.ref h8.length), some (.str a), some (.str c.2.1), some (.str c1), w8, w9]) ?_ fun ρ1 h1' => ?_
      · obtain ⟨i, ei⟩ := gt _ g1
        obtain ⟨j, ej⟩ := gt _ g3
        have d1 : vIxA h' (.dct ks vs) (.str c.1) = some (.int i) := by rw [vIxA_d (q := .inr (sOf c.1)) rfl]; exact ei
        have d2 : vIxA h' (.dct ks vs) (.str c.2.2) = some (.int j) := by rw [vIxA_d (q := .inr (sOf c.2.2)) rfl]; exact ej
        simp only [en_bind, en_ok, en_bad, en_lift, en_var, en_c, en_bin, en_un, en_test, en_chain, en_andT, en_orT, en_notT, en_and, en_or, en_not, en_if, en_nil, en_cons, en_tup, en_list, en_pureL, en_newL, en_fn, en_call, en_callK, en_methS, en_oN, en_oS, en_sl, en_rng1, en_iter, en_lc, es_seq, es_skip, es_ret, es_retN, es_if, es_asg, es_par2, es_for, eg_name, eg_nil, eg_cons, eg_tup, eg_sub, es_drop, es_bad, es_try0, en_listOf, en_methO, es_setL1, es_setL0, en_set0, en_fmt, en_joinN, en_joinC, en_enum, en_sortS, en_split, en_rng2, vIxA_t, vIxA_l, vIxA_s, vLenA_s, vLenA_t, vLenA_l, vMulA_ii, vAdd_ii, vAdd_ss, vAdd_ll, vSub_ii, vMul_ii, vDiv_ii, vMod_ii, vLt_ii, vLe_ii, vGt_ii, vGe_ii, vEq_ii, vEq_ss, vNe_ii, vNe_ss, vIx_t, vIx_l, vIx_s, vIx_r, vLen_s, vLen_t, vLen_l, vLen_r, List.getElem?_cons_zero, List.getElem?_cons_succ, List.set_cons_zero, List.set_cons_succ, Option.some.injEq, AV.int.injEq, AV.bl.injEq, AV.str.injEq, AV.ref.injEq, AV.tup.injEq, AV.lst.injEq, AO.list.injEq, List.cons.injEq, exists_eq_left', exists_eq_left, exists_and_left, List.map_cons, List.map_nil, List.replicate, List.cons_append, List.nil_append, and_true, true_and, if_true, Nat.sub_self, ite_true, List.length_cons, List.length_nil, Nat.zero_add, Nat.reduceAdd, Nat.reduceSub, List.length_set, d1, d2]
        split
        · exact ⟨_, _, ⟨rfl, rfl⟩, c.2.2, g3, c.1, g1, rfl, rfl⟩
        · exact ⟨c.1, g1, c.2.2, g3, rfl, rfl⟩
      · rintro ⟨rfl, a, c1, ma, mc, rfl⟩
        obtain ⟨i, ei⟩ := gt _ ma
        obtain ⟨j, ej⟩ := gt _ mc
        have d1 : vIxA h1' (.dct ks vs) (.str a) = some (.int i) := by rw [vIxA_d (q := .inr (sOf a)) rfl]; exact ei
        have d2 : vIxA h1' (.dct ks vs) (.str c1) = some (.int j) := by rw [vIxA_d (q := .inr (sOf c1)) rfl]; exact ej
        have fin : ∀ (o1 o2 : List Nat) (w : Option AV), o1 ∈ OPS → o2 ∈ OPS → EnS ((aDrop (aMethO isL opAppend (aVar 4) (aCons (aTup (aCons (aVar 5) (aCons (aBin vIxA (aVar 8) (aCall m__law_draw (aCons (aVar 0) (aCons (aC (AV.int 2)) aNil)))) (aCons (aVar 7) aNil)))) aNil))) [some (.ref n), some (.lst (names.map AV.str)), some (.int k), some (.dct ks vs), some (.ref h8.length), some (.str a), some (.str c.2.1), some (.str c1), some (.lst [.str o1, .str o2]), w9] h1')
            (fun ρ h' => ∃ (cs' rs' : List Cl) (w5 w6 w7 w8 w9 : Option AV), ρ = [some (.ref n), some (.lst (names.map AV.str)), some (.int k), some (.dct ks vs), some (.ref h8.length), w5, w6, w7, w8, w9] ∧ rs.map clv = rs'.map clv ∧ HI (e ++ [.list (cs'.map clv)]) b h' ∧
              cs'.length + rs'.length = cs0.length ∧ (∀ c ∈ cs', Gd names c) ∧ ∀ c ∈ rs', Gd names c) (fun _ _ => False) (fun _ _ => False) (fun _ _ => False) := by
          intro o1 o2 w ho1 ho2
          simp only [en_bind, en_ok, en_bad, en_lift, en_var, en_c, en_bin, en_un, en_test, en_chain, en_andT, en_orT, en_notT, en_and, en_or, en_not, en_if, en_nil, en_cons, en_tup, en_list, en_pureL, en_newL, en_fn, en_call, en_callK, en_methS, en_oN, en_oS, en_sl, en_rng1, en_iter, en_lc, es_seq, es_skip, es_ret, es_retN, es_if, es_asg, es_par2, es_for, eg_name, eg_nil, eg_cons, eg_tup, eg_sub, es_drop, es_bad, es_try0, en_listOf, en_methO, es_setL1, es_setL0, en_set0, en_fmt, en_joinN, en_joinC, en_enum, en_sortS, en_split, en_rng2, vIxA_t, vIxA_l, vIxA_s, vLenA_s, vLenA_t, vLenA_l, vMulA_ii, List.getElem?_cons_zero, List.getElem?_cons_succ, List.set_cons_zero, List.set_cons_succ, Option.some.injEq, AV.int.injEq, AV.bl.injEq, AV.str.injEq, AV.ref.injEq, AV.tup.injEq, AV.lst.injEq, AO.list.injEq, List.cons.injEq, exists_eq_left', exists_eq_left, exists_and_left, List.map_cons, List.map_nil, List.replicate, List.cons_append, List.nil_append, and_true, true_and, if_true, Nat.sub_self, ite_true, List.length_cons, List.length_nil, Nat.zero_add, Nat.reduceAdd, Nat.reduceSub, List.length_set]
          refine ⟨_, hI.last (by omega), rfl, ?_⟩
          refine (draw_spec hI hn (by decide) (by decide)).mono ?_
          rintro w h3 ⟨⟨q, rfl, q0, q1⟩, hI3⟩
          obtain ⟨o, eo, mo⟩ : ∃ o, atI [AV.str o1, AV.str o2] q = some (.str o) ∧ o ∈ OPS := by
            obtain ⟨v, ev, mv⟩ := atI_nat' (l := [AV.str o1, AV.str o2]) q0 q1
            simp only [List.mem_cons, List.not_mem_nil, or_false] at mv
            rcases mv with rfl | rfl
            · exact ⟨_, ev, ho1⟩
            · exact ⟨_, ev, ho2⟩
          refine ⟨_, by rw [vIxA_l]; exact eo, rfl, _, hI3.last (by omega), _, _, append_ok (by rw [List.length_map]; omega), ?_⟩
          refine ⟨cs ++ [(a, o, c1)], rs, _, _, _, _, _, ⟨rfl, rfl, rfl, rfl, rfl⟩, rfl, ?_, by simp at hL ⊢; omega, fun c' hc' => ?_, fun c' hc' => hR c' (List.mem_cons_of_mem _ hc')⟩
          · have := hI3.edit (y := .list (cs.map clv ++ [AV.tup [.str a, .str o, .str c1]])) (show h8.length = b + e.length by omega)
            rw [List.map_append]
            exact this
          · rcases List.mem_append.mp hc' with z | z
            · exact hG c' z
            · rw [List.mem_singleton.mp z]; exact ⟨ma, mo, mc⟩
        rw [es_seq]
        simp only [es_asg, en_if, en_test, en_bin, en_var, vAdd_ii, vAdd_ss, vAdd_ll, vSub_ii, vMul_ii, vDiv_ii, vMod_ii, vLt_ii, vLe_ii, vGt_ii, vGe_ii, vEq_ii, vEq_ss, vNe_ii, vNe_ss, vIx_t, vIx_l, vIx_s, vIx_r, vLen_s, vLen_t, vLen_l, vLen_r, List.getElem?_cons_zero, List.getElem?_cons_succ, List.set_cons_zero, List.set_cons_succ, Option.some.injEq, AV.int.injEq, AV.bl.injEq, AV.str.injEq, AV.ref.injEq, AV.tup.injEq, AV.lst.injEq, AO.list.injEq, List.cons.injEq, exists_eq_left', exists_eq_left, exists_and_left, List.map_cons, List.map_nil, List.replicate, List.cons_append, List.nil_append, and_true, true_and, if_true, Nat.sub_self, ite_true, List.length_cons, List.length_nil, Nat.zero_add, Nat.reduceAdd, Nat.reduceSub, List.length_set, d1, d2]
        split
        · simp only [en_pureL, en_list, en_cons, en_nil, en_c, eg_name, List.getElem?_cons_zero, List.getElem?_cons_succ, List.set_cons_zero, List.set_cons_succ, Option.some.injEq, AV.int.injEq, AV.bl.injEq, AV.str.injEq, AV.ref.injEq, AV.tup.injEq, AV.lst.injEq, AO.list.injEq, List.cons.injEq, exists_eq_left', exists_eq_left, exists_and_left, List.map_cons, List.map_nil, List.replicate, List.cons_append, List.nil_append, and_true, true_and, if_true, Nat.sub_self, ite_true, List.length_cons, List.length_nil, Nat.zero_add, Nat.reduceAdd, Nat.reduceSub, List.length_set]
          exact ⟨rfl, (fin [60] [60, 61] none (by decide) (by decide)).mono (fun _ _ z => z) (fun _ _ z => z.elim) (fun _ _ z => z.elim) (fun _ _ z => z.elim)⟩
        · simp only [en_pureL, en_list, en_cons, en_nil, en_c, eg_name, List.getElem?_cons_zero, List.getElem?_cons_succ, List.set_cons_zero, List.set_cons_succ, Option.some.injEq, AV.int.injEq, AV.bl.injEq, AV.str.injEq, AV.ref.injEq, AV.tup.injEq, AV.lst.injEq, AO.list.injEq, List.cons.injEq, exists_eq_left', exists_eq_left, exists_and_left, List.map_cons, List.map_nil, List.replicate, List.cons_append, List.nil_append, and_true, true_and, if_true, Nat.sub_self, ite_true, List.length_cons, List.length_nil, Nat.zero_add, Nat.reduceAdd, Nat.reduceSub, List.length_set]
          exact ⟨rfl, (fin [61] [60, 61] none (by decide) (by decide)).mono (fun _ _ z => z) (fun _ _ z => z.elim) (fun _ _ z => z.elim) (fun _ _ z => z.elim)⟩
    · rintro ⟨cs, rs, w5, w6, w7, w8, w9, rfl, hr, hI, hL, hG, hR⟩
      simp only [en_bind, en_ok, en_bad, en_lift, en_var, en_c, en_bin, en_un, en_test, en_chain, en_andT, en_orT, en_notT, en_and, en_or, en_not, en_if, en_nil, en_cons, en_tup, en_list, en_pureL, en_newL, en_fn, en_call, en_callK, en_methS, en_oN, en_oS, en_sl, en_rng1, en_iter, en_lc, es_seq, es_skip, es_ret, es_retN, es_if, es_asg, es_par2, es_for, eg_name, eg_nil, eg_cons, eg_tup, eg_sub, es_drop, es_bad, es_try0, en_listOf, en_methO, es_setL1, es_setL0, en_set0, en_fmt, en_joinN, en_joinC, en_enum, en_sortS, en_split, en_rng2, vIxA_t, vIxA_l, vIxA_s, vLenA_s, vLenA_t, vLenA_l, vMulA_ii, List.getElem?_cons_zero, List.getElem?_cons_succ, List.set_cons_zero, List.set_cons_succ, Option.some.injEq, AV.int.injEq, AV.bl.injEq, AV.str.injEq, AV.ref.injEq, AV.tup.injEq, AV.lst.injEq, AO.list.injEq, List.cons.injEq, exists_eq_left', exists_eq_left, exists_and_left, List.map_cons, List.map_nil, List.replicate, List.cons_append, List.nil_append, and_true, true_and, if_true, Nat.sub_self, ite_true, List.length_cons, List.length_nil, Nat.zero_add, Nat.reduceAdd, Nat.reduceSub, List.length_set]
      exact ⟨_, hI, .lst (cs.map clv), .list (by omega) (hI.last (by omega)) cl_closed, fun h2 k2 => ⟨⟨cs, rfl, by omega, hG⟩, k2⟩⟩
    · exact ⟨[], cs0, _, _, _, _, _, rfl, rfl, hh9, by simp, by simp, hg0⟩
end
theorem cls_of {p : Cl → Prop} : ∀ {ys : List AV}, (∀ y ∈ ys, ∃ c, y = clv c ∧ p c) → ∃ l : List Cl, ys = l.map clv ∧ ∀ s ∈ l, p s
  | [], _ => ⟨[], rfl, by simp⟩
  | y :: ys, h => by
    obtain ⟨s, rfl, hs⟩ := h _ (List.mem_cons_self ..)
    obtain ⟨l, rfl, hl⟩ := cls_of (ys := ys) fun z hz => h z (List.mem_cons_of_mem _ hz)
    refine ⟨s :: l, rfl, fun t ht => ?_⟩
    rcases List.mem_cons.mp ht with e | e
    · rw [e]; exact hs
    · exact hl t e
theorem atI_neg {α : Type} {l : List α} {i : Int} (h0 : -(l.length : Int) ≤ i) (h1 : i < l.length) : ∃ v, atI l i = some v ∧ v ∈ l := by
  by_cases hi : 0 ≤ i
  · exact atI_nat' hi h1
  · have hj : (i + (l.length : Int)).toNat < l.length := by omega
    refine ⟨l[(i + (l.length : Int)).toNat], ?_, List.getElem_mem hj⟩
    unfold atI ixN
    rw [if_neg hi, if_pos h0]
    exact List.getElem?_eq_getElem hj
theorem op60 : ([60] : List Nat) ∈ OPS := by decide
theorem op61 : ([61] : List Nat) ∈ OPS := by decide
theorem op6061 : ([60, 61] : List Nat) ∈ OPS := by decide
section
variable {e : AHeap} {b : Nat}
theorem pickN {names : List (List Nat)} {q : Int} (q0 : -(names.length : Int) ≤ q) (q1 : q < names.length) : ∃ s, atI (names.map AV.str) q = some (.str s) ∧ s ∈ names := by
  obtain ⟨v, ev, mv⟩ := atI_neg (l := names.map AV.str) (by simpa using q0) (by simpa using q1)
  obtain ⟨s, hs, rfl⟩ := List.mem_map.mp mv
  exact ⟨s, ev, hs⟩
theorem shuf_names {l' : List AV} {names : List (List Nat)} (hp : l'.Perm (names.map AV.str)) : ∃ sh : List (List Nat), l' = sh.map AV.str ∧ sh.length = names.length ∧ ∀ s ∈ sh, s ∈ names := by
  obtain ⟨sh, rfl, h⟩ := strs_of (p := fun s => s ∈ names) (ys := l') fun y hy => by
    obtain ⟨s, hs, rfl⟩ := List.mem_map.mp (hp.mem_iff.mp hy)
    exact ⟨s, rfl, hs⟩
  exact ⟨sh, rfl, by simpa using hp.length_eq, h⟩
theorem shuf_cls {l' : List AV} {cs : List Cl} (hp : l'.Perm (cs.map clv)) : ∃ sh : List Cl, l' = sh.map clv ∧ sh.length = cs.length ∧ ∀ s ∈ sh, s ∈ cs := by
  obtain ⟨sh, rfl, h⟩ := cls_of (p := fun s => s ∈ cs) (ys := l') fun y hy => by
    obtain ⟨s, hs, rfl⟩ := List.mem_map.mp (hp.mem_iff.mp hy)
    exact ⟨s, rfl, hs⟩
  exact ⟨sh, rfl, by simpa using hp.length_eq, h⟩
/-- the shuffled list of the claims at the end of the heap -/
theorem shuf_fin {h h' : AHeap} {n i : Nat} {k : Int} {names : List (List Nat)} {cs : List Cl} (hc : e.all (AO.closed 0) = true) (hn : n < b) (hI : HI (e ++ [.list (cs.map clv)]) b h') (hi : i = b + e.length) (hl : cs.length ≤ 10000) (hk : (cs.length : Int) ≤ k) (hG : ∀ c ∈ cs, Gd names c) :
    Ens (m__law_shuffled [.ref n, .ref i] h') fun v h' => ∃ e', HI (e ++ e') b h' ∧ ∃ x, Sees h' h.length v x ∧ ∀ h2, HI e b h2 → Cls names k x ∧ HI e b h2 := by
  refine (shuf_spec hI (by rw [List.all_append, hc]; simp [AO.closed, cl_closed]) hn (x := .ref i) (l := cs.map clv) (.inr ⟨e.length, by rw [hi], by simp⟩) cl_closed (by simpa using hl)).mono ?_
  rintro v h3 ⟨⟨l', rfl, hp⟩, hI3⟩
  obtain ⟨sh, rfl, hl2, hm⟩ := shuf_cls hp
  exact ⟨_, hI3, _, .pure cl_closed, fun h2 k2 => ⟨⟨sh, rfl, by omega, fun c hcc => hG c (hm c hcc)⟩, k2⟩⟩
theorem ring_spec {h : AHeap} {n : Nat} {names : List (List Nat)} (hh : HI e b h) (hc : e.all (AO.closed 0) = true) (hn : n < b) (h1 : 1 ≤ names.length) (h2 : names.length ≤ 10000) :
    Ens (m__law_ring [.ref n, .lst (names.map AV.str)] h) fun v h' => Cls names names.length v ∧ HI e b h' := by
  have hlen := hh.len
  refine en_defH rfl hc hh ?_
  refine es_cut (fun ρ1 h1 => ∃ so : List (List Nat), ρ1 = [some (.ref n), some (.lst (names.map AV.str)), some (.lst (so.map AV.str)), none, none, none] ∧ HI e b h1 ∧ 1 ≤ so.length ∧ so.length ≤ names.length ∧ ∀ s ∈ so, s ∈ names) ?_ fun ρ1 h1' => ?_
  · simp only [en_bind, en_ok, en_bad, en_lift, en_var, en_c, en_bin, en_un, en_test, en_chain, en_andT, en_orT, en_notT, en_and, en_or, en_not, en_if, en_nil, en_cons, en_tup, en_list, en_pureL, en_newL, en_fn, en_call, en_callK, en_methS, en_oN, en_oS, en_sl, en_rng1, en_iter, en_lc, es_seq, es_skip, es_ret, es_retN, es_if, es_asg, es_par2, es_for, eg_name, eg_nil, eg_cons, eg_tup, eg_sub, es_drop, es_bad, es_try0, en_listOf, en_methO, es_setL1, es_setL0, en_set0, en_fmt, en_joinN, en_joinC, en_enum, en_sortS, en_split, en_rng2, vIxA_t, vIxA_l, vIxA_s, vLenA_s, vLenA_t, vLenA_l, vMulA_ii, vAdd_ii, vAdd_ss, vAdd_ll, vSub_ii, vMul_ii, vDiv_ii, vMod_ii, vLt_ii, vLe_ii, vGt_ii, vGe_ii, vEq_ii, vEq_ss, vNe_ii, vNe_ss, vIx_t, vIx_l, vIx_s, vIx_r, vLen_s, vLen_t, vLen_l, vLen_r, List.getElem?_cons_zero, List.getElem?_cons_succ, List.set_cons_zero, List.set_cons_succ, Option.some.injEq, AV.int.injEq, AV.bl.injEq, AV.str.injEq, AV.ref.injEq, AV.tup.injEq, AV.lst.injEq, AO.list.injEq, List.cons.injEq, exists_eq_left', exists_eq_left, exists_and_left, List.map_cons, List.map_nil, List.replicate, List.cons_append, List.nil_append, and_true, true_and, if_true, Nat.sub_self, ite_true, List.length_cons, List.length_nil, Nat.zero_add, Nat.reduceAdd, Nat.reduceSub, List.length_set]
    refine (shuf_spec hh hc hn (x := .lst (names.map AV.str)) (.inl rfl) strs_closed (by simpa using h2)).mono ?_
    rintro v h3 ⟨⟨l', rfl, hp⟩, hh3⟩
    obtain ⟨sh, rfl, hsl, hsm⟩ := shuf_names hp
    simp only [List.length_map]
    refine (draw_spec hh3 hn (by omega) (by omega)).mono ?_
    rintro w h4 ⟨⟨q, rfl, q0, q1⟩, hh4⟩
    obtain ⟨j, rfl⟩ := Int.eq_ofNat_of_zero_le q0
    have cutE : vSl h4 (.lst (sh.map AV.str)) none (some (1 + (j : Int))) = some (.lst ((sh.take (1 + j)).map AV.str)) := by
      show some (AV.lst (AI.cutL (sh.map AV.str) none (some (1 + (j : Int))))) = _
      rw [show (1 + (j : Int)) = ((1 + j : Nat) : Int) by omega, cut_take (by rw [List.length_map]; omega), List.map_take]
    refine ⟨_, vAdd_ii, _, rfl, _, cutE, sh.take (1 + j), ?_⟩
    have sl : (sh.take (1 + j)).length = 1 + j := by rw [List.length_take]; omega
    exact ⟨rfl, hh4, by omega, by omega, fun s hs => hsm s (List.mem_of_mem_take hs)⟩
  rintro ⟨so, rfl, hh1, so1, so2, som⟩
  refine es_cut (fun ρ1 h1 => ∃ (cs : List Cl) (w5 : Option AV), ρ1 = [some (.ref n), some (.lst (names.map AV.str)), some (.lst (so.map AV.str)), some (.ref h.length), none, w5] ∧ HI (e ++ [.list (cs.map clv)]) b h1 ∧ cs.length = so.length ∧ ∀ c ∈ cs, Gd names c) ?_ fun ρ2 h2' => ?_
  · simp only [en_bind, en_ok, en_bad, en_lift, en_var, en_c, en_bin, en_un, en_test, en_chain, en_andT, en_orT, en_notT, en_and, en_or, en_not, en_if, en_nil, en_cons, en_tup, en_list, en_pureL, en_newL, en_fn, en_call, en_callK, en_methS, en_oN, en_oS, en_sl, en_rng1, en_iter, en_lc, es_seq, es_skip, es_ret, es_retN, es_if, es_asg, es_par2, es_for, eg_name, eg_nil, eg_cons, eg_tup, eg_sub, es_drop, es_bad, es_try0, en_listOf, en_methO, es_setL1, es_setL0, en_set0, en_fmt, en_joinN, en_joinC, en_enum, en_sortS, en_split, en_rng2, vIxA_t, vIxA_l, vIxA_s, vLenA_s, vLenA_t, vLenA_l, vMulA_ii, vAdd_ii, vAdd_ss, vAdd_ll, vSub_ii, vMul_ii, vDiv_ii, vMod_ii, vLt_ii, vLe_ii, vGt_ii, vGe_ii, vEq_ii, vEq_ss, vNe_ii, vNe_ss, vIx_t, vIx_l, vIx_s, vIx_r, vLen_s, vLen_t, vLen_l, vLen_r, List.getElem?_cons_zero, List.getElem?_cons_succ, List.set_cons_zero, List.set_cons_succ, Option.some.injEq, AV.int.injEq, AV.bl.injEq, AV.str.injEq, AV.ref.injEq, AV.tup.injEq, AV.lst.injEq, AO.list.injEq, List.cons.injEq, exists_eq_left', exists_eq_left, exists_and_left, List.map_cons, List.map_nil, List.replicate, List.cons_append, List.nil_append, and_true, true_and, if_true, Nat.sub_self, ite_true, List.length_cons, List.length_nil, Nat.zero_add, Nat.reduceAdd, Nat.reduceSub, List.length_set, List.length_map]
    refine ⟨by unfold AI.inR; exact decide_eq_true (by omega), szOk_le (by rw [iInts_len]; omega), ?_⟩
    refine en_lcL (fun h' => HI e b h') (fun y => ∃ c, y = clv c ∧ Gd names c) ?_ hh1 ?_
    · rintro v hv h5 hh5
      obtain ⟨i, rfl, hi⟩ := iInts_mem hv
      refine ⟨_, rfl, ?_⟩
      simp only [en_bind, en_ok, en_bad, en_lift, en_var, en_c, en_bin, en_un, en_test, en_chain, en_andT, en_orT, en_notT, en_and, en_or, en_not, en_if, en_nil, en_cons, en_tup, en_list, en_pureL, en_newL, en_fn, en_call, en_callK, en_methS, en_oN, en_oS, en_sl, en_rng1, en_iter, en_lc, es_seq, es_skip, es_ret, es_retN, es_if, es_asg, es_par2, es_for, eg_name, eg_nil, eg_cons, eg_tup, eg_sub, es_drop, es_bad, es_try0, en_listOf, en_methO, es_setL1, es_setL0, en_set0, en_fmt, en_joinN, en_joinC, en_enum, en_sortS, en_split, en_rng2, vIxA_t, vIxA_l, vIxA_s, vLenA_s, vLenA_t, vLenA_l, vMulA_ii, vAdd_ii, vAdd_ss, vAdd_ll, vSub_ii, vMul_ii, vDiv_ii, vMod_ii, vLt_ii, vLe_ii, vGt_ii, vGe_ii, vEq_ii, vEq_ss, vNe_ii, vNe_ss, vIx_t, vIx_l, vIx_s, vIx_r, vLen_s, vLen_t, vLen_l, vLen_r, List.getElem?_cons_zero, List.getElem?_cons_succ, List.set_cons_zero, List.set_cons_succ, Option.some.injEq, AV.int.injEq, AV.bl.injEq, AV.str.injEq, AV.ref.injEq, AV.tup.injEq, AV.lst.injEq, AO.list.injEq, List.cons.injEq, exists_eq_left', exists_eq_left, exists_and_left, List.map_cons, List.map_nil, List.replicate, List.cons_append, List.nil_append, and_true, true_and, if_true, Nat.sub_self, ite_true, List.length_cons, List.length_nil, Nat.zero_add, Nat.reduceAdd, Nat.reduceSub, List.length_set, wipeA, List.foldl]
      obtain ⟨s, es, ms⟩ := pickN (names := so) (q := 0 + (i : Int) - 1) (by omega) (by omega)
      obtain ⟨t, et, mt⟩ := pickN (names := so) (q := 0 + (i : Int)) (by omega) (by omega)
      rw [es]
      refine ⟨_, rfl, rfl, (draw_spec hh5 hn (by decide) (by decide)).mono ?_⟩
      rintro w h6 ⟨⟨q, rfl, q0, q1⟩, hh6⟩
      obtain ⟨o, eo, mo⟩ : ∃ o, atI [AV.str [60, 61], AV.str [61]] q = some (.str o) ∧ o ∈ OPS := by
        obtain ⟨v, ev, mv⟩ := atI_nat' (l := [AV.str [60, 61], AV.str [61]]) q0 q1
        simp only [List.mem_cons, List.not_mem_nil, or_false] at mv
        rcases mv with rfl | rfl <;> exact ⟨_, ev, by decide⟩
      exact ⟨_, by rw [vIxA_l]; exact eo, _, et, rfl, ⟨(s, o, t), rfl, som s ms, mo, som t mt⟩, hh6⟩
    · rintro ys h5 hy hY hh5
      rw [iInts_len] at hy
      obtain ⟨cs, rfl, hG⟩ := cls_of hY
      have hl5 := hh5.len
      rw [show h5.length = h.length by omega]
      exact ⟨cs, _, ⟨rfl, rfl⟩, hh5.push _, by rw [List.length_map] at hy; omega, hG⟩
  rintro ⟨cs, w5, rfl, hI, hcl, hG⟩
  refine es_cut (fun ρ1 h1 => ∃ (a : Int), ρ1 = [some (.ref n), some (.lst (names.map AV.str)), some (.lst (so.map AV.str)), some (.ref h.length), some (.int a), w5] ∧ HI (e ++ [.list (cs.map clv)]) b h1 ∧ 0 ≤ a ∧ a < so.length) ?_ fun ρ3 h3' => ?_
  · simp only [en_bind, en_ok, en_bad, en_lift, en_var, en_c, en_bin, en_un, en_test, en_chain, en_andT, en_orT, en_notT, en_and, en_or, en_not, en_if, en_nil, en_cons, en_tup, en_list, en_pureL, en_newL, en_fn, en_call, en_callK, en_methS, en_oN, en_oS, en_sl, en_rng1, en_iter, en_lc, es_seq, es_skip, es_ret, es_retN, es_if, es_asg, es_par2, es_for, eg_name, eg_nil, eg_cons, eg_tup, eg_sub, es_drop, es_bad, es_try0, en_listOf, en_methO, es_setL1, es_setL0, en_set0, en_fmt, en_joinN, en_joinC, en_enum, en_sortS, en_split, en_rng2, vIxA_t, vIxA_l, vIxA_s, vLenA_s, vLenA_t, vLenA_l, vMulA_ii, vAdd_ii, vAdd_ss, vAdd_ll, vSub_ii, vMul_ii, vDiv_ii, vMod_ii, vLt_ii, vLe_ii, vGt_ii, vGe_ii, vEq_ii, vEq_ss, vNe_ii, vNe_ss, vIx_t, vIx_l, vIx_s, vIx_r, vLen_s, vLen_t, vLen_l, vLen_r, List.getElem?_cons_zero, List.getElem?_cons_succ, List.set_cons_zero, List.set_cons_succ, Option.some.injEq, AV.int.injEq, AV.bl.injEq, AV.str.injEq, AV.ref.injEq, AV.tup.injEq, AV.lst.injEq, AO.list.injEq, List.cons.injEq, exists_eq_left', exists_eq_left, exists_and_left, List.map_cons, List.map_nil, List.replicate, List.cons_append, List.nil_append, and_true, true_and, if_true, Nat.sub_self, ite_true, List.length_cons, List.length_nil, Nat.zero_add, Nat.reduceAdd, Nat.reduceSub, List.length_set, List.length_map]
    refine (draw_spec hI hn (by omega) (by omega)).mono ?_
    rintro w h4 ⟨⟨q, rfl, q0, q1⟩, hh4⟩
    exact ⟨q, rfl, hh4, q0, q1⟩
  rintro ⟨a, rfl, hI3, a0, a1⟩
  have clAt : ∀ {cs : List Cl} {a : Int} {h9 : AHeap}, HI (e ++ [.list (cs.map clv)]) b h9 → 0 ≤ a → a < cs.length → (∀ c ∈ cs, Gd names c) → ∃ c j, vIxA h9 (.ref h.length) (.int a) = some (clv c) ∧ Gd names c ∧ ixN (cs.map clv).length a = some j ∧ j < cs.length := by
    intro cs a h9 k a0 a1 hG
    obtain ⟨v, ev, mv⟩ := atI_nat' (l := cs.map clv) a0 (by simpa using a1)
    obtain ⟨c, hc1, rfl⟩ := List.mem_map.mp mv
    refine ⟨c, a.toNat, by rw [vIxA_rl (k.last (by omega))]; exact ev, hG c hc1, ?_, by omega⟩
    unfold ixN
    rw [if_pos a0, List.length_map, if_pos a1]
  have put : ∀ {cs : List Cl} {c : Cl} {j : Nat} {h9 : AHeap}, HI (e ++ [.list (cs.map clv)]) b h9 → j < cs.length → (∀ c ∈ cs, Gd names c) → Gd names c → HI (e ++ [.list ((cs.set j c).map clv)]) b (h9.set h.length (.list ((cs.map clv).set j (clv c)))) ∧ (cs.set j c).length = cs.length ∧ ∀ c' ∈ cs.set j c, Gd names c' := by
    intro cs c j h9 k hj hG hc9
    refine ⟨?_, by simp, fun c' hc' => ?_⟩
    · rw [List.map_set]; exact k.edit (by omega)
    · rcases List.mem_or_eq_of_mem_set hc' with z | z
      · exact hG c' z
      · rw [z]; exact hc9
  have gx : ∀ (c : Cl) (h9 : AHeap), vIxA h9 (clv c) (.int 0) = some (.str c.1) ∧ vIxA h9 (clv c) (.int 1) = some (.str c.2.1) ∧ vIxA h9 (clv c) (.int 2) = some (.str c.2.2) := fun c h9 => ⟨by unfold clv; rw [vIxA_t]; rfl, by unfold clv; rw [vIxA_t]; rfl, by unfold clv; rw [vIxA_t]; rfl⟩
  refine es_cut (fun ρ1 h1 => ∃ (cs : List Cl), ρ1 = [some (.ref n), some (.lst (names.map AV.str)), some (.lst (so.map AV.str)), some (.ref h.length), some (.int a), w5] ∧ HI (e ++ [.list (cs.map clv)]) b h1 ∧ cs.length = so.length ∧ ∀ c ∈ cs, Gd names c) ?_ fun ρ4 h4' => ?_
  · simp only [en_bind, en_ok, en_bad, en_lift, en_var, en_c, en_bin, en_un, en_test, en_chain, en_andT, en_orT, en_notT, en_and, en_or, en_not, en_if, en_nil, en_cons, en_tup, en_list, en_pureL, en_newL, en_fn, en_call, en_callK, en_methS, en_oN, en_oS, en_sl, en_rng1, en_iter, en_lc, es_seq, es_skip, es_ret, es_retN, es_if, es_asg, es_par2, es_for, eg_name, eg_nil, eg_cons, eg_tup, eg_sub, es_drop, es_bad, es_try0, en_listOf, en_methO, es_setL1, es_setL0, en_set0, en_fmt, en_joinN, en_joinC, en_enum, en_sortS, en_split, en_rng2, vIxA_t, vIxA_l, vIxA_s, vLenA_s, vLenA_t, vLenA_l, vMulA_ii, vAdd_ii, vAdd_ss, vAdd_ll, vSub_ii, vMul_ii, vDiv_ii, vMod_ii, vLt_ii, vLe_ii, vGt_ii, vGe_ii, vEq_ii, vEq_ss, vNe_ii, vNe_ss, vIx_t, vIx_l, vIx_s, vIx_r, vLen_s, vLen_t, vLen_l, vLen_r, List.getElem?_cons_zero, List.getElem?_cons_succ, List.set_cons_zero, List.set_cons_succ, Option.some.injEq, AV.int.injEq, AV.bl.injEq, AV.str.injEq, AV.ref.injEq, AV.tup.injEq, AV.lst.injEq, AO.list.injEq, List.cons.injEq, exists_eq_left', exists_eq_left, exists_and_left, List.map_cons, List.map_nil, List.replicate, List.cons_append, List.nil_append, and_true, true_and, if_true, Nat.sub_self, ite_true, List.length_cons, List.length_nil, Nat.zero_add, Nat.reduceAdd, Nat.reduceSub, List.length_set]
    refine (draw_spec hI3 hn (by decide) (by decide)).mono ?_
    rintro w h4 ⟨⟨q, rfl, q0, q1⟩, hh4⟩
    refine ⟨_, vEq_ii, _, rfl, ?_⟩
    split
    · obtain ⟨c, j, x1, x2, x3, x4⟩ := clAt hh4 a0 (by omega) hG
      refine ⟨_, x1, _, (gx c h4).1, _, x1, _, (gx c h4).2.2, rfl, _, hh4.last (by omega), _, x3, ?_⟩
      obtain ⟨z1, z2, z3⟩ := put (c := (c.1, [60], c.2.2)) hh4 x4 hG ⟨x2.1, op60, x2.2.2⟩
      exact ⟨_, z1, by omega, z3⟩
    · exact ⟨cs, hh4, hcl, hG⟩
  clear hI hcl hG hI3
  rintro ⟨cs, rfl, hI, hcl, hG⟩
  refine es_cut (fun ρ1 h1 => ∃ (cs : List Cl) (w5 : Option AV), ρ1 = [some (.ref n), some (.lst (names.map AV.str)), some (.lst (so.map AV.str)), some (.ref h.length), some (.int a), w5] ∧ HI (e ++ [.list (cs.map clv)]) b h1 ∧ cs.length = so.length ∧ ∀ c ∈ cs, Gd names c) ?_ fun ρ4 h4' => ?_
  · simp only [es_for, en_rng1, en_fn, en_cons, en_var, en_nil, List.getElem?_cons_zero, List.getElem?_cons_succ, List.set_cons_zero, List.set_cons_succ, Option.some.injEq, AV.int.injEq, AV.bl.injEq, AV.str.injEq, AV.ref.injEq, AV.tup.injEq, AV.lst.injEq, AO.list.injEq, List.cons.injEq, exists_eq_left', exists_eq_left, exists_and_left, List.map_cons, List.map_nil, List.replicate, List.cons_append, List.nil_append, and_true, true_and, if_true, Nat.sub_self, ite_true, List.length_cons, List.length_nil, Nat.zero_add, Nat.reduceAdd, Nat.reduceSub, List.length_set]
    refine ⟨_, by rw [vLenA_rl (hI.last (by omega))], _, rfl, by rw [List.length_map]; unfold AI.inR; exact decide_eq_true (by omega), ?_⟩
    refine es_loop (fun r ρ1 h1 => (∀ v ∈ r, ∃ i : Nat, v = .int i ∧ i < so.length) ∧ ∃ (cs : List Cl) (w5 : Option AV), ρ1 = [some (.ref n), some (.lst (names.map AV.str)), some (.lst (so.map AV.str)), some (.ref h.length), some (.int a), w5] ∧ HI (e ++ [.list (cs.map clv)]) b h1 ∧ cs.length = so.length ∧ ∀ c ∈ cs, Gd names c) (fun v r ρ h' => ?_) (fun ρ h' => fun z => z.2) ⟨fun v hv => ?_, cs, _, rfl, hI, hcl, hG⟩
    · rintro ⟨hv, cs, w5, rfl, hI, hcl, hG⟩
      obtain ⟨i, rfl, hi⟩ := hv _ (List.mem_cons_self ..)
      have hv' := fun v hw => hv v (List.mem_cons_of_mem _ hw)
      obtain ⟨c, j, x1, x2, x3, x4⟩ := clAt hI (a := i) (by omega) (by omega) hG
      simp only [en_bind, en_ok, en_bad, en_lift, en_var, en_c, en_bin, en_un, en_test, en_chain, en_andT, en_orT, en_notT, en_and, en_or, en_not, en_if, en_nil, en_cons, en_tup, en_list, en_pureL, en_newL, en_fn, en_call, en_callK, en_methS, en_oN, en_oS, en_sl, en_rng1, en_iter, en_lc, es_seq, es_skip, es_ret, es_retN, es_if, es_asg, es_par2, es_for, eg_name, eg_nil, eg_cons, eg_tup, eg_sub, es_drop, es_bad, es_try0, en_listOf, en_methO, es_setL1, es_setL0, en_set0, en_fmt, en_joinN, en_joinC, en_enum, en_sortS, en_split, en_rng2, vIxA_t, vIxA_l, vIxA_s, vLenA_s, vLenA_t, vLenA_l, vMulA_ii, vAdd_ii, vAdd_ss, vAdd_ll, vSub_ii, vMul_ii, vDiv_ii, vMod_ii, vLt_ii, vLe_ii, vGt_ii, vGe_ii, vEq_ii, vEq_ss, vNe_ii, vNe_ss, vIx_t, vIx_l, vIx_s, vIx_r, vLen_s, vLen_t, vLen_l, vLen_r, List.getElem?_cons_zero, List.getElem?_cons_succ, List.set_cons_zero, List.set_cons_succ, Option.some.injEq, AV.int.injEq, AV.bl.injEq, AV.str.injEq, AV.ref.injEq, AV.tup.injEq, AV.lst.injEq, AO.list.injEq, List.cons.injEq, exists_eq_left', exists_eq_left, exists_and_left, List.map_cons, List.map_nil, List.replicate, List.cons_append, List.nil_append, and_true, true_and, if_true, Nat.sub_self, ite_true, List.length_cons, List.length_nil, Nat.zero_add, Nat.reduceAdd, Nat.reduceSub, List.length_set, x1, (gx c h').2.1]
      have no : ∀ h9, HI (e ++ [.list (cs.map clv)]) b h9 → (∀ v ∈ r, ∃ i : Nat, v = .int i ∧ i < so.length) ∧ ∃ (cs : List Cl), HI (e ++ [.list (cs.map clv)]) b h9 ∧ cs.length = so.length ∧ ∀ c ∈ cs, Gd names c := fun h9 k => ⟨hv', cs, k, hcl, hG⟩
      split
      · refine (draw_spec hI hn (by decide) (by decide)).mono ?_
        rintro w h4 ⟨⟨q, rfl, q0, q1⟩, hh4⟩
        refine ⟨_, vEq_ii, _, rfl, ?_⟩
        split
        · obtain ⟨c, j, x1, x2, x3, x4⟩ := clAt hh4 (a := i) (by omega) (by omega) hG
          refine ⟨_, x1, _, (gx c h4).2.2, _, x1, _, (gx c h4).1, rfl, _, hh4.last (by omega), _, x3, hv', ?_⟩
          obtain ⟨z1, z2, z3⟩ := put (c := (c.2.2, [61], c.1)) hh4 x4 hG ⟨x2.2.2, op61, x2.1⟩
          exact ⟨_, z1, by omega, z3⟩
        · exact no _ hh4
      · rw [if_neg (by decide)]
        exact no _ hI
    · rw [List.length_map] at hv
      obtain ⟨i, rfl, hi⟩ := iInts_mem hv
      exact ⟨i, by rw [Int.zero_add], by omega⟩
  clear hI hcl hG
  rintro ⟨cs, w5, rfl, hI, hcl, hG⟩
  simp only [es_ret, en_call, en_cons, en_nil, en_var, List.getElem?_cons_zero, List.getElem?_cons_succ, List.set_cons_zero, List.set_cons_succ, Option.some.injEq, AV.int.injEq, AV.bl.injEq, AV.str.injEq, AV.ref.injEq, AV.tup.injEq, AV.lst.injEq, AO.list.injEq, List.cons.injEq, exists_eq_left', exists_eq_left, exists_and_left, List.map_cons, List.map_nil, List.replicate, List.cons_append, List.nil_append, and_true, true_and, if_true, Nat.sub_self, ite_true, List.length_cons, List.length_nil, Nat.zero_add, Nat.reduceAdd, Nat.reduceSub, List.length_set]
  exact shuf_fin hc hn hI (by omega) (by omega) (by omega) hG
theorem row_spec {h : AHeap} {n : Nat} {names : List (List Nat)} (hh : HI e b h) (hc : e.all (AO.closed 0) = true) (hn : n < b) (h1 : 1 ≤ names.length) (h2 : names.length ≤ 900) :
    Ens (m__law_row [.ref n, .lst (names.map AV.str)] h) fun v h' => Cls names names.length v ∧ HI e b h' := by
  have hlen := hh.len
  refine en_defH rfl hc hh ?_
  refine es_cut (fun ρ1 h1 => ∃ so : List (List Nat), ρ1 = [some (.ref n), some (.lst (names.map AV.str)), some (.lst (so.map AV.str)), some (.lst [.str [60, 61], .str [60], .str [60]]), none, none] ∧ HI e b h1 ∧ so.length = names.length ∧ ∀ s ∈ so, s ∈ names) ?_ fun ρ1 h1' => ?_
  · simp only [en_bind, en_ok, en_bad, en_lift, en_var, en_c, en_bin, en_un, en_test, en_chain, en_andT, en_orT, en_notT, en_and, en_or, en_not, en_if, en_nil, en_cons, en_tup, en_list, en_pureL, en_newL, en_fn, en_call, en_callK, en_methS, en_oN, en_oS, en_sl, en_rng1, en_iter, en_lc, es_seq, es_skip, es_ret, es_retN, es_if, es_asg, es_par2, es_for, eg_name, eg_nil, eg_cons, eg_tup, eg_sub, es_drop, es_bad, es_try0, en_listOf, en_methO, es_setL1, es_setL0, en_set0, en_fmt, en_joinN, en_joinC, en_enum, en_sortS, en_split, en_rng2, vIxA_t, vIxA_l, vIxA_s, vLenA_s, vLenA_t, vLenA_l, vMulA_ii, vAdd_ii, vAdd_ss, vAdd_ll, vSub_ii, vMul_ii, vDiv_ii, vMod_ii, vLt_ii, vLe_ii, vGt_ii, vGe_ii, vEq_ii, vEq_ss, vNe_ii, vNe_ss, vIx_t, vIx_l, vIx_s, vIx_r, vLen_s, vLen_t, vLen_l, vLen_r, List.getElem?_cons_zero, List.getElem?_cons_succ, List.set_cons_zero, List.set_cons_succ, Option.some.injEq, AV.int.injEq, AV.bl.injEq, AV.str.injEq, AV.ref.injEq, AV.tup.injEq, AV.lst.injEq, AO.list.injEq, List.cons.injEq, exists_eq_left', exists_eq_left, exists_and_left, List.map_cons, List.map_nil, List.replicate, List.cons_append, List.nil_append, and_true, true_and, if_true, Nat.sub_self, ite_true, List.length_cons, List.length_nil, Nat.zero_add, Nat.reduceAdd, Nat.reduceSub, List.length_set]
    refine (shuf_spec hh hc hn (x := .lst (names.map AV.str)) (.inl rfl) strs_closed (by simpa using (by omega : names.length ≤ 10000))).mono ?_
    rintro v h3 ⟨⟨l', rfl, hp⟩, hh3⟩
    obtain ⟨sh, rfl, hsl, hsm⟩ := shuf_names hp
    exact ⟨rfl, rfl, _, _, ⟨rfl, rfl⟩, _, _, rfl, rfl, sh, ⟨rfl, rfl⟩, hh3, hsl, hsm⟩
  rintro ⟨so, rfl, hh1, sol, som⟩
  refine es_cut (fun ρ1 h1 => ∃ (cs : List Cl) (w5 : Option AV), ρ1 = [some (.ref n), some (.lst (names.map AV.str)), some (.lst (so.map AV.str)), some (.lst [.str [60, 61], .str [60], .str [60]]), some (.ref h.length), w5] ∧ HI (e ++ [.list (cs.map clv)]) b h1 ∧ cs.length + 1 = so.length ∧ ∀ c ∈ cs, Gd names c) ?_ fun ρ2 h2' => ?_
  · simp only [en_bind, en_ok, en_bad, en_lift, en_var, en_c, en_bin, en_un, en_test, en_chain, en_andT, en_orT, en_notT, en_and, en_or, en_not, en_if, en_nil, en_cons, en_tup, en_list, en_pureL, en_newL, en_fn, en_call, en_callK, en_methS, en_oN, en_oS, en_sl, en_rng1, en_iter, en_lc, es_seq, es_skip, es_ret, es_retN, es_if, es_asg, es_par2, es_for, eg_name, eg_nil, eg_cons, eg_tup, eg_sub, es_drop, es_bad, es_try0, en_listOf, en_methO, es_setL1, es_setL0, en_set0, en_fmt, en_joinN, en_joinC, en_enum, en_sortS, en_split, en_rng2, vIxA_t, vIxA_l, vIxA_s, vLenA_s, vLenA_t, vLenA_l, vMulA_ii, vAdd_ii, vAdd_ss, vAdd_ll, vSub_ii, vMul_ii, vDiv_ii, vMod_ii, vLt_ii, vLe_ii, vGt_ii, vGe_ii, vEq_ii, vEq_ss, vNe_ii, vNe_ss, vIx_t, vIx_l, vIx_s, vIx_r, vLen_s, vLen_t, vLen_l, vLen_r, List.getElem?_cons_zero, List.getElem?_cons_succ, List.set_cons_zero, List.set_cons_succ, Option.some.injEq, AV.int.injEq, AV.bl.injEq, AV.str.injEq, AV.ref.injEq, AV.tup.injEq, AV.lst.injEq, AO.list.injEq, List.cons.injEq, exists_eq_left', exists_eq_left, exists_and_left, List.map_cons, List.map_nil, List.replicate, List.cons_append, List.nil_append, and_true, true_and, if_true, Nat.sub_self, ite_true, List.length_cons, List.length_nil, Nat.zero_add, Nat.reduceAdd, Nat.reduceSub, List.length_set, List.length_map]
    refine ⟨1, so.length, ⟨rfl, rfl⟩, rfl, by unfold AI.inR; exact decide_eq_true (by omega), szOk_le (by rw [iInts_len]; omega), ?_⟩
    refine en_lcL (fun h' => HI e b h') (fun y => ∃ c, y = clv c ∧ Gd names c) ?_ hh1 ?_
    · rintro v hv h5 hh5
      obtain ⟨i, rfl, hi⟩ := iInts_mem hv
      refine ⟨_, rfl, ?_⟩
      simp only [en_bind, en_ok, en_bad, en_lift, en_var, en_c, en_bin, en_un, en_test, en_chain, en_andT, en_orT, en_notT, en_and, en_or, en_not, en_if, en_nil, en_cons, en_tup, en_list, en_pureL, en_newL, en_fn, en_call, en_callK, en_methS, en_oN, en_oS, en_sl, en_rng1, en_iter, en_lc, es_seq, es_skip, es_ret, es_retN, es_if, es_asg, es_par2, es_for, eg_name, eg_nil, eg_cons, eg_tup, eg_sub, es_drop, es_bad, es_try0, en_listOf, en_methO, es_setL1, es_setL0, en_set0, en_fmt, en_joinN, en_joinC, en_enum, en_sortS, en_split, en_rng2, vIxA_t, vIxA_l, vIxA_s, vLenA_s, vLenA_t, vLenA_l, vMulA_ii, vAdd_ii, vAdd_ss, vAdd_ll, vSub_ii, vMul_ii, vDiv_ii, vMod_ii, vLt_ii, vLe_ii, vGt_ii, vGe_ii, vEq_ii, vEq_ss, vNe_ii, vNe_ss, vIx_t, vIx_l, vIx_s, vIx_r, vLen_s, vLen_t, vLen_l, vLen_r, List.getElem?_cons_zero, List.getElem?_cons_succ, List.set_cons_zero, List.set_cons_succ, Option.some.injEq, AV.int.injEq, AV.bl.injEq, AV.str.injEq, AV.ref.injEq, AV.tup.injEq, AV.lst.injEq, AO.list.injEq, List.cons.injEq, exists_eq_left', exists_eq_left, exists_and_left, List.map_cons, List.map_nil, List.replicate, List.cons_append, List.nil_append, and_true, true_and, if_true, Nat.sub_self, ite_true, List.length_cons, List.length_nil, Nat.zero_add, Nat.reduceAdd, Nat.reduceSub, List.length_set, wipeA, List.foldl]
      obtain ⟨s, es, ms⟩ := pickN (names := so) (q := 1 + (i : Int) - 1) (by omega) (by omega)
      obtain ⟨t, et, mt⟩ := pickN (names := so) (q := 1 + (i : Int)) (by omega) (by omega)
      rw [es]
      refine ⟨_, rfl, (draw_spec hh5 hn (by decide) (by decide)).mono ?_⟩
      rintro w h6 ⟨⟨q, rfl, q0, q1⟩, hh6⟩
      obtain ⟨o, eo, mo⟩ : ∃ o, atI [AV.str [60, 61], AV.str [60], AV.str [60]] q = some (.str o) ∧ o ∈ OPS := by
        obtain ⟨v, ev, mv⟩ := atI_nat' (l := [AV.str [60, 61], AV.str [60], AV.str [60]]) q0 q1
        simp only [List.mem_cons, List.not_mem_nil, or_false] at mv
        rcases mv with rfl | rfl | rfl <;> exact ⟨_, ev, by decide⟩
      exact ⟨_, by rw [vIxA_l]; exact eo, _, et, rfl, ⟨(s, o, t), rfl, som s ms, mo, som t mt⟩, hh6⟩
    · rintro ys h5 hy hY hh5
      rw [iInts_len] at hy
      obtain ⟨cs, rfl, hG⟩ := cls_of hY
      have hl5 := hh5.len
      rw [show h5.length = h.length by omega]
      exact ⟨cs, _, ⟨rfl, rfl⟩, hh5.push _, by rw [List.length_map] at hy; omega, hG⟩
  rintro ⟨cs, w5, rfl, hI, hcl, hG⟩
  refine es_cut (fun ρ1 h1 => ∃ (cs : List Cl), ρ1 = [some (.ref n), some (.lst (names.map AV.str)), some (.lst (so.map AV.str)), some (.lst [.str [60, 61], .str [60], .str [60]]), some (.ref h.length), w5] ∧ HI (e ++ [.list (cs.map clv)]) b h1 ∧ cs.length ≤ so.length ∧ ∀ c ∈ cs, Gd names c) ?_ fun ρ3 h3' => ?_
  · simp only [en_bind, en_ok, en_bad, en_lift, en_var, en_c, en_bin, en_un, en_test, en_chain, en_andT, en_orT, en_notT, en_and, en_or, en_not, en_if, en_nil, en_cons, en_tup, en_list, en_pureL, en_newL, en_fn, en_call, en_callK, en_methS, en_oN, en_oS, en_sl, en_rng1, en_iter, en_lc, es_seq, es_skip, es_ret, es_retN, es_if, es_asg, es_par2, es_for, eg_name, eg_nil, eg_cons, eg_tup, eg_sub, es_drop, es_bad, es_try0, en_listOf, en_methO, es_setL1, es_setL0, en_set0, en_fmt, en_joinN, en_joinC, en_enum, en_sortS, en_split, en_rng2, vIxA_t, vIxA_l, vIxA_s, vLenA_s, vLenA_t, vLenA_l, vMulA_ii, vAdd_ii, vAdd_ss, vAdd_ll, vSub_ii, vMul_ii, vDiv_ii, vMod_ii, vLt_ii, vLe_ii, vGt_ii, vGe_ii, vEq_ii, vEq_ss, vNe_ii, vNe_ss, vIx_t, vIx_l, vIx_s, vIx_r, vLen_s, vLen_t, vLen_l, vLen_r, List.getElem?_cons_zero, List.getElem?_cons_succ, List.set_cons_zero, List.set_cons_succ, Option.some.injEq, AV.int.injEq, AV.bl.injEq, AV.str.injEq, AV.ref.injEq, AV.tup.injEq, AV.lst.injEq, AO.list.injEq, List.cons.injEq, exists_eq_left', exists_eq_left, exists_and_left, List.map_cons, List.map_nil, List.replicate, List.cons_append, List.nil_append, and_true, true_and, if_true, Nat.sub_self, ite_true, List.length_cons, List.length_nil, Nat.zero_add, Nat.reduceAdd, Nat.reduceSub, List.length_set, List.length_map]
    have no : ∀ h9, HI (e ++ [.list (cs.map clv)]) b h9 → ∃ (cs : List Cl), HI (e ++ [.list (cs.map clv)]) b h9 ∧ cs.length ≤ so.length ∧ ∀ c ∈ cs, Gd names c := fun h9 k => ⟨cs, k, by omega, hG⟩
    split
    · rename_i h2s
      have h2s := of_decide_eq_true h2s
      refine (draw_spec hI hn (by decide) (by decide)).mono ?_
      rintro w h4 ⟨⟨q, rfl, q0, q1⟩, hh4⟩
      refine ⟨_, vEq_ii, _, rfl, ?_⟩
      split
      · obtain ⟨s, es, ms⟩ := pickN (names := so) (q := 0) (by omega) (by omega)
        obtain ⟨t, et, mt⟩ := pickN (names := so) (q := 2) (by omega) (by omega)
        refine ⟨_, hh4.last (by omega), rfl, _, es, _, et, rfl, _, hh4.last (by omega), _, _, append_ok (by rw [List.length_map]; omega), cs ++ [(s, [60, 61], t)], ?_, by simp; omega, fun c hc => ?_⟩
        · have := hh4.edit (y := .list (cs.map clv ++ [AV.tup [.str s, .str [60, 61], .str t]])) (show h.length = b + e.length by omega)
          rw [List.map_append]
          exact this
        · rcases List.mem_append.mp hc with z | z
          · exact hG c z
          · rw [List.mem_singleton.mp z]; exact ⟨som s ms, op6061, som t mt⟩
      · exact no _ hh4
    · rw [if_neg (by decide)]
      exact no _ hI
  clear hI hcl hG
  rintro ⟨cs, rfl, hI, hcl, hG⟩
  simp only [es_ret, en_call, en_cons, en_nil, en_var, List.getElem?_cons_zero, List.getElem?_cons_succ, List.set_cons_zero, List.set_cons_succ, Option.some.injEq, AV.int.injEq, AV.bl.injEq, AV.str.injEq, AV.ref.injEq, AV.tup.injEq, AV.lst.injEq, AO.list.injEq, List.cons.injEq, exists_eq_left', exists_eq_left, exists_and_left, List.map_cons, List.map_nil, List.replicate, List.cons_append, List.nil_append, and_true, true_and, if_true, Nat.sub_self, ite_true, List.length_cons, List.length_nil, Nat.zero_add, Nat.reduceAdd, Nat.reduceSub, List.length_set]
  exact shuf_fin hc hn hI (by omega) (by omega) (by omega) hG
end
section
variable {e : AHeap} {b : Nat}
/-- drawn claims -/
def Drawn (most : Int) (v : AV) : Prop := ∃ (names : List (List Nat)) (cs : List Cl), names.length ≤ 10 ∧ (∀ s ∈ names, VS s) ∧ v = .lst (cs.map clv) ∧ (cs.length : Int) ≤ most ∧ ∀ c ∈ cs, Gd names c
theorem Cls.drawn {names : List (List Nat)} {k most : Int} {v : AV} (h : Cls names k v) (hk : k ≤ most) (hl : names.length ≤ 10) (hv : ∀ s ∈ names, VS s) : Drawn most v := by
  obtain ⟨cs, rfl, h1, h2⟩ := h
  exact ⟨names, cs, hl, hv, rfl, by omega, h2⟩
theorem Cls.closed {names : List (List Nat)} {k : Int} {v : AV} (h : Cls names k v) : v.closed 0 = true := by
  obtain ⟨cs, rfl, h1, h2⟩ := h
  exact cl_closed
theorem some_spec {h : AHeap} {n : Nat} {wide most : Int} (hh : HI e b h) (hc : e.all (AO.closed 0) = true) (hn : n < b) (hw : 1 ≤ wide) (hw2 : wide ≤ 10) (hm : 10 ≤ most) (hm2 : most ≤ 900) :
    Ens (m__law_some [.ref n, .int wide, .int most] h) fun v h' => Drawn most v ∧ HI e b h' := by
  have hlen := hh.len
  refine en_defH rfl hc hh ?_
  refine es_cut (fun ρ1 h1 => ∃ names : List (List Nat), ρ1 = [some (.ref n), some (.int wide), some (.int most), some (.lst (names.map AV.str)), none, none, none] ∧ HI e b h1 ∧ 1 ≤ names.length ∧ names.length ≤ 10 ∧ ∀ s ∈ names, VS s) ?_ fun ρ1 h1' => ?_
  · simp only [en_bind, en_ok, en_bad, en_lift, en_var, en_c, en_bin, en_un, en_test, en_chain, en_andT, en_orT, en_notT, en_and, en_or, en_not, en_if, en_nil, en_cons, en_tup, en_list, en_pureL, en_newL, en_fn, en_call, en_callK, en_methS, en_oN, en_oS, en_sl, en_rng1, en_iter, en_lc, es_seq, es_skip, es_ret, es_retN, es_if, es_asg, es_par2, es_for, eg_name, eg_nil, eg_cons, eg_tup, eg_sub, es_drop, es_bad, es_try0, en_listOf, en_methO, es_setL1, es_setL0, en_set0, en_fmt, en_joinN, en_joinC, en_enum, en_sortS, en_split, en_rng2, vIxA_t, vIxA_l, vIxA_s, vLenA_s, vLenA_t, vLenA_l, vMulA_ii, vAdd_ii, vAdd_ss, vAdd_ll, vSub_ii, vMul_ii, vDiv_ii, vMod_ii, vLt_ii, vLe_ii, vGt_ii, vGe_ii, vEq_ii, vEq_ss, vNe_ii, vNe_ss, vIx_t, vIx_l, vIx_s, vIx_r, vLen_s, vLen_t, vLen_l, vLen_r, List.getElem?_cons_zero, List.getElem?_cons_succ, List.set_cons_zero, List.set_cons_succ, Option.some.injEq, AV.int.injEq, AV.bl.injEq, AV.str.injEq, AV.ref.injEq, AV.tup.injEq, AV.lst.injEq, AO.list.injEq, List.cons.injEq, exists_eq_left', exists_eq_left, exists_and_left, List.map_cons, List.map_nil, List.replicate, List.cons_append, List.nil_append, and_true, true_and, if_true, Nat.sub_self, ite_true, List.length_cons, List.length_nil, Nat.zero_add, Nat.reduceAdd, Nat.reduceSub, List.length_set]
    refine (draw_spec hh hn (by omega) (by omega)).mono ?_
    rintro w h4 ⟨⟨q, rfl, q0, q1⟩, hh4⟩
    refine ⟨_, vAdd_ii, (vars_spec hh4 hc hn (by omega) (by omega)).mono ?_⟩
    rintro v h5 ⟨⟨l, rfl, hl, hv⟩, hh5⟩
    exact ⟨l, rfl, hh5, by omega, by omega, hv⟩
  rintro ⟨names, rfl, hh1, nl1, nl2, nv⟩
  refine es_cut (fun ρ1 h1 => ∃ way many : Int, ρ1 = [some (.ref n), some (.int wide), some (.int most), some (.lst (names.map AV.str)), some (.int way), some (.int many), none] ∧ HI e b h1 ∧ 1 ≤ many ∧ many ≤ most) ?_ fun ρ1 h1' => ?_
  · simp only [en_bind, en_ok, en_bad, en_lift, en_var, en_c, en_bin, en_un, en_test, en_chain, en_andT, en_orT, en_notT, en_and, en_or, en_not, en_if, en_nil, en_cons, en_tup, en_list, en_pureL, en_newL, en_fn, en_call, en_callK, en_methS, en_oN, en_oS, en_sl, en_rng1, en_iter, en_lc, es_seq, es_skip, es_ret, es_retN, es_if, es_asg, es_par2, es_for, eg_name, eg_nil, eg_cons, eg_tup, eg_sub, es_drop, es_bad, es_try0, en_listOf, en_methO, es_setL1, es_setL0, en_set0, en_fmt, en_joinN, en_joinC, en_enum, en_sortS, en_split, en_rng2, vIxA_t, vIxA_l, vIxA_s, vLenA_s, vLenA_t, vLenA_l, vMulA_ii, vAdd_ii, vAdd_ss, vAdd_ll, vSub_ii, vMul_ii, vDiv_ii, vMod_ii, vLt_ii, vLe_ii, vGt_ii, vGe_ii, vEq_ii, vEq_ss, vNe_ii, vNe_ss, vIx_t, vIx_l, vIx_s, vIx_r, vLen_s, vLen_t, vLen_l, vLen_r, List.getElem?_cons_zero, List.getElem?_cons_succ, List.set_cons_zero, List.set_cons_succ, Option.some.injEq, AV.int.injEq, AV.bl.injEq, AV.str.injEq, AV.ref.injEq, AV.tup.injEq, AV.lst.injEq, AO.list.injEq, List.cons.injEq, exists_eq_left', exists_eq_left, exists_and_left, List.map_cons, List.map_nil, List.replicate, List.cons_append, List.nil_append, and_true, true_and, if_true, Nat.sub_self, ite_true, List.length_cons, List.length_nil, Nat.zero_add, Nat.reduceAdd, Nat.reduceSub, List.length_set]
    refine (draw_spec hh1 hn (by decide) (by decide)).mono ?_
    rintro w h4 ⟨⟨way, rfl, w0, w1⟩, hh4⟩
    refine ⟨rfl, (draw_spec hh4 hn (by decide) (by decide)).mono ?_⟩
    rintro w h5 ⟨⟨q, rfl, q0, q1⟩, hh5⟩
    refine ⟨_, vEq_ii, _, rfl, ?_⟩
    obtain ⟨s, es, s1, s2⟩ : ∃ s, vIxA h5 (.lst [.int 8, .int most]) (.int (if decide (q = 5) = true then 1 else 0)) = some (.int s) ∧ 1 ≤ s ∧ s ≤ most := by
      split
      · exact ⟨most, by rw [vIxA_l]; rfl, by omega, by omega⟩
      · exact ⟨8, by rw [vIxA_l]; rfl, by omega, by omega⟩
    refine ⟨_, es, (draw_spec hh5 hn (by omega) (by omega)).mono ?_⟩
    rintro w h6 ⟨⟨q2, rfl, q20, q21⟩, hh6⟩
    exact ⟨_, vAdd_ii, _, _, ⟨rfl, rfl⟩, way, 1 + q2, ⟨rfl, rfl⟩, hh6, by omega, by omega⟩
  rintro ⟨way, many, rfl, hh2, m1, m2⟩
  have fin : ∀ {v : AV} {h9 : AHeap} {k : Int}, Cls names k v → HI e b h9 → k ≤ most → ∃ e', HI (e ++ e') b h9 ∧ ∃ x, Sees h9 h.length v x ∧ ∀ h2, HI e b h2 → Drawn most x ∧ HI e b h2 := fun {v h9 k} z k9 hk =>
    ⟨[], by simpa using k9, v, .pure z.closed, fun h2 k2 => ⟨z.drawn hk nl2 nv, k2⟩⟩
  have c4 : ∀ x : Int, cMod x 4 = true := fun _ => rfl
  have m4 := Int.emod_nonneg many (show (4 : Int) ≠ 0 by decide)
  have m5 := Int.emod_lt_of_pos many (show (0 : Int) < 4 by decide)
  simp only [en_bind, en_ok, en_bad, en_lift, en_var, en_c, en_bin, en_un, en_test, en_chain, en_andT, en_orT, en_notT, en_and, en_or, en_not, en_if, en_nil, en_cons, en_tup, en_list, en_pureL, en_newL, en_fn, en_call, en_callK, en_methS, en_oN, en_oS, en_sl, en_rng1, en_iter, en_lc, es_seq, es_skip, es_ret, es_retN, es_if, es_asg, es_par2, es_for, eg_name, eg_nil, eg_cons, eg_tup, eg_sub, es_drop, es_bad, es_try0, en_listOf, en_methO, es_setL1, es_setL0, en_set0, en_fmt, en_joinN, en_joinC, en_enum, en_sortS, en_split, en_rng2, vIxA_t, vIxA_l, vIxA_s, vLenA_s, vLenA_t, vLenA_l, vMulA_ii, vAdd_ii, vAdd_ss, vAdd_ll, vSub_ii, vMul_ii, vDiv_ii, vMod_ii, vLt_ii, vLe_ii, vGt_ii, vGe_ii, vEq_ii, vEq_ss, vNe_ii, vNe_ss, vIx_t, vIx_l, vIx_s, vIx_r, vLen_s, vLen_t, vLen_l, vLen_r, List.getElem?_cons_zero, List.getElem?_cons_succ, List.set_cons_zero, List.set_cons_succ, Option.some.injEq, AV.int.injEq, AV.bl.injEq, AV.str.injEq, AV.ref.injEq, AV.tup.injEq, AV.lst.injEq, AO.list.injEq, List.cons.injEq, exists_eq_left', exists_eq_left, exists_and_left, List.map_cons, List.map_nil, List.replicate, List.cons_append, List.nil_append, and_true, true_and, if_true, Nat.sub_self, ite_true, List.length_cons, List.length_nil, Nat.zero_add, Nat.reduceAdd, Nat.reduceSub, List.length_set, c4]
  split
  · refine (any_spec hh2 hc hn m4 (by omega) nl1 (by omega)).mono ?_
    rintro v h9 ⟨z, k⟩
    exact fin z k (by omega)
  split
  · refine (any_spec hh2 hc hn (by omega) (by omega) nl1 (by omega)).mono ?_
    rintro v h9 ⟨z, k⟩
    exact fin z k (by omega)
  split
  · refine (fit_spec hh2 hc hn (by omega) (by omega) nl1 (by omega)).mono ?_
    rintro v h9 ⟨z, k⟩
    exact fin z k (by omega)
  split
  · refine (row_spec hh2 hc hn nl1 (by omega)).mono ?_
    rintro v h9 ⟨z, k⟩
    exact fin z k (by omega)
  refine (ring_spec hh2 hc hn nl1 (by omega)).mono ?_
  rintro v h9 ⟨⟨cs1, rfl, l1, g1⟩, k1⟩
  refine (fit_spec k1 hc hn (by omega) (by omega) nl1 (by omega)).mono ?_
  rintro v h10 ⟨⟨cs2, rfl, l2, g2⟩, k2⟩
  refine ⟨_, by rw [vAdd_ll, if_pos (szK (by rw [List.length_map, List.length_map]; omega)), ← List.map_append], ?_⟩
  obtain ⟨m, rfl⟩ := Int.eq_ofNat_of_zero_le (show 0 ≤ most by omega)
  have cutE : vSl h10 (.lst ((cs1 ++ cs2).map clv)) none (some (m : Int)) = some (.lst (((cs1 ++ cs2).take m).map clv)) := by
    show some (AV.lst (AI.cutL ((cs1 ++ cs2).map clv) none (some (m : Int)))) = _
    congr 2
    unfold AI.cutL HT.sIx
    have : ¬ ((m : Int) < 0) := by omega
    simp only [this, if_false, Int.toNat_natCast, Nat.sub_zero, List.drop_zero, List.map_take]
    rw [← List.take_take, List.take_length]
  refine ⟨_, cutE, ?_⟩
  have gall : ∀ c ∈ (cs1 ++ cs2).take m, Gd names c := fun c hcc => by
    rcases List.mem_append.mp (List.mem_of_mem_take hcc) with z | z
    · exact g1 c z
    · exact g2 c z
  have lall : ((cs1 ++ cs2).take m).length ≤ m := by rw [List.length_take]; omega
  generalize (cs1 ++ cs2).take m = cs at gall lall
  refine (shuf_spec k2 hc hn (x := .lst (cs.map clv)) (.inl rfl) cl_closed (by rw [List.length_map]; omega)).mono ?_
  rintro v h11 ⟨⟨l', rfl, hp⟩, k3⟩
  obtain ⟨sh, rfl, hl2, hm⟩ := shuf_cls hp
  exact fin (k := cs.length) ⟨sh, rfl, by omega, fun c hcc => gall c (hm c hcc)⟩ k3 (by omega)
end
/-! ### claims that are claims -/
/-- claims the program takes -/
def OKc (cs : List Cl) : Prop := cs.length ≤ 100 ∧ ∃ names : List (List Nat), names.length ≤ 10 ∧ (∀ s ∈ names, VS s) ∧ ∀ c ∈ cs, Gd names c
theorem VS.lt {s : List Nat} (h : VS s) : ∀ c ∈ s, c ∈ ABC ∨ c = 39 := by
  obtain ⟨t, ht, rfl | rfl⟩ := h
  · exact fun c hc => .inl ((nm_len ht).2.2 c hc)
  · intro c hc
    rcases List.mem_append.mp hc with z | z
    · exact .inl ((nm_len ht).2.2 c z)
    · exact .inr (List.mem_singleton.mp z)
theorem ops_len {o : List Nat} (h : o ∈ OPS) : 1 ≤ o.length ∧ o.length ≤ 2 ∧ (∀ c ∈ o, c = 60 ∨ c = 61) ∧ opS (.str o) = true := by
  simp only [OPS, List.mem_cons, List.not_mem_nil, or_false] at h
  rcases h with rfl | rfl | rfl <;> exact ⟨by decide, by decide, by decide, by decide⟩
theorem clv_val {names : List (List Nat)} {c : Cl} (hv : ∀ s ∈ names, VS s) (g : Gd names c) : Val (clv c) := by
  have l1 := (hv _ g.1).len
  have l2 := ops_len g.2.1
  have l3 := (hv _ g.2.2).len
  refine ⟨⟨rfl, fun s e => by cases e⟩, fun l e x hx => ?_⟩
  cases e
  simp only [List.mem_cons, List.not_mem_nil, or_false] at hx
  rcases hx with rfl | rfl | rfl
  · exact atm_str (by omega)
  · exact atm_str (by omega)
  · exact atm_str (by omega)
theorem clv_cl {names : List (List Nat)} {c : Cl} (hv : ∀ s ∈ names, VS s) (g : Gd names c) : cl (clv c) = true := by
  show (vrS c.1 && vrS c.2.2 && opS (.str c.2.1)) = true
  rw [(hv _ g.1).ok, (hv _ g.2.2).ok, (ops_len g.2.1).2.2.2]; rfl
theorem nodup_le : ∀ {ks ns : List Key}, ks.Nodup → (∀ k ∈ ks, k ∈ ns) → ks.length ≤ ns.length
  | [], ns, _, _ => Nat.zero_le _
  | k :: ks, ns, nd, h => by
    obtain ⟨i, hi, e⟩ := List.getElem_of_mem (h k (List.mem_cons_self ..))
    have nd' := List.nodup_cons.mp nd
    have p := erase_perm hi
    have := nodup_le (ks := ks) (ns := ns.eraseIdx i) nd'.2 fun j hj => by
      have z := p.mem_iff.mpr (h j (List.mem_cons_of_mem _ hj))
      rcases List.mem_cons.mp z with z | z
      · rw [z, e] at hj
        exact absurd hj nd'.1
      · exact z
    rw [List.length_eraseIdx_of_lt hi] at this
    rw [List.length_cons]; omega
theorem putS_nd {ks : List Key} {k : Key} (h : ks.Nodup) : (putS ks k).Nodup := by
  unfold putS
  split
  · exact h
  · rename_i hm
    exact List.nodup_append.mpr ⟨h, by simp, fun a ha b hb z => hm (memK_iff.mpr (by simp at hb; rw [← hb, ← z]; exact ha))⟩
theorem putS_mem {ks : List Key} {k j : Key} (h : j ∈ putS ks k) : j ∈ ks ∨ j = k := by
  unfold putS at h
  split at h
  · exact .inl h
  · simpa using h
theorem sadd_ok {h : AHeap} {s : List Nat} {ks : List Key} (hl : ks.length ≤ 1000) : opSAdd h [.str s] (.set ks) = some (.non, .set (putS ks (.inr (sOf s)))) := by
  unfold opSAdd
  show (if decide (ks.length + 1 < 4096) = true then some (AV.non, AO.set (putS ks (.inr (sOf s)))) else none) = _
  rw [if_pos (decide_eq_true (by omega))]
/-! ### claims written and read -/
def txt (c : Cl) : List Nat := c.1 ++ [32] ++ c.2.1 ++ [32] ++ c.2.2
def wr (cs : List Cl) : List Nat := TL.joinL [44, 32] (cs.map txt)
theorem gd_len {names : List (List Nat)} {c : Cl} (hv : ∀ s ∈ names, VS s) (g : Gd names c) : (1 ≤ c.1.length ∧ c.1.length ≤ 7) ∧ (1 ≤ c.2.1.length ∧ c.2.1.length ≤ 2) ∧ (1 ≤ c.2.2.length ∧ c.2.2.length ≤ 7) :=
  ⟨(hv _ g.1).len, ⟨(ops_len g.2.1).1, (ops_len g.2.1).2.1⟩, (hv _ g.2.2).len⟩
theorem txt_len {names : List (List Nat)} {c : Cl} (hv : ∀ s ∈ names, VS s) (g : Gd names c) : 5 ≤ (txt c).length ∧ (txt c).length ≤ 18 := by
  obtain ⟨h1, h2, h3⟩ := gd_len hv g
  unfold txt
  simp only [List.length_append, List.length_singleton]
  omega
theorem joinL_len (S : List Nat) : ∀ l : List (List Nat), (TL.joinL S l).length ≤ (l.map List.length).sum + l.length * S.length
  | [] => by simp [TL.joinL]
  | [p] => by simp [TL.joinL]
  | p :: q :: r => by
    have := joinL_len S (q :: r)
    show (p ++ (S ++ TL.joinL S (q :: r))).length ≤ _
    simp only [List.length_append, List.map_cons, List.sum_cons, List.length_cons] at this ⊢
    rw [Nat.add_mul _ 1] ; omega
theorem sum_le {k : Nat} : ∀ {l : List (List Nat)}, (∀ s ∈ l, s.length ≤ k) → (l.map List.length).sum ≤ k * l.length
  | [], _ => by simp
  | s :: l, h => by
    have := sum_le (l := l) fun t ht => h t (List.mem_cons_of_mem _ ht)
    have := h s (List.mem_cons_self ..)
    simp only [List.map_cons, List.sum_cons, List.length_cons]
    rw [Nat.mul_add]; omega
theorem wr_sum {cs : List Cl} (ok : OKc cs) : ((cs.map txt).map List.length).sum ≤ 1800 := by
  obtain ⟨hl, names, hn, hv, hG⟩ := ok
  have := sum_le (k := 18) (l := cs.map txt) fun s hs => by
    obtain ⟨c, hc, rfl⟩ := List.mem_map.mp hs
    exact (txt_len hv (hG c hc)).2
  rw [List.length_map] at this
  omega
theorem wr_len {cs : List Cl} (ok : OKc cs) : (wr cs).length ≤ 2000 := by
  have := wr_sum ok
  have h2 := joinL_len [44, 32] (cs.map txt)
  have := ok.1
  unfold wr
  simp only [List.length_map, List.length_cons, List.length_nil] at h2
  omega
theorem abc_lt {c : Nat} (h : c ∈ ABC) : 97 ≤ c ∧ c ≤ 122 := by
  simp only [List.mem_cons, List.not_mem_nil, or_false] at h
  omega
theorem txt_ch {names : List (List Nat)} {c : Cl} (hv : ∀ s ∈ names, VS s) (g : Gd names c) : (∀ d ∈ txt c, d ≠ 44 ∧ d < 128) ∧ (∀ d ∈ c.1, d ≠ 32) ∧ (∀ d ∈ c.2.1, d ≠ 32) ∧ ∀ d ∈ c.2.2, d ≠ 32 := by
  have l1 : ∀ d ∈ c.1, d ≠ 32 ∧ d ≠ 44 ∧ d < 128 := fun d hd => by
    rcases (hv _ g.1).lt d hd with z | z
    · have := abc_lt z; omega
    · omega
  have l3 : ∀ d ∈ c.2.2, d ≠ 32 ∧ d ≠ 44 ∧ d < 128 := fun d hd => by
    rcases (hv _ g.2.2).lt d hd with z | z
    · have := abc_lt z; omega
    · omega
  have l2 : ∀ d ∈ c.2.1, d ≠ 32 ∧ d ≠ 44 ∧ d < 128 := fun d hd => by
    rcases (ops_len g.2.1).2.2.1 d hd with z | z <;> omega
  refine ⟨fun d hd => ?_, fun d hd => (l1 d hd).1, fun d hd => (l2 d hd).1, fun d hd => (l3 d hd).1⟩
  unfold txt at hd
  simp only [List.mem_append, List.mem_singleton] at hd
  rcases hd with (((z | z) | z) | z) | z
  · exact (l1 d z).2
  · omega
  · exact (l2 d z).2
  · omega
  · exact (l3 d z).2
theorem wr_ch {cs : List Cl} (ok : OKc cs) : ∀ d ∈ wr cs, d < 128 := by
  obtain ⟨hl, names, hn, hv, hG⟩ := ok
  have key : ∀ l : List (List Nat), (∀ s ∈ l, ∀ d ∈ s, d < 128) → ∀ d ∈ TL.joinL [44, 32] l, d < 128 := by
    intro l
    induction l with
    | nil => intro _ d hd; cases hd
    | cons p r ih =>
      intro h d hd
      cases r with
      | nil => exact h p (List.mem_cons_self ..) d hd
      | cons q r =>
        have hd : d ∈ p ++ ([44, 32] ++ TL.joinL [44, 32] (q :: r)) := hd
        simp only [List.mem_append] at hd
        rcases hd with z | z | z
        · exact h p (List.mem_cons_self ..) d z
        · simp at z; omega
        · exact ih (fun s hs => h s (List.mem_cons_of_mem _ hs)) d z
  refine key _ fun s hs d hd => ?_
  obtain ⟨c, hc, rfl⟩ := List.mem_map.mp hs
  exact ((txt_ch hv (hG c hc)).1 d hd).2
theorem paired_txt : ∀ {cs : List Cl} {ys : List AV}, Paired (fun v y => ∃ c, v = clv c ∧ y = AV.str (txt c)) (cs.map clv) ys → ys = (cs.map txt).map AV.str
  | [], _, .nil => rfl
  | c :: cs, _, .cons h r => by
    obtain ⟨d, e, rfl⟩ := h
    have : c = d := by
      obtain ⟨a, o, b⟩ := c
      obtain ⟨a', o', b'⟩ := d
      simp [clv] at e
      obtain ⟨rfl, rfl, rfl⟩ := e
      rfl
    subst this
    rw [paired_txt r]; rfl
theorem txt_join (c : Cl) : txt c = TL.joinL [32] [c.1, c.2.1, c.2.2] := by
  unfold txt
  show _ = c.1 ++ ([32] ++ (c.2.1 ++ ([32] ++ c.2.2)))
  simp
section
variable {e : AHeap} {b : Nat}
theorem lwritten_spec {h : AHeap} {cs : List Cl} (hh : HI e b h) (hc : e.all (AO.closed 0) = true) (ok : OKc cs) :
    Ens (m__law_written [.tup (cs.map clv)] h) fun v h' => v = .str (wr cs) ∧ HI e b h' := by
  have hok := ok
  obtain ⟨hl, names, hn, hv, hG⟩ := ok
  refine en_defH rfl hc hh ?_
  simp only [en_bind, en_ok, en_bad, en_lift, en_var, en_c, en_bin, en_un, en_test, en_chain, en_andT, en_orT, en_notT, en_and, en_or, en_not, en_if, en_nil, en_cons, en_tup, en_list, en_pureL, en_newL, en_fn, en_call, en_callK, en_methS, en_oN, en_oS, en_sl, en_rng1, en_iter, en_lc, es_seq, es_skip, es_ret, es_retN, es_if, es_asg, es_par2, es_for, eg_name, eg_nil, eg_cons, eg_tup, eg_sub, es_drop, es_bad, es_try0, en_listOf, en_methO, es_setL1, es_setL0, en_set0, en_fmt, en_joinN, en_joinC, en_enum, en_sortS, en_split, en_rng2, vIxA_t, vIxA_l, vIxA_s, vLenA_s, vLenA_t, vLenA_l, vMulA_ii, vAdd_ii, vAdd_ss, vAdd_ll, vSub_ii, vMul_ii, vDiv_ii, vMod_ii, vLt_ii, vLe_ii, vGt_ii, vGe_ii, vEq_ii, vEq_ss, vNe_ii, vNe_ss, vIx_t, vIx_l, vIx_s, vIx_r, vLen_s, vLen_t, vLen_l, vLen_r, List.getElem?_cons_zero, List.getElem?_cons_succ, List.set_cons_zero, List.set_cons_succ, Option.some.injEq, AV.int.injEq, AV.bl.injEq, AV.str.injEq, AV.ref.injEq, AV.tup.injEq, AV.lst.injEq, AO.list.injEq, List.cons.injEq, exists_eq_left', exists_eq_left, exists_and_left, List.map_cons, List.map_nil, List.replicate, List.cons_append, List.nil_append, and_true, true_and, if_true, Nat.sub_self, ite_true, List.length_cons, List.length_nil, Nat.zero_add, Nat.reduceAdd, Nat.reduceSub, List.length_set]
  refine ⟨cs.map clv, rfl, szOk_le (by rw [List.length_map]; omega), ?_⟩
  refine en_lcR (fun h' => HI e b h') (fun v y => ∃ c, v = clv c ∧ y = AV.str (txt c)) ?_ hh ?_
  · rintro v hv' h5 hh5
    obtain ⟨c, hcc, rfl⟩ := List.mem_map.mp hv'
    obtain ⟨h1, h2, h3⟩ := gd_len hv (hG c hcc)
    refine ⟨_, rfl, ?_⟩
    simp only [en_bind, en_ok, en_bad, en_lift, en_var, en_c, en_bin, en_un, en_test, en_chain, en_andT, en_orT, en_notT, en_and, en_or, en_not, en_if, en_nil, en_cons, en_tup, en_list, en_pureL, en_newL, en_fn, en_call, en_callK, en_methS, en_oN, en_oS, en_sl, en_rng1, en_iter, en_lc, es_seq, es_skip, es_ret, es_retN, es_if, es_asg, es_par2, es_for, eg_name, eg_nil, eg_cons, eg_tup, eg_sub, es_drop, es_bad, es_try0, en_listOf, en_methO, es_setL1, es_setL0, en_set0, en_fmt, en_joinN, en_joinC, en_enum, en_sortS, en_split, en_rng2, vIxA_t, vIxA_l, vIxA_s, vLenA_s, vLenA_t, vLenA_l, vMulA_ii, vAdd_ii, vAdd_ss, vAdd_ll, vSub_ii, vMul_ii, vDiv_ii, vMod_ii, vLt_ii, vLe_ii, vGt_ii, vGe_ii, vEq_ii, vEq_ss, vNe_ii, vNe_ss, vIx_t, vIx_l, vIx_s, vIx_r, vLen_s, vLen_t, vLen_l, vLen_r, List.getElem?_cons_zero, List.getElem?_cons_succ, List.set_cons_zero, List.set_cons_succ, Option.some.injEq, AV.int.injEq, AV.bl.injEq, AV.str.injEq, AV.ref.injEq, AV.tup.injEq, AV.lst.injEq, AO.list.injEq, List.cons.injEq, exists_eq_left', exists_eq_left, exists_and_left, List.map_cons, List.map_nil, List.replicate, List.cons_append, List.nil_append, and_true, true_and, if_true, Nat.sub_self, ite_true, List.length_cons, List.length_nil, Nat.zero_add, Nat.reduceAdd, Nat.reduceSub, List.length_set, wipeA, List.foldl]
    have j : vJoin [32] h5 [.tup ([c.1, c.2.1, c.2.2].map AV.str)] = some (.str (TL.joinL [32] [c.1, c.2.1, c.2.2])) := by
      exact join_all (h := h5) (sep := [32]) (l := [c.1, c.2.1, c.2.2]) (by simp; omega)
    refine ⟨_, j, ⟨c, rfl, by rw [txt_join]⟩, hh5⟩
  · rintro ys h5 hY hh5
    have := paired_txt hY
    subst this
    have ws := wr_sum hok
    refine ⟨_, join_all (by rw [List.length_map]; simp only [List.length_cons, List.length_nil]; omega), [], by simpa using hh5, _, .pure rfl, fun h2 k2 => ⟨rfl, k2⟩⟩
end
theorem cell_spec {h : AHeap} {ns : List Int} {k : Int} (k0 : 0 ≤ k) (k1 : k ≤ 10) : ∃ c, m__law_cell [scriptV ns, .int k] h = .ok (.int c) h := by
  suffices hs : Ens (m__law_cell [scriptV ns, .int k] h) fun v h' => ∃ c, v = .int c ∧ h' = h by
    obtain ⟨v, h', e, c, rfl, rfl⟩ := hs.ex
    exact ⟨c, e⟩
  have m1 : cMul k k = true := by unfold cMul; simp only [Bool.or_eq_true, decide_eq_true_eq]; left; omega
  have m2 : ∀ x, cMul 9 x = true := fun x => by unfold cMul; simp
  have m3 : ∀ x, cMul 70003 x = true := fun x => by unfold cMul; simp
  have m4 : ∀ x, cMul x 41011 = true := fun x => by unfold cMul; simp
  have m5 : ∀ x, cMod x 2147483399 = true := fun _ => rfl
  refine en_def rfl ?_
  unfold scriptV
  simp only [en_bind, en_ok, en_bad, en_lift, en_var, en_c, en_bin, en_un, en_test, en_chain, en_andT, en_orT, en_notT, en_and, en_or, en_not, en_if, en_nil, en_cons, en_tup, en_list, en_pureL, en_newL, en_fn, en_call, en_callK, en_methS, en_oN, en_oS, en_sl, en_rng1, en_iter, en_lc, es_seq, es_skip, es_ret, es_retN, es_if, es_asg, es_par2, es_for, eg_name, eg_nil, eg_cons, eg_tup, eg_sub, es_drop, es_bad, es_try0, en_listOf, en_methO, es_setL1, es_setL0, en_set0, en_fmt, en_joinN, en_joinC, en_enum, en_sortS, en_split, en_rng2, vIxA_t, vIxA_l, vIxA_s, vLenA_s, vLenA_t, vLenA_l, vMulA_ii, vAdd_ii, vAdd_ss, vAdd_ll, vSub_ii, vMul_ii, vDiv_ii, vMod_ii, vLt_ii, vLe_ii, vGt_ii, vGe_ii, vEq_ii, vEq_ss, vNe_ii, vNe_ss, vIx_t, vIx_l, vIx_s, vIx_r, vLen_s, vLen_t, vLen_l, vLen_r, List.getElem?_cons_zero, List.getElem?_cons_succ, List.set_cons_zero, List.set_cons_succ, Option.some.injEq, AV.int.injEq, AV.bl.injEq, AV.str.injEq, AV.ref.injEq, AV.tup.injEq, AV.lst.injEq, AO.list.injEq, List.cons.injEq, exists_eq_left', exists_eq_left, exists_and_left, List.map_cons, List.map_nil, List.replicate, List.cons_append, List.nil_append, and_true, true_and, if_true, Nat.sub_self, ite_true, List.length_cons, List.length_nil, Nat.zero_add, Nat.reduceAdd, Nat.reduceSub, List.length_set, m1, m2, m3, m4, m5, List.length_map]
  by_cases hk : k < (ns.length : Int)
  · rw [if_pos (decide_eq_true hk)]
    obtain ⟨x, ex, mx⟩ := atI_nat' (l := ns.map AV.int) k0 (by simpa using hk)
    obtain ⟨c, _, rfl⟩ := List.mem_map.mp mx
    exact ⟨_, ex, Nat.le_refl _, c, rfl⟩
  · rw [if_neg (by simpa using hk)]
    refine ⟨_, rfl, _, rfl, ?_⟩
    refine es_loop (fun l ρ h' => h' = h ∧ (∀ x ∈ l, ∃ i, x = AV.int i) ∧ ∃ mix y, ρ = [some (.lst (ns.map AV.int)), some (.int k), some (.int mix), y]) ?_ ?_ ⟨rfl, fun x hx => ?_, _, _, rfl⟩
    · rintro v l ρ h' ⟨rfl, hl, mix, y, rfl⟩
      obtain ⟨i, rfl⟩ := hl v (List.mem_cons_self ..)
      simp only [en_bind, en_ok, en_bad, en_lift, en_var, en_c, en_bin, en_un, en_test, en_chain, en_andT, en_orT, en_notT, en_and, en_or, en_not, en_if, en_nil, en_cons, en_tup, en_list, en_pureL, en_newL, en_fn, en_call, en_callK, en_methS, en_oN, en_oS, en_sl, en_rng1, en_iter, en_lc, es_seq, es_skip, es_ret, es_retN, es_if, es_asg, es_par2, es_for, eg_name, eg_nil, eg_cons, eg_tup, eg_sub, es_drop, es_bad, es_try0, en_listOf, en_methO, es_setL1, es_setL0, en_set0, en_fmt, en_joinN, en_joinC, en_enum, en_sortS, en_split, en_rng2, vIxA_t, vIxA_l, vIxA_s, vLenA_s, vLenA_t, vLenA_l, vMulA_ii, vAdd_ii, vAdd_ss, vAdd_ll, vSub_ii, vMul_ii, vDiv_ii, vMod_ii, vLt_ii, vLe_ii, vGt_ii, vGe_ii, vEq_ii, vEq_ss, vNe_ii, vNe_ss, vIx_t, vIx_l, vIx_s, vIx_r, vLen_s, vLen_t, vLen_l, vLen_r, List.getElem?_cons_zero, List.getElem?_cons_succ, List.set_cons_zero, List.set_cons_succ, Option.some.injEq, AV.int.injEq, AV.bl.injEq, AV.str.injEq, AV.ref.injEq, AV.tup.injEq, AV.lst.injEq, AO.list.injEq, List.cons.injEq, exists_eq_left', exists_eq_left, exists_and_left, List.map_cons, List.map_nil, List.replicate, List.cons_append, List.nil_append, and_true, true_and, if_true, Nat.sub_self, ite_true, List.length_cons, List.length_nil, Nat.zero_add, Nat.reduceAdd, Nat.reduceSub, List.length_set, m4, m5]
      exact ⟨fun x hx => hl x (List.mem_cons_of_mem _ hx), _, rfl⟩
    · rintro ρ h' ⟨rfl, hl, mix, y, rfl⟩
      simp only [en_bind, en_ok, en_bad, en_lift, en_var, en_c, en_bin, en_un, en_test, en_chain, en_andT, en_orT, en_notT, en_and, en_or, en_not, en_if, en_nil, en_cons, en_tup, en_list, en_pureL, en_newL, en_fn, en_call, en_callK, en_methS, en_oN, en_oS, en_sl, en_rng1, en_iter, en_lc, es_seq, es_skip, es_ret, es_retN, es_if, es_asg, es_par2, es_for, eg_name, eg_nil, eg_cons, eg_tup, eg_sub, es_drop, es_bad, es_try0, en_listOf, en_methO, es_setL1, es_setL0, en_set0, en_fmt, en_joinN, en_joinC, en_enum, en_sortS, en_split, en_rng2, vIxA_t, vIxA_l, vIxA_s, vLenA_s, vLenA_t, vLenA_l, vMulA_ii, vAdd_ii, vAdd_ss, vAdd_ll, vSub_ii, vMul_ii, vDiv_ii, vMod_ii, vLt_ii, vLe_ii, vGt_ii, vGe_ii, vEq_ii, vEq_ss, vNe_ii, vNe_ss, vIx_t, vIx_l, vIx_s, vIx_r, vLen_s, vLen_t, vLen_l, vLen_r, List.getElem?_cons_zero, List.getElem?_cons_succ, List.set_cons_zero, List.set_cons_succ, Option.some.injEq, AV.int.injEq, AV.bl.injEq, AV.str.injEq, AV.ref.injEq, AV.tup.injEq, AV.lst.injEq, AO.list.injEq, List.cons.injEq, exists_eq_left', exists_eq_left, exists_and_left, List.map_cons, List.map_nil, List.replicate, List.cons_append, List.nil_append, and_true, true_and, if_true, Nat.sub_self, ite_true, List.length_cons, List.length_nil, Nat.zero_add, Nat.reduceAdd, Nat.reduceSub, List.length_set]
      exact ⟨Nat.le_refl _, mix, rfl⟩
    · obtain ⟨i, _, e⟩ := List.mem_map.mp (cut_mem x hx)
      exact ⟨i, e.symm⟩
theorem purse_spec {h : AHeap} {c : Int} : Ens (m__law_purse [.int c] h) fun v h' => v = .ref h.length ∧ ∃ a d t : Int, h' = h ++ [.list [.int a, .int d, .int t]] ∧ 0 ≤ d := by
  have p1 : ∀ h, vPow h (.int 10) (.int 18) = some (.int (10 ^ 18)) := fun h => rfl
  have m5 : ∀ x, cMod x 2147483399 = true := fun _ => rfl
  have sz3 : ∀ x y z : AV, szOk [x, y, z] = true := fun _ _ _ => rfl
  refine en_def0 rfl ?_
  simp only [en_bind, en_ok, en_bad, en_lift, en_var, en_c, en_bin, en_un, en_test, en_chain, en_andT, en_orT, en_notT, en_and, en_or, en_not, en_if, en_nil, en_cons, en_tup, en_list, en_pureL, en_newL, en_fn, en_call, en_callK, en_methS, en_oN, en_oS, en_sl, en_rng1, en_iter, en_lc, es_seq, es_skip, es_ret, es_retN, es_if, es_asg, es_par2, es_for, eg_name, eg_nil, eg_cons, eg_tup, eg_sub, es_drop, es_bad, es_try0, en_listOf, en_methO, es_setL1, es_setL0, en_set0, en_fmt, en_joinN, en_joinC, en_enum, en_sortS, en_split, en_rng2, vIxA_t, vIxA_l, vIxA_s, vLenA_s, vLenA_t, vLenA_l, vMulA_ii, vAdd_ii, vAdd_ss, vAdd_ll, vSub_ii, vMul_ii, vDiv_ii, vMod_ii, vLt_ii, vLe_ii, vGt_ii, vGe_ii, vEq_ii, vEq_ss, vNe_ii, vNe_ss, vIx_t, vIx_l, vIx_s, vIx_r, vLen_s, vLen_t, vLen_l, vLen_r, List.getElem?_cons_zero, List.getElem?_cons_succ, List.set_cons_zero, List.set_cons_succ, Option.some.injEq, AV.int.injEq, AV.bl.injEq, AV.str.injEq, AV.ref.injEq, AV.tup.injEq, AV.lst.injEq, AO.list.injEq, List.cons.injEq, exists_eq_left', exists_eq_left, exists_and_left, List.map_cons, List.map_nil, List.replicate, List.cons_append, List.nil_append, and_true, true_and, if_true, Nat.sub_self, ite_true, List.length_cons, List.length_nil, Nat.zero_add, Nat.reduceAdd, Nat.reduceSub, List.length_set, p1, m5, sz3, vAbs]
  by_cases h1 : c < 0
  · rw [if_pos (decide_eq_true h1), if_pos h1]
    exact ⟨_, _, _, rfl, by omega⟩
  · rw [if_neg (by simpa using h1), if_neg h1]
    by_cases h2 : (10 : Int) ^ 18 ≤ c
    · rw [if_pos (decide_eq_true h2)]
      exact ⟨_, _, _, rfl, by omega⟩
    · rw [if_neg (by simpa using h2)]
      exact ⟨_, _, _, rfl, by omega⟩
theorem vAdd_tt {h : AHeap} {l m : List AV} (hl : l.length + m.length ≤ 10000) : vAdd h (.tup l) (.tup m) = some (.tup (l ++ m)) := by
  show (match (if decide (l.length + m.length ≤ szM) = true then some (AV.tup (l ++ m)) else none) with | some v => some v | none => vAddLst h (.tup l) (.tup m)) = _
  rw [if_pos (szK hl)]
theorem cutL_map {α β : Type} {f : α → β} {l : List α} {lo hi : Option Int} : AI.cutL (l.map f) lo hi = (AI.cutL l lo hi).map f := by
  unfold AI.cutL
  rw [List.length_map, List.map_take, List.map_drop]
theorem cut_max {α : Type} {l : List α} {k : Nat} : (AI.cutL l none (some (k : Int))).length ≤ k := by
  unfold AI.cutL
  rw [HT.sIx_nat, HT.sIx_none, List.length_take]
  omega
/-! ### what == says of data -/
def ShW (k : Nat) (v : AV) : Prop := ∃ d, v.data = some d ∧ d.canLay0 = true ∧ d.depth ≤ k
theorem ShW.str {s : List Nat} (hc : ∀ c ∈ s, c < 128) : ShW 0 (.str s) := by
  refine ⟨.str ⟨s.toArray⟩, rfl, ?_, Nat.le_refl _⟩
  show (s.toArray.all fun c => decide (c < 0x110000)) = true
  rw [← Array.all_toList]
  refine List.all_eq_true.mpr fun c hm => decide_eq_true ?_
  have := hc c (by simpa using hm)
  omega
theorem ShW.all {k : Nat} : ∀ {l : List AV}, (∀ x ∈ l, ShW k x) → ∃ ds, AV.datas l = some ds ∧ PyData.canLayAll0 ds = true ∧ PyData.depthAll ds ≤ k
  | [], _ => ⟨[], rfl, by simp [PyData.canLayAll0], Nat.zero_le _⟩
  | x :: m, h => by
    obtain ⟨d, e, d1, d2⟩ := h x (List.mem_cons_self ..)
    obtain ⟨ds, e', s1, s2⟩ := ShW.all fun y hy => h y (List.mem_cons_of_mem _ hy)
    refine ⟨d :: ds, ?_, ?_, ?_⟩
    · unfold AV.datas; rw [e, e']
    · simp only [PyData.canLayAll0, d1, s1, Bool.and_self]
    · show max d.depth (PyData.depthAll ds) ≤ k
      omega
theorem ShW.tup {k : Nat} {l : List AV} (h : ∀ x ∈ l, ShW k x) : ShW (k + 1) (.tup l) := by
  obtain ⟨ds, e, s1, s2⟩ := ShW.all h
  refine ⟨.tuple ds, ?_, by simpa [PyData.canLay0] using s1, ?_⟩
  · unfold AV.data; rw [e]; rfl
  · show PyData.depthAll ds + 1 ≤ k + 1
    omega
theorem ShW.eq {k : Nat} {v : AV} (s : ShW k v) (hk : k ≤ 64) (hf : flat? v = none) {h : AHeap} : vEq h v v = some (.bl true) := by
  obtain ⟨d, e, h1, h2⟩ := s
  unfold vEq vOr
  have z1 : vEqFlat false h v v = none := by unfold vEqFlat; rw [hf]
  rw [z1]
  dsimp only
  unfold vEqData
  have z2 : dataH h v = some d := by unfold dataH; rw [e]
  rw [z2]
  dsimp only
  have z3 : plB d = true := by
    unfold plB
    rw [PyData.plain_of_canLay0 d h1, decide_eq_true (show d.depth ≤ 64 by omega)]; rfl
  rw [z3]
  have z4 : PyData.eqv d d = true := SeqAt.eqv_refl d h1
  simp [z4]
theorem eq_rows {cs : List Cl} (ok : OKc cs) {h : AHeap} : vEq h (.tup (cs.map clv)) (.tup (cs.map clv)) = some (.bl true) := by
  obtain ⟨hl, names, hn, hv, hG⟩ := ok
  refine ShW.eq (k := 2) (.tup fun x hx => ?_) (by decide) rfl
  obtain ⟨c, hc, rfl⟩ := List.mem_map.mp hx
  have g := hG c hc
  have ch : ∀ d ∈ txt c, d < 128 := fun d hd => ((txt_ch hv g).1 d hd).2
  unfold txt at ch
  refine .tup fun y hy => ?_
  simp only [List.mem_cons, List.not_mem_nil, or_false] at hy
  rcases hy with rfl | rfl | rfl
  · exact .str fun d hd => ch d (by simp [hd])
  · exact .str fun d hd => ch d (by simp [hd])
  · exact .str fun d hd => ch d (by simp [hd])
end AIL
namespace AIL
open PySem PySem.Spec PyProof.Rows L2 AI
/-! ### any text, cut into rows -/
def cutS (S s : List Nat) : List (List Nat) := TL.spl S 0 [] s
theorem split_cut {s S : List Nat} {c : Nat} (hk : ∀ d ∈ c :: S, d < 256) : (Txt.split (sOf s) (sOf (c :: S))).map (fun a => AV.str a.cps.toList) = (cutS (c :: S) s).map AV.str := by
  have e := TL.split_spl (sOf s) (sOf (c :: S)) (by simp [TL.tl]) (TL.kind_ok (by simpa using hk))
  have e2 : (Txt.split (sOf s) (sOf (c :: S))).map TL.tl = cutS (c :: S) s := e
  rw [← e2, List.map_map]; rfl
theorem spl_b (S : List Nat) : ∀ (s : List Nat) (k : Nat) (acc : List Nat), (∀ p ∈ TL.spl S k acc s, p.length ≤ acc.length + s.length ∧ ∀ d ∈ p, d ∈ acc ∨ d ∈ s) ∧ (TL.spl S k acc s).length ≤ s.length + 1
  | [], k, acc => by
    have e : TL.spl S k acc [] = [acc] := by cases k <;> rfl
    rw [e]
    simp
  | c :: r, k + 1, acc => by
    obtain ⟨h1, h2⟩ := spl_b S r k acc
    have e : TL.spl S (k + 1) acc (c :: r) = TL.spl S k acc r := rfl
    rw [e]
    refine ⟨fun p hp => ⟨by have := (h1 p hp).1; simp only [List.length_cons]; omega, fun d hd => ?_⟩, by simp only [List.length_cons]; omega⟩
    rcases (h1 p hp).2 d hd with z | z
    · exact .inl z
    · exact .inr (List.mem_cons_of_mem _ z)
  | c :: r, 0, acc => by
    have e : TL.spl S 0 acc (c :: r) = if TL.pre S (c :: r) = true then acc :: TL.spl S (S.length - 1) [] r else TL.spl S 0 (acc ++ [c]) r := rfl
    rw [e]
    split
    · obtain ⟨h1, h2⟩ := spl_b S r (S.length - 1) []
      refine ⟨fun p hp => ?_, by simp only [List.length_cons]; omega⟩
      rcases List.mem_cons.mp hp with rfl | hp
      · exact ⟨by omega, fun d hd => .inl hd⟩
      · refine ⟨by have := (h1 p hp).1; simp only [List.length_cons, List.length_nil] at this ⊢; omega, fun d hd => ?_⟩
        rcases (h1 p hp).2 d hd with z | z
        · simp at z
        · exact .inr (List.mem_cons_of_mem _ z)
    · obtain ⟨h1, h2⟩ := spl_b S r 0 (acc ++ [c])
      refine ⟨fun p hp => ⟨by have := (h1 p hp).1; simp only [List.length_append, List.length_cons, List.length_nil] at this ⊢; omega, fun d hd => ?_⟩, by simp only [List.length_cons]; omega⟩
      rcases (h1 p hp).2 d hd with z | z
      · rcases List.mem_append.mp z with z | z
        · exact .inl z
        · exact .inr (by rw [List.mem_singleton.mp z]; exact List.mem_cons_self)
      · exact .inr (List.mem_cons_of_mem _ z)
abbrev Row := List (List Nat)
def rv (r : Row) : AV := .tup (r.map AV.str)
def rowsOf (s : List Nat) : List Row := (cutS [44, 32] s).map (cutS [32])
/-- rows that fit the sizes -/
def Sml (R : List Row) : Prop := R.length ≤ 5000 ∧ ∀ r ∈ R, r.length ≤ 5000 ∧ ∀ p ∈ r, p.length ≤ 5000
theorem rows_small {s : List Nat} (hs : s.length ≤ 4000) : Sml (rowsOf s) := by
  have b1 := spl_b [44, 32] s 0 []
  refine ⟨by unfold rowsOf; rw [List.length_map]; have := b1.2; unfold cutS; omega, fun r hr => ?_⟩
  obtain ⟨p, hp, rfl⟩ := List.mem_map.mp hr
  have l1 := (b1.1 p hp).1
  have b2 := spl_b [32] p 0 []
  simp only [List.length_nil, Nat.zero_add] at l1
  refine ⟨by have := b2.2; unfold cutS; omega, fun q hq => ?_⟩
  have := (b2.1 q hq).1
  simp only [List.length_nil, Nat.zero_add] at this
  omega
theorem rv_val {r : Row} (h : ∀ p ∈ r, p.length ≤ 5000) : Val (rv r) := by
  refine ⟨⟨rfl, fun s e => by cases e⟩, fun l e x hx => ?_⟩
  cases e
  obtain ⟨p, hp, rfl⟩ := List.mem_map.mp hx
  have := h p hp
  exact atm_str (by omega)
def kS (s : List Nat) : Key := .inr (sOf s)
/-- a row's two variables -/
def k2 : Row → List Key
  | [a, _, c] => [kS a, kS c]
  | _ => []
def good (R : List Row) : Bool := decide (R.length ≤ 100) && ((R.all fun r => cl (rv r)) && decide ((foldS (R.flatMap k2)).length ≤ 10))
theorem cl_three {r : Row} (h : cl (rv r) = true) : ∃ a o c, r = [a, o, c] ∧ vr (.str a) = true ∧ vr (.str c) = true ∧ opS (.str o) = true := by
  unfold rv cl at h
  split at h
  · rename_i a o c e
    obtain ⟨x, y, z, rfl⟩ := row3 (l := r) (by have := congrArg List.length (AV.tup.inj e); simpa using this)
    simp at e
    obtain ⟨rfl, rfl, rfl⟩ := e
    simp only [Bool.and_eq_true] at h
    exact ⟨_, _, _, rfl, h.1.1, h.1.2, h.2⟩
  · cases h
where
  row3 {l : List (List Nat)} (h : l.length = 3) : ∃ x y z, l = [x, y, z] := by
    match l, h with
    | [a, b, c], _ => exact ⟨a, b, c, rfl⟩
theorem fold_app {ks ms : List Key} : foldS (ks ++ ms) = ms.foldl putS (foldS ks) := by
  unfold foldS
  rw [List.foldl_append]
theorem fold_mono : ∀ (ms : List Key) {ks : List Key}, ks.length ≤ (ms.foldl putS ks).length
  | [], _ => Nat.le_refl _
  | m :: ms, ks => by
    have h1 := fold_mono ms (ks := putS ks m)
    have h2 : ks.length ≤ (putS ks m).length := by rw [putS_len]; split <;> omega
    exact Nat.le_trans h2 h1
section
variable {e : AHeap} {b : Nat}
/-- what check_claims lets out -/
def XC (R : List Row) (e : AHeap) (b : Nat) : AX → AHeap → Prop := fun x h' => x.cls = "InvalidClaims" ∧ good R = false ∧ HI e b h'
theorem xcheck {h : AHeap} {R : List Row} (hh : HI e b h) (hc : e.all (AO.closed 0) = true) (sm : Sml R) :
    EnX (XC R e b) (m_check_claims [.tup (R.map rv)] h) fun v h' => v = .non ∧ good R = true ∧ HI e b h' := by
  have hlen := hh.len
  refine xn_defH rfl hc hh ?_
  have at0 : Atm (.tup (R.map rv)) := ⟨rfl, fun s e => by cases e⟩
  have b0 : isT (tg (AV.tup (R.map rv))) .tup = true := rfl
  refine xs_cut (fun ρ1 h1 => ρ1 = [some (.tup (R.map rv)), none, none, none] ∧ R.length ≤ 100 ∧ HI e b h1) ?_ fun ρ1 h1' => ?_
  · simp only [xn_bind, xn_ok, xn_bad, xn_lift, xn_var, xn_c, xn_bin, xn_un, xn_test, xn_chain, xn_andT, xn_orT, xn_notT, xn_and, xn_or, xn_not, xn_if, xn_nil, xn_cons, xn_tup, xn_list, xn_pureL, xn_newL, xn_fn, xn_call, xn_callK, xn_methS, xn_oN, xn_oS, xn_sl, xn_rng1, xn_iter, xn_lc, xs_seq, xs_skip, xs_ret, xs_retN, xs_if, xs_asg, xs_par2, xs_for, eg_name, eg_nil, eg_cons, eg_tup, eg_sub, xs_drop, xs_bad, xn_listOf, xn_methO, xs_setL1, xs_setL0, xn_set0, xn_fmt, xn_joinN, xn_joinC, xn_enum, xn_sortS, xn_split, xn_rng2, xs_raise1, es_drop, es_bad, es_try0, en_listOf, en_methO, es_setL1, es_setL0, en_set0, en_fmt, en_joinN, en_joinC, en_enum, en_sortS, en_split, en_rng2, vIxA_t, vIxA_l, vIxA_s, vLenA_s, vLenA_t, vLenA_l, vMulA_ii, vAdd_ii, vAdd_ss, vAdd_ll, vSub_ii, vMul_ii, vDiv_ii, vMod_ii, vLt_ii, vLe_ii, vGt_ii, vGe_ii, vEq_ii, vEq_ss, vNe_ii, vNe_ss, vIx_t, vIx_l, vIx_s, vIx_r, vLen_s, vLen_t, vLen_l, vLen_r, List.getElem?_cons_zero, List.getElem?_cons_succ, List.set_cons_zero, List.set_cons_succ, Option.some.injEq, AV.int.injEq, AV.bl.injEq, AV.str.injEq, AV.ref.injEq, AV.tup.injEq, AV.lst.injEq, AO.list.injEq, List.cons.injEq, exists_eq_left', exists_eq_left, exists_and_left, List.map_cons, List.map_nil, List.replicate, List.cons_append, List.nil_append, and_true, true_and, if_true, Nat.sub_self, ite_true, List.length_cons, List.length_nil, Nat.zero_add, Nat.reduceAdd, Nat.reduceSub, List.length_set, isi at0 (t := .tup) (by decide), v_MAX_CLAIMS, List.length_map, b0, Bool.not_true, Bool.false_eq_true, if_false]
    by_cases h1 : R.length ≤ 100
    · rw [if_neg (by simp; omega)]
      exact ⟨h1, hh⟩
    · rw [if_pos (by simp; omega)]
      refine ⟨[], by simpa using hh, rfl, fun h2 k2 => ⟨rfl, ?_, k2⟩⟩
      unfold good
      rw [decide_eq_false h1]; rfl
  rintro ⟨rfl, hl, hh1⟩
  have l1 := hh1.len
  have ix : h1'.length = b + e.length := by omega
  have bad1 : ∀ {q : Row}, q ∈ R → cl (rv q) = false → good R = false := fun {q} hq hcl => by
    unfold good
    have : (R.all fun r => cl (rv r)) = false := List.all_eq_false.mpr ⟨q, hq, by rw [hcl]; simp⟩
    rw [this]; simp
  simp only [xs_seq, xs_asg, xn_set0, eg_name, xs_for, xn_enum, xn_cons, xn_nil, xn_var, List.getElem?_cons_zero, List.getElem?_cons_succ, List.set_cons_zero, List.set_cons_succ, Option.some.injEq, AV.int.injEq, AV.bl.injEq, AV.str.injEq, AV.ref.injEq, AV.tup.injEq, AV.lst.injEq, AO.list.injEq, List.cons.injEq, exists_eq_left', exists_eq_left, exists_and_left, List.map_cons, List.map_nil, List.replicate, List.cons_append, List.nil_append, and_true, true_and, if_true, Nat.sub_self, ite_true, List.length_cons, List.length_nil, Nat.zero_add, Nat.reduceAdd, Nat.reduceSub, List.length_set]
  refine ⟨R.map rv, .inl rfl, ?_⟩
  refine xs_loop (fun r ρ1 h1 => ∃ (i : Nat) (dn td : List Row) (w2 w3 : Option AV), R = dn ++ td ∧ r = pairUp i (td.map rv) ∧ (∀ q ∈ dn, cl (rv q) = true) ∧ (foldS (dn.flatMap k2)).length ≤ 10 ∧ ρ1 = [some (.tup (R.map rv)), some (.ref h1'.length), w2, w3] ∧ HI (e ++ [.set (foldS (dn.flatMap k2))]) b h1) (fun v r ρ h' => ?_) (fun ρ h' => ?_) ?_
  · rintro ⟨i, dn, td, w2, w3, hR, hr, hG, kl, rfl, hI⟩
    cases td with
    | nil => cases hr
    | cons c td =>
    have hr : v = .tup [.int i, rv c] ∧ r = pairUp (i + 1) (td.map rv) := by
      rw [List.map_cons, pairUp] at hr
      simpa using hr
    obtain ⟨rfl, rfl⟩ := hr
    have cR : c ∈ R := by rw [hR]; simp
    have vc := rv_val (sm.2 c cR).2
    simp only [eg_tup, eg_cons, eg_nil, eg_name, List.getElem?_cons_zero, List.getElem?_cons_succ, List.set_cons_zero, List.set_cons_succ, Option.some.injEq, AV.int.injEq, AV.bl.injEq, AV.str.injEq, AV.ref.injEq, AV.tup.injEq, AV.lst.injEq, AO.list.injEq, List.cons.injEq, exists_eq_left', exists_eq_left, exists_and_left, List.map_cons, List.map_nil, List.replicate, List.cons_append, List.nil_append, and_true, true_and, if_true, Nat.sub_self, ite_true, List.length_cons, List.length_nil, Nat.zero_add, Nat.reduceAdd, Nat.reduceSub, List.length_set]
    refine ⟨_, _, ⟨rfl, rfl⟩, _, _, rfl, rfl, ?_⟩
    have ic : m_is_claim [rv c] h' = .ok (.bl (cl (rv c))) h' := claim1 vc
    have out : ∀ (ks : List Key) (h9 : AHeap), good R = false → HI (e ++ [.set ks]) b h9 → ∃ e', HI (e ++ e') b h9 ∧ AV.closeds 0 [AV.int (i : Int)] = true ∧ ∀ h2, HI e b h2 → XC R e b ⟨"InvalidClaims", ["position"], [.int (i : Int)]⟩ h2 :=
      fun ks h9 g k => ⟨_, k, rfl, fun h2 k2 => ⟨rfl, g, k2⟩⟩
    refine xs_cut (fun ρ1 h1 => ρ1 = [some (.tup (R.map rv)), some (.ref h1'.length), some (.int (i : Int)), some (rv c)] ∧ cl (rv c) = true ∧ h1 = h') ?_ fun ρ1 h1 => ?_
    · simp only [xn_bind, xn_ok, xn_bad, xn_lift, xn_var, xn_c, xn_bin, xn_un, xn_test, xn_chain, xn_andT, xn_orT, xn_notT, xn_and, xn_or, xn_not, xn_if, xn_nil, xn_cons, xn_tup, xn_list, xn_pureL, xn_newL, xn_fn, xn_call, xn_callK, xn_methS, xn_oN, xn_oS, xn_sl, xn_rng1, xn_iter, xn_lc, xs_seq, xs_skip, xs_ret, xs_retN, xs_if, xs_asg, xs_par2, xs_for, eg_name, eg_nil, eg_cons, eg_tup, eg_sub, xs_drop, xs_bad, xn_listOf, xn_methO, xs_setL1, xs_setL0, xn_set0, xn_fmt, xn_joinN, xn_joinC, xn_enum, xn_sortS, xn_split, xn_rng2, xs_raise1, es_drop, es_bad, es_try0, en_listOf, en_methO, es_setL1, es_setL0, en_set0, en_fmt, en_joinN, en_joinC, en_enum, en_sortS, en_split, en_rng2, vIxA_t, vIxA_l, vIxA_s, vLenA_s, vLenA_t, vLenA_l, vMulA_ii, vAdd_ii, vAdd_ss, vAdd_ll, vSub_ii, vMul_ii, vDiv_ii, vMod_ii, vLt_ii, vLe_ii, vGt_ii, vGe_ii, vEq_ii, vEq_ss, vNe_ii, vNe_ss, vIx_t, vIx_l, vIx_s, vIx_r, vLen_s, vLen_t, vLen_l, vLen_r, List.getElem?_cons_zero, List.getElem?_cons_succ, List.set_cons_zero, List.set_cons_succ, Option.some.injEq, AV.int.injEq, AV.bl.injEq, AV.str.injEq, AV.ref.injEq, AV.tup.injEq, AV.lst.injEq, AO.list.injEq, List.cons.injEq, exists_eq_left', exists_eq_left, exists_and_left, List.map_cons, List.map_nil, List.replicate, List.cons_append, List.nil_append, and_true, true_and, if_true, Nat.sub_self, ite_true, List.length_cons, List.length_nil, Nat.zero_add, Nat.reduceAdd, Nat.reduceSub, List.length_set, ic]
      cases hcl : cl (rv c) with
      | true => rw [if_neg (by simp)]
      | false => rw [if_pos (by simp)]; exact out _ _ (bad1 cR hcl) hI
    rintro ⟨rfl, hcl, rfl⟩
    obtain ⟨a, o, d, rfl, _⟩ := cl_three hcl
    have x0 : ∀ h9, vIxA h9 (rv [a, o, d]) (.int 0) = some (.str a) := fun h9 => by unfold rv; rw [vIxA_t]; rfl
    have x2 : ∀ h9, vIxA h9 (rv [a, o, d]) (.int 2) = some (.str d) := fun h9 => by unfold rv; rw [vIxA_t]; rfl
    simp only [xn_bind, xn_ok, xn_bad, xn_lift, xn_var, xn_c, xn_bin, xn_un, xn_test, xn_chain, xn_andT, xn_orT, xn_notT, xn_and, xn_or, xn_not, xn_if, xn_nil, xn_cons, xn_tup, xn_list, xn_pureL, xn_newL, xn_fn, xn_call, xn_callK, xn_methS, xn_oN, xn_oS, xn_sl, xn_rng1, xn_iter, xn_lc, xs_seq, xs_skip, xs_ret, xs_retN, xs_if, xs_asg, xs_par2, xs_for, eg_name, eg_nil, eg_cons, eg_tup, eg_sub, xs_drop, xs_bad, xn_listOf, xn_methO, xs_setL1, xs_setL0, xn_set0, xn_fmt, xn_joinN, xn_joinC, xn_enum, xn_sortS, xn_split, xn_rng2, xs_raise1, es_drop, es_bad, es_try0, en_listOf, en_methO, es_setL1, es_setL0, en_set0, en_fmt, en_joinN, en_joinC, en_enum, en_sortS, en_split, en_rng2, vIxA_t, vIxA_l, vIxA_s, vLenA_s, vLenA_t, vLenA_l, vMulA_ii, vAdd_ii, vAdd_ss, vAdd_ll, vSub_ii, vMul_ii, vDiv_ii, vMod_ii, vLt_ii, vLe_ii, vGt_ii, vGe_ii, vEq_ii, vEq_ss, vNe_ii, vNe_ss, vIx_t, vIx_l, vIx_s, vIx_r, vLen_s, vLen_t, vLen_l, vLen_r, List.getElem?_cons_zero, List.getElem?_cons_succ, List.set_cons_zero, List.set_cons_succ, Option.some.injEq, AV.int.injEq, AV.bl.injEq, AV.str.injEq, AV.ref.injEq, AV.tup.injEq, AV.lst.injEq, AO.list.injEq, List.cons.injEq, exists_eq_left', exists_eq_left, exists_and_left, List.map_cons, List.map_nil, List.replicate, List.cons_append, List.nil_append, and_true, true_and, if_true, Nat.sub_self, ite_true, List.length_cons, List.length_nil, Nat.zero_add, Nat.reduceAdd, Nat.reduceSub, List.length_set, x0, x2]
    have kl1 := putS_len (ks := foldS (dn.flatMap k2)) (q := kS a)
    have k1 : (putS (foldS (dn.flatMap k2)) (kS a)).length ≤ 11 := by rw [kl1]; split <;> omega
    have h1s := hI.edit (y := .set (putS (foldS (dn.flatMap k2)) (kS a))) ix
    have h2s := h1s.edit (y := .set (putS (putS (foldS (dn.flatMap k2)) (kS a)) (kS d))) ix
    have fe : putS (putS (foldS (dn.flatMap k2)) (kS a)) (kS d) = foldS ((dn ++ [[a, o, d]]).flatMap k2) := by
      rw [List.flatMap_append, fold_app]; rfl
    refine ⟨_, hI.last ix, rfl, _, hI.last ix, _, _, sadd_ok (by omega), _, h1s.last ix, rfl, _, h1s.last ix, _, _, sadd_ok (by show (putS _ (kS a)).length ≤ _; omega), _, vLenA_rs (h2s.last ix), _, vGt_ii, _, rfl, ?_⟩
    have hR2 : R = (dn ++ [[a, o, d]]) ++ td := by rw [hR]; simp
    by_cases h10 : (foldS ((dn ++ [[a, o, d]]).flatMap k2)).length ≤ 10
    · rw [if_neg (by rw [decide_eq_true_eq]; have := congrArg List.length fe; simp only [kS] at this ⊢; omega)]
      refine ⟨i + 1, dn ++ [[a, o, d]], td, hR2, rfl, fun q hq => ?_, h10, _, _, ⟨rfl, rfl⟩, ?_⟩
      · rcases List.mem_append.mp hq with z | z
        · exact hG q z
        · rw [List.mem_singleton.mp z]; exact hcl
      · rw [← fe]; exact h2s
    · rw [if_pos (by rw [decide_eq_true_eq]; have := congrArg List.length fe; simp only [kS] at this ⊢; omega)]
      refine out _ _ ?_ h2s
      have big : ¬ (foldS (R.flatMap k2)).length ≤ 10 := by
        rw [hR2, List.flatMap_append, fold_app]
        have := fold_mono (td.flatMap k2) (ks := foldS ((dn ++ [[a, o, d]]).flatMap k2))
        omega
      unfold good
      rw [decide_eq_false big]; simp
  · rintro ⟨i, dn, td, w2, w3, hR, hr, hG, kl, rfl, hI⟩
    have : td = [] := by
      cases td with
      | nil => rfl
      | cons c td => rw [List.map_cons, pairUp] at hr; cases hr
    subst this
    rw [List.append_nil] at hR
    subst hR
    refine ⟨_, hI, fun h2 k2 => ⟨?_, k2⟩⟩
    unfold good
    rw [decide_eq_true hl, decide_eq_true kl, List.all_eq_true.mpr hG]; rfl
  · exact ⟨0, [], R, none, none, rfl, rfl, by simp, by simp [foldS], rfl, hh1.push _⟩
end
section
variable {e : AHeap} {b : Nat}
theorem hit_ic : hitL exT ["InvalidClaims"] "InvalidClaims" = some true := by kernel_rfl
theorem purses_noX {h : AHeap} (hh : HI e b h) (he : e.all AO.noX = true) : h.all AO.noX = true := by
  obtain ⟨hp, rfl, rfl, q⟩ := hh
  rw [List.all_append, Bool.and_eq_true]
  refine ⟨List.all_eq_true.mpr fun o ho => ?_, he⟩
  obtain ⟨a, d, t, rfl, _⟩ := q o ho
  rfl
theorem xare {h : AHeap} {R : List Row} (hh : HI e b h) (hc : e.all (AO.closed 0) = true) (hx : e.all AO.noX = true) (sm : Sml R) :
    Ens (m_are_claims [.tup (R.map rv)] h) fun v h' => v = .bl (good R) ∧ HI e b h' := by
  refine (xn_defH (E := fun _ _ => False) rfl hc hh ?_).ens
  simp only [xn_bind, xn_ok, xn_bad, xn_lift, xn_var, xn_c, xn_bin, xn_un, xn_test, xn_chain, xn_andT, xn_orT, xn_notT, xn_and, xn_or, xn_not, xn_if, xn_nil, xn_cons, xn_tup, xn_list, xn_pureL, xn_newL, xn_fn, xn_call, xn_callK, xn_methS, xn_oN, xn_oS, xn_sl, xn_rng1, xn_iter, xn_lc, xs_seq, xs_skip, xs_ret, xs_retN, xs_if, xs_asg, xs_par2, xs_for, eg_name, eg_nil, eg_cons, eg_tup, eg_sub, xs_drop, xs_bad, xn_listOf, xn_methO, xs_setL1, xs_setL0, xn_set0, xn_fmt, xn_joinN, xn_joinC, xn_enum, xn_sortS, xn_split, xn_rng2, xs_tryO, xs_outX, es_drop, es_bad, es_try0, en_listOf, en_methO, es_setL1, es_setL0, en_set0, en_fmt, en_joinN, en_joinC, en_enum, en_sortS, en_split, en_rng2, vIxA_t, vIxA_l, vIxA_s, vLenA_s, vLenA_t, vLenA_l, vMulA_ii, vAdd_ii, vAdd_ss, vAdd_ll, vSub_ii, vMul_ii, vDiv_ii, vMod_ii, vLt_ii, vLe_ii, vGt_ii, vGe_ii, vEq_ii, vEq_ss, vNe_ii, vNe_ss, vIx_t, vIx_l, vIx_s, vIx_r, vLen_s, vLen_t, vLen_l, vLen_r, List.getElem?_cons_zero, List.getElem?_cons_succ, List.set_cons_zero, List.set_cons_succ, Option.some.injEq, AV.int.injEq, AV.bl.injEq, AV.str.injEq, AV.ref.injEq, AV.tup.injEq, AV.lst.injEq, AO.list.injEq, List.cons.injEq, exists_eq_left', exists_eq_left, exists_and_left, List.map_cons, List.map_nil, List.replicate, List.cons_append, List.nil_append, and_true, true_and, if_true, Nat.sub_self, ite_true, List.length_cons, List.length_nil, Nat.zero_add, Nat.reduceAdd, Nat.reduceSub, List.length_set]
  refine (xcheck hh hc sm).monoX ?_ ?_
  · rintro v h1 ⟨rfl, g, k⟩
    exact ⟨[], by simpa using k, _, .pure rfl, fun h2 k2 => ⟨by rw [g], k2⟩⟩
  · rintro x h1 ⟨hx1, g, k⟩
    rw [hx1]
    refine ⟨true, hit_ic, ?_⟩
    rw [if_pos rfl]
    exact ⟨by rw [purses_noX k hx]; rfl, [], by simpa using k, _, .pure rfl, fun h2 k2 => ⟨by rw [g], k2⟩⟩
/-- the rows of a text, () of none -/
def rowsT (s : List Nat) : List Row := if s = [] then [] else rowsOf s
theorem rowsT_small {s : List Nat} (hs : s.length ≤ 4000) : Sml (rowsT s) := by
  unfold rowsT
  split
  · exact ⟨by simp, by simp⟩
  · exact rows_small hs
theorem paired_rows : ∀ {ps : List (List Nat)} {ys : List AV}, Paired (fun v y => ∃ p, v = AV.str p ∧ y = rv (cutS [32] p)) (ps.map AV.str) ys → ys = (ps.map (cutS [32])).map rv
  | [], _, .nil => rfl
  | p :: ps, _, .cons h r => by
    obtain ⟨q, e, rfl⟩ := h
    cases e
    rw [paired_rows r]; rfl
theorem rv_closed {R : List Row} {k : Nat} : AV.closeds k (R.map rv) = true := closeds_all fun v hv => by
  obtain ⟨r, _, rfl⟩ := List.mem_map.mp hv
  exact closeds_all fun x hx => by obtain ⟨s, _, rfl⟩ := List.mem_map.mp hx; rfl
theorem xread {h : AHeap} {s : List Nat} (hh : HI e b h) (hc : e.all (AO.closed 0) = true) (hx : e.all AO.noX = true) (hs : s.length ≤ 4000) :
    Ens (m_read_claims [.str s] h) fun v h' => v = (if good (rowsT s) = true then .tup ((rowsT s).map rv) else .non) ∧ HI e b h' := by
  refine en_defH rfl hc hh ?_
  refine es_cut (fun ρ1 h1 => ρ1 = [some (.str s), none, none] ∧ s ≠ [] ∧ HI e b h1) ?_ fun ρ1 h1 => ?_
  · simp only [en_bind, en_ok, en_bad, en_lift, en_var, en_c, en_bin, en_un, en_test, en_chain, en_andT, en_orT, en_notT, en_and, en_or, en_not, en_if, en_nil, en_cons, en_tup, en_list, en_pureL, en_newL, en_fn, en_call, en_callK, en_methS, en_oN, en_oS, en_sl, en_rng1, en_iter, en_lc, es_seq, es_skip, es_ret, es_retN, es_if, es_asg, es_par2, es_for, eg_name, eg_nil, eg_cons, eg_tup, eg_sub, es_drop, es_bad, es_try0, en_listOf, en_methO, es_setL1, es_setL0, en_set0, en_fmt, en_joinN, en_joinC, en_enum, en_sortS, en_split, en_rng2, vIxA_t, vIxA_l, vIxA_s, vLenA_s, vLenA_t, vLenA_l, vMulA_ii, vAdd_ii, vAdd_ss, vAdd_ll, vSub_ii, vMul_ii, vDiv_ii, vMod_ii, vLt_ii, vLe_ii, vGt_ii, vGe_ii, vEq_ii, vEq_ss, vNe_ii, vNe_ss, vIx_t, vIx_l, vIx_s, vIx_r, vLen_s, vLen_t, vLen_l, vLen_r, List.getElem?_cons_zero, List.getElem?_cons_succ, List.set_cons_zero, List.set_cons_succ, Option.some.injEq, AV.int.injEq, AV.bl.injEq, AV.str.injEq, AV.ref.injEq, AV.tup.injEq, AV.lst.injEq, AO.list.injEq, List.cons.injEq, exists_eq_left', exists_eq_left, exists_and_left, List.map_cons, List.map_nil, List.replicate, List.cons_append, List.nil_append, and_true, true_and, if_true, Nat.sub_self, ite_true, List.length_cons, List.length_nil, Nat.zero_add, Nat.reduceAdd, Nat.reduceSub, List.length_set]
    by_cases h0 : s = []
    · rw [if_pos (by simpa using h0)]
      subst h0
      exact ⟨rfl, [], by simpa using hh, _, .pure rfl, fun h2 k2 => ⟨rfl, k2⟩⟩
    · rw [if_neg (by simpa using h0)]
      exact ⟨h0, hh⟩
  rintro ⟨rfl, h0, hh1⟩
  have rT : rowsT s = rowsOf s := if_neg h0
  rw [rT]
  have sm := rows_small hs
  have b1 := spl_b [44, 32] s 0 []
  have sz : ∀ {n : Nat}, n ≤ 5000 → n + 2 ≤ szM := fun h => by unfold szM; omega
  refine es_cut (fun ρ1 h1 => ρ1 = [some (.str s), some (.tup ((rowsOf s).map rv)), none] ∧ HI e b h1) ?_ fun ρ1 h2 => ?_
  · simp only [en_bind, en_ok, en_bad, en_lift, en_var, en_c, en_bin, en_un, en_test, en_chain, en_andT, en_orT, en_notT, en_and, en_or, en_not, en_if, en_nil, en_cons, en_tup, en_list, en_pureL, en_newL, en_fn, en_call, en_callK, en_methS, en_oN, en_oS, en_sl, en_rng1, en_iter, en_lc, es_seq, es_skip, es_ret, es_retN, es_if, es_asg, es_par2, es_for, eg_name, eg_nil, eg_cons, eg_tup, eg_sub, es_drop, es_bad, es_try0, en_listOf, en_methO, es_setL1, es_setL0, en_set0, en_fmt, en_joinN, en_joinC, en_enum, en_sortS, en_split, en_rng2, vIxA_t, vIxA_l, vIxA_s, vLenA_s, vLenA_t, vLenA_l, vMulA_ii, vAdd_ii, vAdd_ss, vAdd_ll, vSub_ii, vMul_ii, vDiv_ii, vMod_ii, vLt_ii, vLe_ii, vGt_ii, vGe_ii, vEq_ii, vEq_ss, vNe_ii, vNe_ss, vIx_t, vIx_l, vIx_s, vIx_r, vLen_s, vLen_t, vLen_l, vLen_r, List.getElem?_cons_zero, List.getElem?_cons_succ, List.set_cons_zero, List.set_cons_succ, Option.some.injEq, AV.int.injEq, AV.bl.injEq, AV.str.injEq, AV.ref.injEq, AV.tup.injEq, AV.lst.injEq, AO.list.injEq, List.cons.injEq, exists_eq_left', exists_eq_left, exists_and_left, List.map_cons, List.map_nil, List.replicate, List.cons_append, List.nil_append, and_true, true_and, if_true, Nat.sub_self, ite_true, List.length_cons, List.length_nil, Nat.zero_add, Nat.reduceAdd, Nat.reduceSub, List.length_set]
    refine ⟨⟨by simp, sz (by omega)⟩, _, rfl, ?_⟩
    rw [split_cut (by simp)]
    refine ⟨szOk_le (by rw [List.length_map]; have := b1.2; unfold cutS; omega), ?_⟩
    refine en_lcR (fun h' => HI e b h') (fun v y => ∃ p, v = AV.str p ∧ y = rv (cutS [32] p)) ?_ hh1 ?_
    · rintro v hv h5 hh5
      obtain ⟨p, hp, rfl⟩ := List.mem_map.mp hv
      have pl := (b1.1 p hp).1
      simp only [List.length_nil, Nat.zero_add] at pl
      refine ⟨_, rfl, ?_⟩
      simp only [en_bind, en_ok, en_bad, en_lift, en_var, en_c, en_bin, en_un, en_test, en_chain, en_andT, en_orT, en_notT, en_and, en_or, en_not, en_if, en_nil, en_cons, en_tup, en_list, en_pureL, en_newL, en_fn, en_call, en_callK, en_methS, en_oN, en_oS, en_sl, en_rng1, en_iter, en_lc, es_seq, es_skip, es_ret, es_retN, es_if, es_asg, es_par2, es_for, eg_name, eg_nil, eg_cons, eg_tup, eg_sub, es_drop, es_bad, es_try0, en_listOf, en_methO, es_setL1, es_setL0, en_set0, en_fmt, en_joinN, en_joinC, en_enum, en_sortS, en_split, en_rng2, vIxA_t, vIxA_l, vIxA_s, vLenA_s, vLenA_t, vLenA_l, vMulA_ii, vAdd_ii, vAdd_ss, vAdd_ll, vSub_ii, vMul_ii, vDiv_ii, vMod_ii, vLt_ii, vLe_ii, vGt_ii, vGe_ii, vEq_ii, vEq_ss, vNe_ii, vNe_ss, vIx_t, vIx_l, vIx_s, vIx_r, vLen_s, vLen_t, vLen_l, vLen_r, List.getElem?_cons_zero, List.getElem?_cons_succ, List.set_cons_zero, List.set_cons_succ, Option.some.injEq, AV.int.injEq, AV.bl.injEq, AV.str.injEq, AV.ref.injEq, AV.tup.injEq, AV.lst.injEq, AO.list.injEq, List.cons.injEq, exists_eq_left', exists_eq_left, exists_and_left, List.map_cons, List.map_nil, List.replicate, List.cons_append, List.nil_append, and_true, true_and, if_true, Nat.sub_self, ite_true, List.length_cons, List.length_nil, Nat.zero_add, Nat.reduceAdd, Nat.reduceSub, List.length_set, wipeA, List.foldl]
      rw [split_cut (by simp)]
      exact ⟨⟨by simp, sz (by omega)⟩, _, rfl, rfl, hh5⟩
    · rintro ys h5 hY hh5
      have := paired_rows hY
      subst this
      refine ⟨_, rfl, ?_⟩
      first | exact ⟨rfl, hh5⟩ | exact hh5
  rintro ⟨rfl, hh2⟩
  simp only [en_bind, en_ok, en_bad, en_lift, en_var, en_c, en_bin, en_un, en_test, en_chain, en_andT, en_orT, en_notT, en_and, en_or, en_not, en_if, en_nil, en_cons, en_tup, en_list, en_pureL, en_newL, en_fn, en_call, en_callK, en_methS, en_oN, en_oS, en_sl, en_rng1, en_iter, en_lc, es_seq, es_skip, es_ret, es_retN, es_if, es_asg, es_par2, es_for, eg_name, eg_nil, eg_cons, eg_tup, eg_sub, es_drop, es_bad, es_try0, en_listOf, en_methO, es_setL1, es_setL0, en_set0, en_fmt, en_joinN, en_joinC, en_enum, en_sortS, en_split, en_rng2, vIxA_t, vIxA_l, vIxA_s, vLenA_s, vLenA_t, vLenA_l, vMulA_ii, vAdd_ii, vAdd_ss, vAdd_ll, vSub_ii, vMul_ii, vDiv_ii, vMod_ii, vLt_ii, vLe_ii, vGt_ii, vGe_ii, vEq_ii, vEq_ss, vNe_ii, vNe_ss, vIx_t, vIx_l, vIx_s, vIx_r, vLen_s, vLen_t, vLen_l, vLen_r, List.getElem?_cons_zero, List.getElem?_cons_succ, List.set_cons_zero, List.set_cons_succ, Option.some.injEq, AV.int.injEq, AV.bl.injEq, AV.str.injEq, AV.ref.injEq, AV.tup.injEq, AV.lst.injEq, AO.list.injEq, List.cons.injEq, exists_eq_left', exists_eq_left, exists_and_left, List.map_cons, List.map_nil, List.replicate, List.cons_append, List.nil_append, and_true, true_and, if_true, Nat.sub_self, ite_true, List.length_cons, List.length_nil, Nat.zero_add, Nat.reduceAdd, Nat.reduceSub, List.length_set]
  refine (xare hh2 hc hx sm).mono ?_
  rintro v h3 ⟨rfl, hh3⟩
  refine ⟨_, rfl, ?_⟩
  cases hg : good (rowsOf s) with
  | true =>
    rw [if_pos rfl]
    exact ⟨[], by simpa using hh3, _, .pure rv_closed, fun h2 k2 => ⟨by rw [if_pos rfl], k2⟩⟩
  | false =>
    rw [if_neg (by simp)]
    exact ⟨[], by simpa using hh3, _, .pure rfl, fun h2 k2 => ⟨by rw [if_neg (by simp)], k2⟩⟩
/-- what parse_claims lets out -/
def XT (p : Prop) (e : AHeap) (b : Nat) : AX → AHeap → Prop := fun x h' => x = ⟨"InvalidText", ["line"], [.int 0]⟩ ∧ p ∧ HI e b h'
theorem xparse {h : AHeap} {s : List Nat} (hh : HI e b h) (hc : e.all (AO.closed 0) = true) (hx : e.all AO.noX = true) (hs : s.length ≤ 4000) :
    EnX (XT (good (rowsT s) = false) e b) (m_parse_claims [.str s] h) fun v h' => v = .tup ((rowsT s).map rv) ∧ good (rowsT s) = true ∧ HI e b h' := by
  refine xn_defH rfl hc hh ?_
  have at0 : vIsi h [.str s, .ty .str] = some (.bl true) := vIsi_v (t := .str) (a := .str) (by decide) rfl
  simp only [xn_bind, xn_ok, xn_bad, xn_lift, xn_var, xn_c, xn_bin, xn_un, xn_test, xn_chain, xn_andT, xn_orT, xn_notT, xn_and, xn_or, xn_not, xn_if, xn_nil, xn_cons, xn_tup, xn_list, xn_pureL, xn_newL, xn_fn, xn_call, xn_callK, xn_methS, xn_oN, xn_oS, xn_sl, xn_rng1, xn_iter, xn_lc, xs_seq, xs_skip, xs_ret, xs_retN, xs_if, xs_asg, xs_par2, xs_for, eg_name, eg_nil, eg_cons, eg_tup, eg_sub, xs_drop, xs_bad, xn_listOf, xn_methO, xs_setL1, xs_setL0, xn_set0, xn_fmt, xn_joinN, xn_joinC, xn_enum, xn_sortS, xn_split, xn_rng2, xs_raise1, es_drop, es_bad, es_try0, en_listOf, en_methO, es_setL1, es_setL0, en_set0, en_fmt, en_joinN, en_joinC, en_enum, en_sortS, en_split, en_rng2, vIxA_t, vIxA_l, vIxA_s, vLenA_s, vLenA_t, vLenA_l, vMulA_ii, vAdd_ii, vAdd_ss, vAdd_ll, vSub_ii, vMul_ii, vDiv_ii, vMod_ii, vLt_ii, vLe_ii, vGt_ii, vGe_ii, vEq_ii, vEq_ss, vNe_ii, vNe_ss, vIx_t, vIx_l, vIx_s, vIx_r, vLen_s, vLen_t, vLen_l, vLen_r, List.getElem?_cons_zero, List.getElem?_cons_succ, List.set_cons_zero, List.set_cons_succ, Option.some.injEq, AV.int.injEq, AV.bl.injEq, AV.str.injEq, AV.ref.injEq, AV.tup.injEq, AV.lst.injEq, AO.list.injEq, List.cons.injEq, exists_eq_left', exists_eq_left, exists_and_left, List.map_cons, List.map_nil, List.replicate, List.cons_append, List.nil_append, and_true, true_and, if_true, Nat.sub_self, ite_true, List.length_cons, List.length_nil, Nat.zero_add, Nat.reduceAdd, Nat.reduceSub, List.length_set, at0]
  refine (xread hh hc hx hs).x.mono ?_
  rintro v h1 ⟨rfl, hh1⟩
  cases hg : good (rowsT s) with
  | true =>
    rw [if_pos rfl]
    refine ⟨_, rfl, _, rfl, ?_⟩
    rw [if_neg (by simp)]
    exact ⟨[], by simpa using hh1, _, .pure rv_closed, fun h2 k2 => ⟨rfl, rfl, k2⟩⟩
  | false =>
    rw [if_neg (by simp)]
    refine ⟨_, rfl, _, rfl, ?_⟩
    rw [if_pos (by simp)]
    exact ⟨[], by simpa using hh1, rfl, fun h2 k2 => ⟨rfl, rfl, k2⟩⟩
theorem xparse0 {h : AHeap} {v : AV} (hh : HI e b h) (hc : e.all (AO.closed 0) = true) (at_ : Atm v) (ht : tg v ≠ .str) :
    EnX (XT True e b) (m_parse_claims [v] h) fun _ _ => False := by
  refine xn_defH rfl hc hh ?_
  have at0 : isT (tg v) .str = false := by
    unfold isT
    rw [decide_eq_false ht]; simp
  simp only [xn_bind, xn_ok, xn_bad, xn_lift, xn_var, xn_c, xn_bin, xn_un, xn_test, xn_chain, xn_andT, xn_orT, xn_notT, xn_and, xn_or, xn_not, xn_if, xn_nil, xn_cons, xn_tup, xn_list, xn_pureL, xn_newL, xn_fn, xn_call, xn_callK, xn_methS, xn_oN, xn_oS, xn_sl, xn_rng1, xn_iter, xn_lc, xs_seq, xs_skip, xs_ret, xs_retN, xs_if, xs_asg, xs_par2, xs_for, eg_name, eg_nil, eg_cons, eg_tup, eg_sub, xs_drop, xs_bad, xn_listOf, xn_methO, xs_setL1, xs_setL0, xn_set0, xn_fmt, xn_joinN, xn_joinC, xn_enum, xn_sortS, xn_split, xn_rng2, xs_raise1, es_drop, es_bad, es_try0, en_listOf, en_methO, es_setL1, es_setL0, en_set0, en_fmt, en_joinN, en_joinC, en_enum, en_sortS, en_split, en_rng2, vIxA_t, vIxA_l, vIxA_s, vLenA_s, vLenA_t, vLenA_l, vMulA_ii, vAdd_ii, vAdd_ss, vAdd_ll, vSub_ii, vMul_ii, vDiv_ii, vMod_ii, vLt_ii, vLe_ii, vGt_ii, vGe_ii, vEq_ii, vEq_ss, vNe_ii, vNe_ss, vIx_t, vIx_l, vIx_s, vIx_r, vLen_s, vLen_t, vLen_l, vLen_r, List.getElem?_cons_zero, List.getElem?_cons_succ, List.set_cons_zero, List.set_cons_succ, Option.some.injEq, AV.int.injEq, AV.bl.injEq, AV.str.injEq, AV.ref.injEq, AV.tup.injEq, AV.lst.injEq, AO.list.injEq, List.cons.injEq, exists_eq_left', exists_eq_left, exists_and_left, List.map_cons, List.map_nil, List.replicate, List.cons_append, List.nil_append, and_true, true_and, if_true, Nat.sub_self, ite_true, List.length_cons, List.length_nil, Nat.zero_add, Nat.reduceAdd, Nat.reduceSub, List.length_set, isi at_ (t := .str) (by decide), at0]
  rw [if_neg (by simp)]
  refine ⟨_, rfl, _, rfl, ?_⟩
  rw [if_pos (by simp)]
  exact ⟨[], by simpa using hh, rfl, fun h2 k2 => ⟨rfl, trivial, k2⟩⟩
end
end AIL
namespace AIL
open PySem PySem.Spec PyProof.Rows L2 AI
/-! ### lists that a def builds: steps -/
section
variable {e : AHeap} {b : Nat} {E' : AHeap} {ρ : AEnv} {h : AHeap} {N B C : AEnv → AHeap → Prop} {R : AV → AHeap → Prop}
theorem at_k {k n : Nat} {u : AO} (hh : HI (e ++ E') b h) (hk : E'[k]? = some u) (hn : n = b + e.length + k := by rfl) : h[n]? = some u := by
  rw [hh.atE (i := e.length + k) (by omega), List.getElem?_append_right (by omega), Nat.add_sub_cancel_left]
  exact hk
theorem set_k {k n : Nat} {u : AO} (hh : HI (e ++ E') b h) (hn : n = b + e.length + k := by rfl) : HI (e ++ E'.set k u) b (h.set n u) := by
  have := hh.setE (n := n) (i := e.length + k) (o := u) (by omega)
  rw [List.set_append_right _ _ (by omega), Nat.add_sub_cancel_left] at this
  exact this
theorem push_k {x : AO} (hh : HI (e ++ E') b h) : HI (e ++ (E' ++ [x])) b (h ++ [x]) := by
  have := hh.push [x]
  rwa [List.append_assoc] at this
theorem new_step {new : List AV} {as : AA} {i : Nat} (hh : HI (e ++ E') b h) (hs : szOk new = true) (ha : ∀ h', Ens (as ρ h') fun l h'' => l = new ∧ h'' = h') (k : ∀ h1, HI (e ++ (E' ++ [.list new])) b h1 → N (ρ.set i (some (.ref (b + e.length + E'.length)))) h1) :
    EnS (aAsg (newL (aList as)) (agName i) ρ h) N R B C := by
  rw [es_asg, en_newL, en_list]
  refine (ha h).mono ?_
  rintro l h' ⟨rfl, rfl⟩
  refine ⟨hs, ?_⟩
  rw [eg_name]
  have hl := hh.len
  rw [List.length_append] at hl
  rw [show h'.length = b + e.length + E'.length by omega]
  exact k _ (push_k hh)
theorem ext_step {own new : List AV} {as : AA} {i k0 : Nat} (hρ : ρ[i]? = some (some (.ref (b + e.length + k0)))) (ho : E'[k0]? = some (.list own)) (hh : HI (e ++ E') b h) (hs : szOk new = true) (hz : own.length + new.length < 10000) (ha : ∀ h', Ens (as ρ h') fun l h'' => l = new ∧ h'' = h')
    (k : ∀ h1, HI (e ++ ((E' ++ [AO.list new]).set k0 (AO.list (own ++ new)))) b h1 → N ρ h1) : EnS (aDrop (aMethO isL opExtend (aVar i) (aCons (newL (aList as)) aNil)) ρ h) N R B C := by
  rw [es_drop, en_methO, en_var]
  refine ⟨_, hρ, _, _, rfl, at_k hh ho, rfl, ?_⟩
  rw [en_cons, en_newL, en_list]
  refine (ha h).mono ?_
  rintro l h' ⟨rfl, rfl⟩
  refine ⟨hs, ?_⟩
  rw [en_nil]
  have kl : k0 < E'.length := (List.getElem?_eq_some_iff.mp ho).1
  have hp := push_k (x := AO.list l) hh
  have o2 : (E' ++ [AO.list l])[k0]? = some (.list own) := by rw [List.getElem?_append_left kl]; exact ho
  refine ⟨_, AV.non, AO.list (own ++ l), at_k (u := AO.list own) hp o2, ?_, k _ (set_k hp)⟩
  unfold opExtend
  have nw : (h' ++ [AO.list l])[h'.length]? = some (.list l) := by simp
  dsimp only
  rw [nw]
  dsimp only
  rw [if_pos (decide_eq_true (by unfold szM; omega))]
theorem dataH_r {h : AHeap} {n : Nat} {l : List AV} (e : h[n]? = some (.list l)) : dataH h (.ref n) = dataH [] (.lst l) := by
  have e1 : seqL h (.ref n) = some l := by unfold seqL; dsimp only; rw [e]
  have e2 : seqL ([] : AHeap) (.lst l) = some l := rfl
  unfold dataH
  rw [e1, e2]
  have e3 : AV.data (.ref n) = none := by unfold AV.data; rfl
  have e4 : AV.data (.lst l) = (AV.datas l).map .list := by unfold AV.data; rfl
  rw [e3, e4]
  cases hd : AV.datas l <;> simp [hd]
theorem dataH_l {h : AHeap} {l : List AV} : dataH h (.lst l) = dataH [] (.lst l) := rfl
theorem ne_rr {h : AHeap} {n m : Nat} {l l' : List AV} {r : AV} (h1 : h[n]? = some (.list l)) (h2 : h[m]? = some (.list l')) (hr : vEqData true [] (.lst l) (.lst l') = some r) : vNe h (.ref n) (.ref m) = some r := by
  show (match (none : Option AV) with | some v => some v | none => vEqData true h (.ref n) (.ref m)) = _
  dsimp only
  unfold vEqData at hr ⊢
  rw [dataH_r h1, dataH_r h2]; exact hr
theorem ne_rl {h : AHeap} {n : Nat} {l l' : List AV} {r : AV} (h1 : h[n]? = some (.list l)) (hr : vEqData true [] (.lst l) (.lst l') = some r) : vNe h (.ref n) (.lst l') = some r := by
  show (match (none : Option AV) with | some v => some v | none => vEqData true h (.ref n) (.lst l')) = _
  dsimp only
  unfold vEqData at hr ⊢
  rw [dataH_r h1, dataH_l]; exact hr
theorem es_rtK {r : SRes} {v : AV} {h' : AHeap} (e : r = .rt v h') (k : R v h') : EnS r N R B C := by
  rw [e, EnS_eq]; exact k
end
/-! ### what _law_kind says -/
section
variable {e : AHeap} {b : Nat}
theorem kf_InvalidClaim {w : AV} {h : AHeap} : vIsiE exT h [(.exn "InvalidText" ["line"] [w]), .gl "InvalidClaim"] = some (.bl false) := by kernel_rfl
theorem kf_InvalidClaims {w : AV} {h : AHeap} : vIsiE exT h [(.exn "InvalidText" ["line"] [w]), .gl "InvalidClaims"] = some (.bl false) := by kernel_rfl
theorem kf_InvalidVariables {w : AV} {h : AHeap} : vIsiE exT h [(.exn "InvalidText" ["line"] [w]), .gl "InvalidVariables"] = some (.bl false) := by kernel_rfl
theorem kf_InvalidFixed {w : AV} {h : AHeap} : vIsiE exT h [(.exn "InvalidText" ["line"] [w]), .gl "InvalidFixed"] = some (.bl false) := by kernel_rfl
theorem kf_InvalidCap {w : AV} {h : AHeap} : vIsiE exT h [(.exn "InvalidText" ["line"] [w]), .gl "InvalidCap"] = some (.bl false) := by kernel_rfl
theorem kf_InvalidIndex {w : AV} {h : AHeap} : vIsiE exT h [(.exn "InvalidText" ["line"] [w]), .gl "InvalidIndex"] = some (.bl false) := by kernel_rfl
theorem kf_InvalidPoints {w : AV} {h : AHeap} : vIsiE exT h [(.exn "InvalidText" ["line"] [w]), .gl "InvalidPoints"] = some (.bl false) := by kernel_rfl
theorem kf_InvalidSteps {w : AV} {h : AHeap} : vIsiE exT h [(.exn "InvalidText" ["line"] [w]), .gl "InvalidSteps"] = some (.bl false) := by kernel_rfl
theorem kf_InvalidProgram {w : AV} {h : AHeap} : vIsiE exT h [(.exn "InvalidText" ["line"] [w]), .gl "InvalidProgram"] = some (.bl false) := by kernel_rfl
theorem kf_InvalidText {w : AV} {h : AHeap} : vIsiE exT h [(.exn "InvalidText" ["line"] [w]), .gl "InvalidText"] = some (.bl true) := by kernel_rfl
theorem kf_InvalidState {w : AV} {h : AHeap} : vIsiE exT h [(.exn "InvalidText" ["line"] [w]), .gl "InvalidState"] = some (.bl false) := by kernel_rfl
theorem kf_InvalidWalk {w : AV} {h : AHeap} : vIsiE exT h [(.exn "InvalidText" ["line"] [w]), .gl "InvalidWalk"] = some (.bl false) := by kernel_rfl
theorem kf_InvalidSummary {w : AV} {h : AHeap} : vIsiE exT h [(.exn "InvalidText" ["line"] [w]), .gl "InvalidSummary"] = some (.bl false) := by kernel_rfl
theorem kf_InvalidTimes {w : AV} {h : AHeap} : vIsiE exT h [(.exn "InvalidText" ["line"] [w]), .gl "InvalidTimes"] = some (.bl false) := by kernel_rfl
theorem kf_InvalidCondition {w : AV} {h : AHeap} : vIsiE exT h [(.exn "InvalidText" ["line"] [w]), .gl "InvalidCondition"] = some (.bl false) := by kernel_rfl
theorem kf_InvalidEdit {w : AV} {h : AHeap} : vIsiE exT h [(.exn "InvalidText" ["line"] [w]), .gl "InvalidEdit"] = some (.bl false) := by kernel_rfl
theorem kf_InvalidEdits {w : AV} {h : AHeap} : vIsiE exT h [(.exn "InvalidText" ["line"] [w]), .gl "InvalidEdits"] = some (.bl false) := by kernel_rfl
theorem kf_InvalidHistory {w : AV} {h : AHeap} : vIsiE exT h [(.exn "InvalidText" ["line"] [w]), .gl "InvalidHistory"] = some (.bl false) := by kernel_rfl
theorem kf_InvalidCommand {w : AV} {h : AHeap} : vIsiE exT h [(.exn "InvalidText" ["line"] [w]), .gl "InvalidCommand"] = some (.bl false) := by kernel_rfl
theorem kf_UnknownPoint {w : AV} {h : AHeap} : vIsiE exT h [(.exn "InvalidText" ["line"] [w]), .gl "UnknownPoint"] = some (.bl false) := by kernel_rfl
theorem kf_UnknownStep {w : AV} {h : AHeap} : vIsiE exT h [(.exn "InvalidText" ["line"] [w]), .gl "UnknownStep"] = some (.bl false) := by kernel_rfl
theorem kf_UnknownClaim {w : AV} {h : AHeap} : vIsiE exT h [(.exn "InvalidText" ["line"] [w]), .gl "UnknownClaim"] = some (.bl false) := by kernel_rfl
theorem kf_NothingToUndo {w : AV} {h : AHeap} : vIsiE exT h [(.exn "InvalidText" ["line"] [w]), .gl "NothingToUndo"] = some (.bl false) := by kernel_rfl
theorem kf_Contradictory {w : AV} {h : AHeap} : vIsiE exT h [(.exn "InvalidText" ["line"] [w]), .gl "Contradictory"] = some (.bl false) := by kernel_rfl
theorem kf_DuplicateStep {w : AV} {h : AHeap} : vIsiE exT h [(.exn "InvalidText" ["line"] [w]), .gl "DuplicateStep"] = some (.bl false) := by kernel_rfl
theorem kf_Mismatch {w : AV} {h : AHeap} : vIsiE exT h [(.exn "InvalidText" ["line"] [w]), .gl "Mismatch"] = some (.bl false) := by kernel_rfl
theorem kf_Looping {w : AV} {h : AHeap} : vIsiE exT h [(.exn "InvalidText" ["line"] [w]), .gl "Looping"] = some (.bl false) := by kernel_rfl
theorem kf_TooMany {w : AV} {h : AHeap} : vIsiE exT h [(.exn "InvalidText" ["line"] [w]), .gl "TooMany"] = some (.bl false) := by kernel_rfl
theorem kf_CaprunsError {w : AV} {h : AHeap} : vIsiE exT h [(.exn "InvalidText" ["line"] [w]), .gl "CaprunsError"] = some (.bl true) := by kernel_rfl
theorem kf_SearchError {w : AV} {h : AHeap} : vIsiE exT h [(.exn "InvalidText" ["line"] [w]), .gl "SearchError"] = some (.bl false) := by kernel_rfl
theorem kf_ConflictError {w : AV} {h : AHeap} : vIsiE exT h [(.exn "InvalidText" ["line"] [w]), .gl "ConflictError"] = some (.bl false) := by kernel_rfl
theorem kf_LimitError {w : AV} {h : AHeap} : vIsiE exT h [(.exn "InvalidText" ["line"] [w]), .gl "LimitError"] = some (.bl false) := by kernel_rfl
theorem kf_ve {w : AV} {h : AHeap} : vIsiE exT h [(.exn "InvalidText" ["line"] [w]), .ty .ve] = some (.bl true) := by kernel_rfl
theorem kf_le {w : AV} {h : AHeap} : vIsiE exT h [(.exn "InvalidText" ["line"] [w]), .ty .le] = some (.bl false) := by kernel_rfl
theorem kf_re {w : AV} {h : AHeap} : vIsiE exT h [(.exn "InvalidText" ["line"] [w]), .ty .re] = some (.bl false) := by kernel_rfl
theorem kf_ae {w : AV} {h : AHeap} : vIsiE exT h [(.exn "InvalidText" ["line"] [w]), .ty .ae] = some (.bl false) := by kernel_rfl
theorem kind_InvalidText {h : AHeap} {w : AV} (hh : HI e b h) (hc : e.all (AO.closed 0) = true) : Ens (m__law_kind [(.exn "InvalidText" ["line"] [w])] h) fun v h' => v = .str [73, 110, 118, 97, 108, 105, 100, 84, 101, 120, 116] ∧ HI e b h' := by
  refine en_defH rfl hc hh ?_
  refine es_cut (fun ρ1 h1 => ρ1 = [some (.exn "InvalidText" ["line"] [w]), some (.ref (b + e.length + 0)), none, none, none, none] ∧ HI (e ++ [.list [.bl false, .bl false, .bl false]]) b h1) (new_step (E' := []) (new := [.bl false, .bl false, .bl false]) (show HI (e ++ []) b h by simpa using hh) rfl (fun h' => by simp only [en_bind, en_ok, en_bad, en_lift, en_var, en_c, en_bin, en_un, en_test, en_chain, en_andT, en_orT, en_notT, en_and, en_or, en_not, en_if, en_nil, en_cons, en_tup, en_list, en_pureL, en_newL, en_fn, en_call, en_callK, en_methS, en_oN, en_oS, en_sl, en_rng1, en_iter, en_lc, es_seq, es_skip, es_ret, es_retN, es_if, es_asg, es_par2, es_for, eg_name, eg_nil, eg_cons, eg_tup, eg_sub, es_drop, es_bad, es_try0, en_listOf, en_methO, es_setL1, es_setL0, en_set0, en_fmt, en_joinN, en_joinC, en_enum, en_sortS, en_split, en_rng2, vIxA_t, vIxA_l, vIxA_s, vLenA_s, vLenA_t, vLenA_l, vMulA_ii, vAdd_ii, vAdd_ss, vAdd_ll, vSub_ii, vMul_ii, vDiv_ii, vMod_ii, vLt_ii, vLe_ii, vGt_ii, vGe_ii, vEq_ii, vEq_ss, vNe_ii, vNe_ss, vIx_t, vIx_l, vIx_s, vIx_r, vLen_s, vLen_t, vLen_l, vLen_r, List.getElem?_cons_zero, List.getElem?_cons_succ, List.set_cons_zero, List.set_cons_succ, Option.some.injEq, AV.int.injEq, AV.bl.injEq, AV.str.injEq, AV.ref.injEq, AV.tup.injEq, AV.lst.injEq, AO.list.injEq, List.cons.injEq, exists_eq_left', exists_eq_left, exists_and_left, List.map_cons, List.map_nil, List.replicate, List.cons_append, List.nil_append, and_true, true_and, if_true, Nat.sub_self, ite_true, List.length_cons, List.length_nil, Nat.zero_add, Nat.reduceAdd, Nat.reduceSub, List.length_set, kf_InvalidClaim, kf_InvalidClaims, kf_InvalidVariables, kf_InvalidFixed, kf_InvalidCap, kf_InvalidIndex, kf_InvalidPoints, kf_InvalidSteps, kf_InvalidProgram, kf_InvalidText, kf_InvalidState, kf_InvalidWalk, kf_InvalidSummary, kf_InvalidTimes, kf_InvalidCondition, kf_InvalidEdit, kf_InvalidEdits, kf_InvalidHistory, kf_InvalidCommand, kf_UnknownPoint, kf_UnknownStep, kf_UnknownClaim, kf_NothingToUndo, kf_Contradictory, kf_DuplicateStep, kf_Mismatch, kf_Looping, kf_TooMany, kf_CaprunsError, kf_SearchError, kf_ConflictError, kf_LimitError, kf_ve, kf_le, kf_re, kf_ae]; first | done | exact ⟨rfl, rfl⟩ | simp) fun h1 q => ⟨rfl, q⟩) ?_
  rintro _ h1 ⟨rfl, hh1⟩
  refine es_cut (fun ρ1 h1 => ρ1 = [some (.exn "InvalidText" ["line"] [w]), some (.ref (b + e.length + 0)), none, none, none, none] ∧ HI (e ++ [.list [.bl false, .bl false, .bl false, .bl false, .bl false, .bl false], .list [.bl false, .bl false, .bl false]]) b h1) (ext_step (E' := [.list [.bl false, .bl false, .bl false]]) (own := [.bl false, .bl false, .bl false]) (new := [.bl false, .bl false, .bl false]) (k0 := 0) rfl rfl hh1 rfl (by decide) (fun h' => by simp only [en_bind, en_ok, en_bad, en_lift, en_var, en_c, en_bin, en_un, en_test, en_chain, en_andT, en_orT, en_notT, en_and, en_or, en_not, en_if, en_nil, en_cons, en_tup, en_list, en_pureL, en_newL, en_fn, en_call, en_callK, en_methS, en_oN, en_oS, en_sl, en_rng1, en_iter, en_lc, es_seq, es_skip, es_ret, es_retN, es_if, es_asg, es_par2, es_for, eg_name, eg_nil, eg_cons, eg_tup, eg_sub, es_drop, es_bad, es_try0, en_listOf, en_methO, es_setL1, es_setL0, en_set0, en_fmt, en_joinN, en_joinC, en_enum, en_sortS, en_split, en_rng2, vIxA_t, vIxA_l, vIxA_s, vLenA_s, vLenA_t, vLenA_l, vMulA_ii, vAdd_ii, vAdd_ss, vAdd_ll, vSub_ii, vMul_ii, vDiv_ii, vMod_ii, vLt_ii, vLe_ii, vGt_ii, vGe_ii, vEq_ii, vEq_ss, vNe_ii, vNe_ss, vIx_t, vIx_l, vIx_s, vIx_r, vLen_s, vLen_t, vLen_l, vLen_r, List.getElem?_cons_zero, List.getElem?_cons_succ, List.set_cons_zero, List.set_cons_succ, Option.some.injEq, AV.int.injEq, AV.bl.injEq, AV.str.injEq, AV.ref.injEq, AV.tup.injEq, AV.lst.injEq, AO.list.injEq, List.cons.injEq, exists_eq_left', exists_eq_left, exists_and_left, List.map_cons, List.map_nil, List.replicate, List.cons_append, List.nil_append, and_true, true_and, if_true, Nat.sub_self, ite_true, List.length_cons, List.length_nil, Nat.zero_add, Nat.reduceAdd, Nat.reduceSub, List.length_set, kf_InvalidClaim, kf_InvalidClaims, kf_InvalidVariables, kf_InvalidFixed, kf_InvalidCap, kf_InvalidIndex, kf_InvalidPoints, kf_InvalidSteps, kf_InvalidProgram, kf_InvalidText, kf_InvalidState, kf_InvalidWalk, kf_InvalidSummary, kf_InvalidTimes, kf_InvalidCondition, kf_InvalidEdit, kf_InvalidEdits, kf_InvalidHistory, kf_InvalidCommand, kf_UnknownPoint, kf_UnknownStep, kf_UnknownClaim, kf_NothingToUndo, kf_Contradictory, kf_DuplicateStep, kf_Mismatch, kf_Looping, kf_TooMany, kf_CaprunsError, kf_SearchError, kf_ConflictError, kf_LimitError, kf_ve, kf_le, kf_re, kf_ae]; first | done | exact ⟨rfl, rfl⟩ | simp) fun h1 q => ⟨rfl, q⟩) ?_
  rintro _ h2 ⟨rfl, hh2⟩
  refine es_cut (fun ρ1 h1 => ρ1 = [some (.exn "InvalidText" ["line"] [w]), some (.ref (b + e.length + 0)), none, none, none, none] ∧ HI (e ++ [.list [.bl false, .bl false, .bl false, .bl false, .bl false, .bl false, .bl false, .bl false, .bl false], .list [.bl false, .bl false, .bl false], .list [.bl false, .bl false, .bl false]]) b h1) (ext_step (E' := [.list [.bl false, .bl false, .bl false, .bl false, .bl false, .bl false], .list [.bl false, .bl false, .bl false]]) (own := [.bl false, .bl false, .bl false, .bl false, .bl false, .bl false]) (new := [.bl false, .bl false, .bl false]) (k0 := 0) rfl rfl hh2 rfl (by decide) (fun h' => by simp only [en_bind, en_ok, en_bad, en_lift, en_var, en_c, en_bin, en_un, en_test, en_chain, en_andT, en_orT, en_notT, en_and, en_or, en_not, en_if, en_nil, en_cons, en_tup, en_list, en_pureL, en_newL, en_fn, en_call, en_callK, en_methS, en_oN, en_oS, en_sl, en_rng1, en_iter, en_lc, es_seq, es_skip, es_ret, es_retN, es_if, es_asg, es_par2, es_for, eg_name, eg_nil, eg_cons, eg_tup, eg_sub, es_drop, es_bad, es_try0, en_listOf, en_methO, es_setL1, es_setL0, en_set0, en_fmt, en_joinN, en_joinC, en_enum, en_sortS, en_split, en_rng2, vIxA_t, vIxA_l, vIxA_s, vLenA_s, vLenA_t, vLenA_l, vMulA_ii, vAdd_ii, vAdd_ss, vAdd_ll, vSub_ii, vMul_ii, vDiv_ii, vMod_ii, vLt_ii, vLe_ii, vGt_ii, vGe_ii, vEq_ii, vEq_ss, vNe_ii, vNe_ss, vIx_t, vIx_l, vIx_s, vIx_r, vLen_s, vLen_t, vLen_l, vLen_r, List.getElem?_cons_zero, List.getElem?_cons_succ, List.set_cons_zero, List.set_cons_succ, Option.some.injEq, AV.int.injEq, AV.bl.injEq, AV.str.injEq, AV.ref.injEq, AV.tup.injEq, AV.lst.injEq, AO.list.injEq, List.cons.injEq, exists_eq_left', exists_eq_left, exists_and_left, List.map_cons, List.map_nil, List.replicate, List.cons_append, List.nil_append, and_true, true_and, if_true, Nat.sub_self, ite_true, List.length_cons, List.length_nil, Nat.zero_add, Nat.reduceAdd, Nat.reduceSub, List.length_set, kf_InvalidClaim, kf_InvalidClaims, kf_InvalidVariables, kf_InvalidFixed, kf_InvalidCap, kf_InvalidIndex, kf_InvalidPoints, kf_InvalidSteps, kf_InvalidProgram, kf_InvalidText, kf_InvalidState, kf_InvalidWalk, kf_InvalidSummary, kf_InvalidTimes, kf_InvalidCondition, kf_InvalidEdit, kf_InvalidEdits, kf_InvalidHistory, kf_InvalidCommand, kf_UnknownPoint, kf_UnknownStep, kf_UnknownClaim, kf_NothingToUndo, kf_Contradictory, kf_DuplicateStep, kf_Mismatch, kf_Looping, kf_TooMany, kf_CaprunsError, kf_SearchError, kf_ConflictError, kf_LimitError, kf_ve, kf_le, kf_re, kf_ae]; first | done | exact ⟨rfl, rfl⟩ | simp) fun h1 q => ⟨rfl, q⟩) ?_
  rintro _ h3 ⟨rfl, hh3⟩
  refine es_cut (fun ρ1 h1 => ρ1 = [some (.exn "InvalidText" ["line"] [w]), some (.ref (b + e.length + 0)), none, none, none, none] ∧ HI (e ++ [.list [.bl false, .bl false, .bl false, .bl false, .bl false, .bl false, .bl false, .bl false, .bl false, .bl true, .bl false, .bl false], .list [.bl false, .bl false, .bl false], .list [.bl false, .bl false, .bl false], .list [.bl true, .bl false, .bl false]]) b h1) (ext_step (E' := [.list [.bl false, .bl false, .bl false, .bl false, .bl false, .bl false, .bl false, .bl false, .bl false], .list [.bl false, .bl false, .bl false], .list [.bl false, .bl false, .bl false]]) (own := [.bl false, .bl false, .bl false, .bl false, .bl false, .bl false, .bl false, .bl false, .bl false]) (new := [.bl true, .bl false, .bl false]) (k0 := 0) rfl rfl hh3 rfl (by decide) (fun h' => by simp only [en_bind, en_ok, en_bad, en_lift, en_var, en_c, en_bin, en_un, en_test, en_chain, en_andT, en_orT, en_notT, en_and, en_or, en_not, en_if, en_nil, en_cons, en_tup, en_list, en_pureL, en_newL, en_fn, en_call, en_callK, en_methS, en_oN, en_oS, en_sl, en_rng1, en_iter, en_lc, es_seq, es_skip, es_ret, es_retN, es_if, es_asg, es_par2, es_for, eg_name, eg_nil, eg_cons, eg_tup, eg_sub, es_drop, es_bad, es_try0, en_listOf, en_methO, es_setL1, es_setL0, en_set0, en_fmt, en_joinN, en_joinC, en_enum, en_sortS, en_split, en_rng2, vIxA_t, vIxA_l, vIxA_s, vLenA_s, vLenA_t, vLenA_l, vMulA_ii, vAdd_ii, vAdd_ss, vAdd_ll, vSub_ii, vMul_ii, vDiv_ii, vMod_ii, vLt_ii, vLe_ii, vGt_ii, vGe_ii, vEq_ii, vEq_ss, vNe_ii, vNe_ss, vIx_t, vIx_l, vIx_s, vIx_r, vLen_s, vLen_t, vLen_l, vLen_r, List.getElem?_cons_zero, List.getElem?_cons_succ, List.set_cons_zero, List.set_cons_succ, Option.some.injEq, AV.int.injEq, AV.bl.injEq, AV.str.injEq, AV.ref.injEq, AV.tup.injEq, AV.lst.injEq, AO.list.injEq, List.cons.injEq, exists_eq_left', exists_eq_left, exists_and_left, List.map_cons, List.map_nil, List.replicate, List.cons_append, List.nil_append, and_true, true_and, if_true, Nat.sub_self, ite_true, List.length_cons, List.length_nil, Nat.zero_add, Nat.reduceAdd, Nat.reduceSub, List.length_set, kf_InvalidClaim, kf_InvalidClaims, kf_InvalidVariables, kf_InvalidFixed, kf_InvalidCap, kf_InvalidIndex, kf_InvalidPoints, kf_InvalidSteps, kf_InvalidProgram, kf_InvalidText, kf_InvalidState, kf_InvalidWalk, kf_InvalidSummary, kf_InvalidTimes, kf_InvalidCondition, kf_InvalidEdit, kf_InvalidEdits, kf_InvalidHistory, kf_InvalidCommand, kf_UnknownPoint, kf_UnknownStep, kf_UnknownClaim, kf_NothingToUndo, kf_Contradictory, kf_DuplicateStep, kf_Mismatch, kf_Looping, kf_TooMany, kf_CaprunsError, kf_SearchError, kf_ConflictError, kf_LimitError, kf_ve, kf_le, kf_re, kf_ae]; first | done | exact ⟨rfl, rfl⟩ | simp) fun h1 q => ⟨rfl, q⟩) ?_
  rintro _ h4 ⟨rfl, hh4⟩
  refine es_cut (fun ρ1 h1 => ρ1 = [some (.exn "InvalidText" ["line"] [w]), some (.ref (b + e.length + 0)), none, none, none, none] ∧ HI (e ++ [.list [.bl false, .bl false, .bl false, .bl false, .bl false, .bl false, .bl false, .bl false, .bl false, .bl true, .bl false, .bl false, .bl false, .bl false, .bl false], .list [.bl false, .bl false, .bl false], .list [.bl false, .bl false, .bl false], .list [.bl true, .bl false, .bl false], .list [.bl false, .bl false, .bl false]]) b h1) (ext_step (E' := [.list [.bl false, .bl false, .bl false, .bl false, .bl false, .bl false, .bl false, .bl false, .bl false, .bl true, .bl false, .bl false], .list [.bl false, .bl false, .bl false], .list [.bl false, .bl false, .bl false], .list [.bl true, .bl false, .bl false]]) (own := [.bl false, .bl false, .bl false, .bl false, .bl false, .bl false, .bl false, .bl false, .bl false, .bl true, .bl false, .bl false]) (new := [.bl false, .bl false, .bl false]) (k0 := 0) rfl rfl hh4 rfl (by decide) (fun h' => by simp only [en_bind, en_ok, en_bad, en_lift, en_var, en_c, en_bin, en_un, en_test, en_chain, en_andT, en_orT, en_notT, en_and, en_or, en_not, en_if, en_nil, en_cons, en_tup, en_list, en_pureL, en_newL, en_fn, en_call, en_callK, en_methS, en_oN, en_oS, en_sl, en_rng1, en_iter, en_lc, es_seq, es_skip, es_ret, es_retN, es_if, es_asg, es_par2, es_for, eg_name, eg_nil, eg_cons, eg_tup, eg_sub, es_drop, es_bad, es_try0, en_listOf, en_methO, es_setL1, es_setL0, en_set0, en_fmt, en_joinN, en_joinC, en_enum, en_sortS, en_split, en_rng2, vIxA_t, vIxA_l, vIxA_s, vLenA_s, vLenA_t, vLenA_l, vMulA_ii, vAdd_ii, vAdd_ss, vAdd_ll, vSub_ii, vMul_ii, vDiv_ii, vMod_ii, vLt_ii, vLe_ii, vGt_ii, vGe_ii, vEq_ii, vEq_ss, vNe_ii, vNe_ss, vIx_t, vIx_l, vIx_s, vIx_r, vLen_s, vLen_t, vLen_l, vLen_r, List.getElem?_cons_zero, List.getElem?_cons_succ, List.set_cons_zero, List.set_cons_succ, Option.some.injEq, AV.int.injEq, AV.bl.injEq, AV.str.injEq, AV.ref.injEq, AV.tup.injEq, AV.lst.injEq, AO.list.injEq, List.cons.injEq, exists_eq_left', exists_eq_left, exists_and_left, List.map_cons, List.map_nil, List.replicate, List.cons_append, List.nil_append, and_true, true_and, if_true, Nat.sub_self, ite_true, List.length_cons, List.length_nil, Nat.zero_add, Nat.reduceAdd, Nat.reduceSub, List.length_set, kf_InvalidClaim, kf_InvalidClaims, kf_InvalidVariables, kf_InvalidFixed, kf_InvalidCap, kf_InvalidIndex, kf_InvalidPoints, kf_InvalidSteps, kf_InvalidProgram, kf_InvalidText, kf_InvalidState, kf_InvalidWalk, kf_InvalidSummary, kf_InvalidTimes, kf_InvalidCondition, kf_InvalidEdit, kf_InvalidEdits, kf_InvalidHistory, kf_InvalidCommand, kf_UnknownPoint, kf_UnknownStep, kf_UnknownClaim, kf_NothingToUndo, kf_Contradictory, kf_DuplicateStep, kf_Mismatch, kf_Looping, kf_TooMany, kf_CaprunsError, kf_SearchError, kf_ConflictError, kf_LimitError, kf_ve, kf_le, kf_re, kf_ae]; first | done | exact ⟨rfl, rfl⟩ | simp) fun h1 q => ⟨rfl, q⟩) ?_
  rintro _ h5 ⟨rfl, hh5⟩
  refine es_cut (fun ρ1 h1 => ρ1 = [some (.exn "InvalidText" ["line"] [w]), some (.ref (b + e.length + 0)), none, none, none, none] ∧ HI (e ++ [.list [.bl false, .bl false, .bl false, .bl false, .bl false, .bl false, .bl false, .bl false, .bl false, .bl true, .bl false, .bl false, .bl false, .bl false, .bl false, .bl false, .bl false, .bl false], .list [.bl false, .bl false, .bl false], .list [.bl false, .bl false, .bl false], .list [.bl true, .bl false, .bl false], .list [.bl false, .bl false, .bl false], .list [.bl false, .bl false, .bl false]]) b h1) (ext_step (E' := [.list [.bl false, .bl false, .bl false, .bl false, .bl false, .bl false, .bl false, .bl false, .bl false, .bl true, .bl false, .bl false, .bl false, .bl false, .bl false], .list [.bl false, .bl false, .bl false], .list [.bl false, .bl false, .bl false], .list [.bl true, .bl false, .bl false], .list [.bl false, .bl false, .bl false]]) (own := [.bl false, .bl false, .bl false, .bl false, .bl false, .bl false, .bl false, .bl false, .bl false, .bl true, .bl false, .bl false, .bl false, .bl false, .bl false]) (new := [.bl false, .bl false, .bl false]) (k0 := 0) rfl rfl hh5 rfl (by decide) (fun h' => by simp only [en_bind, en_ok, en_bad, en_lift, en_var, en_c, en_bin, en_un, en_test, en_chain, en_andT, en_orT, en_notT, en_and, en_or, en_not, en_if, en_nil, en_cons, en_tup, en_list, en_pureL, en_newL, en_fn, en_call, en_callK, en_methS, en_oN, en_oS, en_sl, en_rng1, en_iter, en_lc, es_seq, es_skip, es_ret, es_retN, es_if, es_asg, es_par2, es_for, eg_name, eg_nil, eg_cons, eg_tup, eg_sub, es_drop, es_bad, es_try0, en_listOf, en_methO, es_setL1, es_setL0, en_set0, en_fmt, en_joinN, en_joinC, en_enum, en_sortS, en_split, en_rng2, vIxA_t, vIxA_l, vIxA_s, vLenA_s, vLenA_t, vLenA_l, vMulA_ii, vAdd_ii, vAdd_ss, vAdd_ll, vSub_ii, vMul_ii, vDiv_ii, vMod_ii, vLt_ii, vLe_ii, vGt_ii, vGe_ii, vEq_ii, vEq_ss, vNe_ii, vNe_ss, vIx_t, vIx_l, vIx_s, vIx_r, vLen_s, vLen_t, vLen_l, vLen_r, List.getElem?_cons_zero, List.getElem?_cons_succ, List.set_cons_zero, List.set_cons_succ, Option.some.injEq, AV.int.injEq, AV.bl.injEq, AV.str.injEq, AV.ref.injEq, AV.tup.injEq, AV.lst.injEq, AO.list.injEq, List.cons.injEq, exists_eq_left', exists_eq_left, exists_and_left, List.map_cons, List.map_nil, List.replicate, List.cons_append, List.nil_append, and_true, true_and, if_true, Nat.sub_self, ite_true, List.length_cons, List.length_nil, Nat.zero_add, Nat.reduceAdd, Nat.reduceSub, List.length_set, kf_InvalidClaim, kf_InvalidClaims, kf_InvalidVariables, kf_InvalidFixed, kf_InvalidCap, kf_InvalidIndex, kf_InvalidPoints, kf_InvalidSteps, kf_InvalidProgram, kf_InvalidText, kf_InvalidState, kf_InvalidWalk, kf_InvalidSummary, kf_InvalidTimes, kf_InvalidCondition, kf_InvalidEdit, kf_InvalidEdits, kf_InvalidHistory, kf_InvalidCommand, kf_UnknownPoint, kf_UnknownStep, kf_UnknownClaim, kf_NothingToUndo, kf_Contradictory, kf_DuplicateStep, kf_Mismatch, kf_Looping, kf_TooMany, kf_CaprunsError, kf_SearchError, kf_ConflictError, kf_LimitError, kf_ve, kf_le, kf_re, kf_ae]; first | done | exact ⟨rfl, rfl⟩ | simp) fun h1 q => ⟨rfl, q⟩) ?_
  rintro _ h6 ⟨rfl, hh6⟩
  refine es_cut (fun ρ1 h1 => ρ1 = [some (.exn "InvalidText" ["line"] [w]), some (.ref (b + e.length + 0)), none, none, none, none] ∧ HI (e ++ [.list [.bl false, .bl false, .bl false, .bl false, .bl false, .bl false, .bl false, .bl false, .bl false, .bl true, .bl false, .bl false, .bl false, .bl false, .bl false, .bl false, .bl false, .bl false, .bl false, .bl false, .bl false], .list [.bl false, .bl false, .bl false], .list [.bl false, .bl false, .bl false], .list [.bl true, .bl false, .bl false], .list [.bl false, .bl false, .bl false], .list [.bl false, .bl false, .bl false], .list [.bl false, .bl false, .bl false]]) b h1) (ext_step (E' := [.list [.bl false, .bl false, .bl false, .bl false, .bl false, .bl false, .bl false, .bl false, .bl false, .bl true, .bl false, .bl false, .bl false, .bl false, .bl false, .bl false, .bl false, .bl false], .list [.bl false, .bl false, .bl false], .list [.bl false, .bl false, .bl false], .list [.bl true, .bl false, .bl false], .list [.bl false, .bl false, .bl false], .list [.bl false, .bl false, .bl false]]) (own := [.bl false, .bl false, .bl false, .bl false, .bl false, .bl false, .bl false, .bl false, .bl false, .bl true, .bl false, .bl false, .bl false, .bl false, .bl false, .bl false, .bl false, .bl false]) (new := [.bl false, .bl false, .bl false]) (k0 := 0) rfl rfl hh6 rfl (by decide) (fun h' => by simp only [en_bind, en_ok, en_bad, en_lift, en_var, en_c, en_bin, en_un, en_test, en_chain, en_andT, en_orT, en_notT, en_and, en_or, en_not, en_if, en_nil, en_cons, en_tup, en_list, en_pureL, en_newL, en_fn, en_call, en_callK, en_methS, en_oN, en_oS, en_sl, en_rng1, en_iter, en_lc, es_seq, es_skip, es_ret, es_retN, es_if, es_asg, es_par2, es_for, eg_name, eg_nil, eg_cons, eg_tup, eg_sub, es_drop, es_bad, es_try0, en_listOf, en_methO, es_setL1, es_setL0, en_set0, en_fmt, en_joinN, en_joinC, en_enum, en_sortS, en_split, en_rng2, vIxA_t, vIxA_l, vIxA_s, vLenA_s, vLenA_t, vLenA_l, vMulA_ii, vAdd_ii, vAdd_ss, vAdd_ll, vSub_ii, vMul_ii, vDiv_ii, vMod_ii, vLt_ii, vLe_ii, vGt_ii, vGe_ii, vEq_ii, vEq_ss, vNe_ii, vNe_ss, vIx_t, vIx_l, vIx_s, vIx_r, vLen_s, vLen_t, vLen_l, vLen_r, List.getElem?_cons_zero, List.getElem?_cons_succ, List.set_cons_zero, List.set_cons_succ, Option.some.injEq, AV.int.injEq, AV.bl.injEq, AV.str.injEq, AV.ref.injEq, AV.tup.injEq, AV.lst.injEq, AO.list.injEq, List.cons.injEq, exists_eq_left', exists_eq_left, exists_and_left, List.map_cons, List.map_nil, List.replicate, List.cons_append, List.nil_append, and_true, true_and, if_true, Nat.sub_self, ite_true, List.length_cons, List.length_nil, Nat.zero_add, Nat.reduceAdd, Nat.reduceSub, List.length_set, kf_InvalidClaim, kf_InvalidClaims, kf_InvalidVariables, kf_InvalidFixed, kf_InvalidCap, kf_InvalidIndex, kf_InvalidPoints, kf_InvalidSteps, kf_InvalidProgram, kf_InvalidText, kf_InvalidState, kf_InvalidWalk, kf_InvalidSummary, kf_InvalidTimes, kf_InvalidCondition, kf_InvalidEdit, kf_InvalidEdits, kf_InvalidHistory, kf_InvalidCommand, kf_UnknownPoint, kf_UnknownStep, kf_UnknownClaim, kf_NothingToUndo, kf_Contradictory, kf_DuplicateStep, kf_Mismatch, kf_Looping, kf_TooMany, kf_CaprunsError, kf_SearchError, kf_ConflictError, kf_LimitError, kf_ve, kf_le, kf_re, kf_ae]; first | done | exact ⟨rfl, rfl⟩ | simp) fun h1 q => ⟨rfl, q⟩) ?_
  rintro _ h7 ⟨rfl, hh7⟩
  refine es_cut (fun ρ1 h1 => ρ1 = [some (.exn "InvalidText" ["line"] [w]), some (.ref (b + e.length + 0)), none, none, none, none] ∧ HI (e ++ [.list [.bl false, .bl false, .bl false, .bl false, .bl false, .bl false, .bl false, .bl false, .bl false, .bl true, .bl false, .bl false, .bl false, .bl false, .bl false, .bl false, .bl false, .bl false, .bl false, .bl false, .bl false, .bl false, .bl false, .bl false], .list [.bl false, .bl false, .bl false], .list [.bl false, .bl false, .bl false], .list [.bl true, .bl false, .bl false], .list [.bl false, .bl false, .bl false], .list [.bl false, .bl false, .bl false], .list [.bl false, .bl false, .bl false], .list [.bl false, .bl false, .bl false]]) b h1) (ext_step (E' := [.list [.bl false, .bl false, .bl false, .bl false, .bl false, .bl false, .bl false, .bl false, .bl false, .bl true, .bl false, .bl false, .bl false, .bl false, .bl false, .bl false, .bl false, .bl false, .bl false, .bl false, .bl false], .list [.bl false, .bl false, .bl false], .list [.bl false, .bl false, .bl false], .list [.bl true, .bl false, .bl false], .list [.bl false, .bl false, .bl false], .list [.bl false, .bl false, .bl false], .list [.bl false, .bl false, .bl false]]) (own := [.bl false, .bl false, .bl false, .bl false, .bl false, .bl false, .bl false, .bl false, .bl false, .bl true, .bl false, .bl false, .bl false, .bl false, .bl false, .bl false, .bl false, .bl false, .bl false, .bl false, .bl false]) (new := [.bl false, .bl false, .bl false]) (k0 := 0) rfl rfl hh7 rfl (by decide) (fun h' => by simp only [en_bind, en_ok, en_bad, en_lift, en_var, en_c, en_bin, en_un, en_test, en_chain, en_andT, en_orT, en_notT, en_and, en_or, en_not, en_if, en_nil, en_cons, en_tup, en_list, en_pureL, en_newL, en_fn, en_call, en_callK, en_methS, en_oN, en_oS, en_sl, en_rng1, en_iter, en_lc, es_seq, es_skip, es_ret, es_retN, es_if, es_asg, es_par2, es_for, eg_name, eg_nil, eg_cons, eg_tup, eg_sub, es_drop, es_bad, es_try0, en_listOf, en_methO, es_setL1, es_setL0, en_set0, en_fmt, en_joinN, en_joinC, en_enum, en_sortS, en_split, en_rng2, vIxA_t, vIxA_l, vIxA_s, vLenA_s, vLenA_t, vLenA_l, vMulA_ii, vAdd_ii, vAdd_ss, vAdd_ll, vSub_ii, vMul_ii, vDiv_ii, vMod_ii, vLt_ii, vLe_ii, vGt_ii, vGe_ii, vEq_ii, vEq_ss, vNe_ii, vNe_ss, vIx_t, vIx_l, vIx_s, vIx_r, vLen_s, vLen_t, vLen_l, vLen_r, List.getElem?_cons_zero, List.getElem?_cons_succ, List.set_cons_zero, List.set_cons_succ, Option.some.injEq, AV.int.injEq, AV.bl.injEq, AV.str.injEq, AV.ref.injEq, AV.tup.injEq, AV.lst.injEq, AO.list.injEq, List.cons.injEq, exists_eq_left', exists_eq_left, exists_and_left, List.map_cons, List.map_nil, List.replicate, List.cons_append, List.nil_append, and_true, true_and, if_true, Nat.sub_self, ite_true, List.length_cons, List.length_nil, Nat.zero_add, Nat.reduceAdd, Nat.reduceSub, List.length_set, kf_InvalidClaim, kf_InvalidClaims, kf_InvalidVariables, kf_InvalidFixed, kf_InvalidCap, kf_InvalidIndex, kf_InvalidPoints, kf_InvalidSteps, kf_InvalidProgram, kf_InvalidText, kf_InvalidState, kf_InvalidWalk, kf_InvalidSummary, kf_InvalidTimes, kf_InvalidCondition, kf_InvalidEdit, kf_InvalidEdits, kf_InvalidHistory, kf_InvalidCommand, kf_UnknownPoint, kf_UnknownStep, kf_UnknownClaim, kf_NothingToUndo, kf_Contradictory, kf_DuplicateStep, kf_Mismatch, kf_Looping, kf_TooMany, kf_CaprunsError, kf_SearchError, kf_ConflictError, kf_LimitError, kf_ve, kf_le, kf_re, kf_ae]; first | done | exact ⟨rfl, rfl⟩ | simp) fun h1 q => ⟨rfl, q⟩) ?_
  rintro _ h8 ⟨rfl, hh8⟩
  refine es_cut (fun ρ1 h1 => ρ1 = [some (.exn "InvalidText" ["line"] [w]), some (.ref (b + e.length + 0)), none, none, none, none] ∧ HI (e ++ [.list [.bl false, .bl false, .bl false, .bl false, .bl false, .bl false, .bl false, .bl false, .bl false, .bl true, .bl false, .bl false, .bl false, .bl false, .bl false, .bl false, .bl false, .bl false, .bl false, .bl false, .bl false, .bl false, .bl false, .bl false, .bl false, .bl false, .bl false], .list [.bl false, .bl false, .bl false], .list [.bl false, .bl false, .bl false], .list [.bl true, .bl false, .bl false], .list [.bl false, .bl false, .bl false], .list [.bl false, .bl false, .bl false], .list [.bl false, .bl false, .bl false], .list [.bl false, .bl false, .bl false], .list [.bl false, .bl false, .bl false]]) b h1) (ext_step (E' := [.list [.bl false, .bl false, .bl false, .bl false, .bl false, .bl false, .bl false, .bl false, .bl false, .bl true, .bl false, .bl false, .bl false, .bl false, .bl false, .bl false, .bl false, .bl false, .bl false, .bl false, .bl false, .bl false, .bl false, .bl false], .list [.bl false, .bl false, .bl false], .list [.bl false, .bl false, .bl false], .list [.bl true, .bl false, .bl false], .list [.bl false, .bl false, .bl false], .list [.bl false, .bl false, .bl false], .list [.bl false, .bl false, .bl false], .list [.bl false, .bl false, .bl false]]) (own := [.bl false, .bl false, .bl false, .bl false, .bl false, .bl false, .bl false, .bl false, .bl false, .bl true, .bl false, .bl false, .bl false, .bl false, .bl false, .bl false, .bl false, .bl false, .bl false, .bl false, .bl false, .bl false, .bl false, .bl false]) (new := [.bl false, .bl false, .bl false]) (k0 := 0) rfl rfl hh8 rfl (by decide) (fun h' => by simp only [en_bind, en_ok, en_bad, en_lift, en_var, en_c, en_bin, en_un, en_test, en_chain, en_andT, en_orT, en_notT, en_and, en_or, en_not, en_if, en_nil, en_cons, en_tup, en_list, en_pureL, en_newL, en_fn, en_call, en_callK, en_methS, en_oN, en_oS, en_sl, en_rng1, en_iter, en_lc, es_seq, es_skip, es_ret, es_retN, es_if, es_asg, es_par2, es_for, eg_name, eg_nil, eg_cons, eg_tup, eg_sub, es_drop, es_bad, es_try0, en_listOf, en_methO, es_setL1, es_setL0, en_set0, en_fmt, en_joinN, en_joinC, en_enum, en_sortS, en_split, en_rng2, vIxA_t, vIxA_l, vIxA_s, vLenA_s, vLenA_t, vLenA_l, vMulA_ii, vAdd_ii, vAdd_ss, vAdd_ll, vSub_ii, vMul_ii, vDiv_ii, vMod_ii, vLt_ii, vLe_ii, vGt_ii, vGe_ii, vEq_ii, vEq_ss, vNe_ii, vNe_ss, vIx_t, vIx_l, vIx_s, vIx_r, vLen_s, vLen_t, vLen_l, vLen_r, List.getElem?_cons_zero, List.getElem?_cons_succ, List.set_cons_zero, List.set_cons_succ, Option.some.injEq, AV.int.injEq, AV.bl.injEq, AV.str.injEq, AV.ref.injEq, AV.tup.injEq, AV.lst.injEq, AO.list.injEq, List.cons.injEq, exists_eq_left', exists_eq_left, exists_and_left, List.map_cons, List.map_nil, List.replicate, List.cons_append, List.nil_append, and_true, true_and, if_true, Nat.sub_self, ite_true, List.length_cons, List.length_nil, Nat.zero_add, Nat.reduceAdd, Nat.reduceSub, List.length_set, kf_InvalidClaim, kf_InvalidClaims, kf_InvalidVariables, kf_InvalidFixed, kf_InvalidCap, kf_InvalidIndex, kf_InvalidPoints, kf_InvalidSteps, kf_InvalidProgram, kf_InvalidText, kf_InvalidState, kf_InvalidWalk, kf_InvalidSummary, kf_InvalidTimes, kf_InvalidCondition, kf_InvalidEdit, kf_InvalidEdits, kf_InvalidHistory, kf_InvalidCommand, kf_UnknownPoint, kf_UnknownStep, kf_UnknownClaim, kf_NothingToUndo, kf_Contradictory, kf_DuplicateStep, kf_Mismatch, kf_Looping, kf_TooMany, kf_CaprunsError, kf_SearchError, kf_ConflictError, kf_LimitError, kf_ve, kf_le, kf_re, kf_ae]; first | done | exact ⟨rfl, rfl⟩ | simp) fun h1 q => ⟨rfl, q⟩) ?_
  rintro _ h9 ⟨rfl, hh9⟩
  refine es_cut (fun ρ1 h1 => ρ1 = [some (.exn "InvalidText" ["line"] [w]), some (.ref (b + e.length + 0)), none, none, none, none] ∧ HI (e ++ [.list [.bl false, .bl false, .bl false, .bl false, .bl false, .bl false, .bl false, .bl false, .bl false, .bl true, .bl false, .bl false, .bl false, .bl false, .bl false, .bl false, .bl false, .bl false, .bl false, .bl false, .bl false, .bl false, .bl false, .bl false, .bl false, .bl false, .bl false, .bl false], .list [.bl false, .bl false, .bl false], .list [.bl false, .bl false, .bl false], .list [.bl true, .bl false, .bl false], .list [.bl false, .bl false, .bl false], .list [.bl false, .bl false, .bl false], .list [.bl false, .bl false, .bl false], .list [.bl false, .bl false, .bl false], .list [.bl false, .bl false, .bl false]]) b h1) ?_ ?_
  · simp only [en_bind, en_ok, en_bad, en_lift, en_var, en_c, en_bin, en_un, en_test, en_chain, en_andT, en_orT, en_notT, en_and, en_or, en_not, en_if, en_nil, en_cons, en_tup, en_list, en_pureL, en_newL, en_fn, en_call, en_callK, en_methS, en_oN, en_oS, en_sl, en_rng1, en_iter, en_lc, es_seq, es_skip, es_ret, es_retN, es_if, es_asg, es_par2, es_for, eg_name, eg_nil, eg_cons, eg_tup, eg_sub, es_drop, es_bad, es_try0, en_listOf, en_methO, es_setL1, es_setL0, en_set0, en_fmt, en_joinN, en_joinC, en_enum, en_sortS, en_split, en_rng2, vIxA_t, vIxA_l, vIxA_s, vLenA_s, vLenA_t, vLenA_l, vMulA_ii, vAdd_ii, vAdd_ss, vAdd_ll, vSub_ii, vMul_ii, vDiv_ii, vMod_ii, vLt_ii, vLe_ii, vGt_ii, vGe_ii, vEq_ii, vEq_ss, vNe_ii, vNe_ss, vIx_t, vIx_l, vIx_s, vIx_r, vLen_s, vLen_t, vLen_l, vLen_r, List.getElem?_cons_zero, List.getElem?_cons_succ, List.set_cons_zero, List.set_cons_succ, Option.some.injEq, AV.int.injEq, AV.bl.injEq, AV.str.injEq, AV.ref.injEq, AV.tup.injEq, AV.lst.injEq, AO.list.injEq, List.cons.injEq, exists_eq_left', exists_eq_left, exists_and_left, List.map_cons, List.map_nil, List.replicate, List.cons_append, List.nil_append, and_true, true_and, if_true, Nat.sub_self, ite_true, List.length_cons, List.length_nil, Nat.zero_add, Nat.reduceAdd, Nat.reduceSub, List.length_set, kf_InvalidClaim, kf_InvalidClaims, kf_InvalidVariables, kf_InvalidFixed, kf_InvalidCap, kf_InvalidIndex, kf_InvalidPoints, kf_InvalidSteps, kf_InvalidProgram, kf_InvalidText, kf_InvalidState, kf_InvalidWalk, kf_InvalidSummary, kf_InvalidTimes, kf_InvalidCondition, kf_InvalidEdit, kf_InvalidEdits, kf_InvalidHistory, kf_InvalidCommand, kf_UnknownPoint, kf_UnknownStep, kf_UnknownClaim, kf_NothingToUndo, kf_Contradictory, kf_DuplicateStep, kf_Mismatch, kf_Looping, kf_TooMany, kf_CaprunsError, kf_SearchError, kf_ConflictError, kf_LimitError, kf_ve, kf_le, kf_re, kf_ae]
    refine ⟨_, at_k hh9 rfl, rfl, _, at_k hh9 rfl, _, _, append_ok (m := [.bl false, .bl false, .bl false, .bl false, .bl false, .bl false, .bl false, .bl false, .bl false, .bl true, .bl false, .bl false, .bl false, .bl false, .bl false, .bl false, .bl false, .bl false, .bl false, .bl false, .bl false, .bl false, .bl false, .bl false, .bl false, .bl false, .bl false]) (by decide), ?_⟩
    first | exact set_k (k := 0) hh9 | exact ⟨rfl, set_k (k := 0) hh9⟩
  rintro _ h10 ⟨rfl, hh10⟩
  refine es_cut (fun ρ1 h1 => ρ1 = [some (.exn "InvalidText" ["line"] [w]), some (.ref (b + e.length + 0)), some (.ref (b + e.length + 9)), none, none, none] ∧ HI (e ++ [.list [.bl false, .bl false, .bl false, .bl false, .bl false, .bl false, .bl false, .bl false, .bl false, .bl true, .bl false, .bl false, .bl false, .bl false, .bl false, .bl false, .bl false, .bl false, .bl false, .bl false, .bl false, .bl false, .bl false, .bl false, .bl false, .bl false, .bl false, .bl false], .list [.bl false, .bl false, .bl false], .list [.bl false, .bl false, .bl false], .list [.bl true, .bl false, .bl false], .list [.bl false, .bl false, .bl false], .list [.bl false, .bl false, .bl false], .list [.bl false, .bl false, .bl false], .list [.bl false, .bl false, .bl false], .list [.bl false, .bl false, .bl false], .list [.bl true, .bl false]]) b h1) (new_step (E' := [.list [.bl false, .bl false, .bl false, .bl false, .bl false, .bl false, .bl false, .bl false, .bl false, .bl true, .bl false, .bl false, .bl false, .bl false, .bl false, .bl false, .bl false, .bl false, .bl false, .bl false, .bl false, .bl false, .bl false, .bl false, .bl false, .bl false, .bl false, .bl false], .list [.bl false, .bl false, .bl false], .list [.bl false, .bl false, .bl false], .list [.bl true, .bl false, .bl false], .list [.bl false, .bl false, .bl false], .list [.bl false, .bl false, .bl false], .list [.bl false, .bl false, .bl false], .list [.bl false, .bl false, .bl false], .list [.bl false, .bl false, .bl false]]) (new := [.bl true, .bl false]) hh10 rfl (fun h' => by simp only [en_bind, en_ok, en_bad, en_lift, en_var, en_c, en_bin, en_un, en_test, en_chain, en_andT, en_orT, en_notT, en_and, en_or, en_not, en_if, en_nil, en_cons, en_tup, en_list, en_pureL, en_newL, en_fn, en_call, en_callK, en_methS, en_oN, en_oS, en_sl, en_rng1, en_iter, en_lc, es_seq, es_skip, es_ret, es_retN, es_if, es_asg, es_par2, es_for, eg_name, eg_nil, eg_cons, eg_tup, eg_sub, es_drop, es_bad, es_try0, en_listOf, en_methO, es_setL1, es_setL0, en_set0, en_fmt, en_joinN, en_joinC, en_enum, en_sortS, en_split, en_rng2, vIxA_t, vIxA_l, vIxA_s, vLenA_s, vLenA_t, vLenA_l, vMulA_ii, vAdd_ii, vAdd_ss, vAdd_ll, vSub_ii, vMul_ii, vDiv_ii, vMod_ii, vLt_ii, vLe_ii, vGt_ii, vGe_ii, vEq_ii, vEq_ss, vNe_ii, vNe_ss, vIx_t, vIx_l, vIx_s, vIx_r, vLen_s, vLen_t, vLen_l, vLen_r, List.getElem?_cons_zero, List.getElem?_cons_succ, List.set_cons_zero, List.set_cons_succ, Option.some.injEq, AV.int.injEq, AV.bl.injEq, AV.str.injEq, AV.ref.injEq, AV.tup.injEq, AV.lst.injEq, AO.list.injEq, List.cons.injEq, exists_eq_left', exists_eq_left, exists_and_left, List.map_cons, List.map_nil, List.replicate, List.cons_append, List.nil_append, and_true, true_and, if_true, Nat.sub_self, ite_true, List.length_cons, List.length_nil, Nat.zero_add, Nat.reduceAdd, Nat.reduceSub, List.length_set, kf_InvalidClaim, kf_InvalidClaims, kf_InvalidVariables, kf_InvalidFixed, kf_InvalidCap, kf_InvalidIndex, kf_InvalidPoints, kf_InvalidSteps, kf_InvalidProgram, kf_InvalidText, kf_InvalidState, kf_InvalidWalk, kf_InvalidSummary, kf_InvalidTimes, kf_InvalidCondition, kf_InvalidEdit, kf_InvalidEdits, kf_InvalidHistory, kf_InvalidCommand, kf_UnknownPoint, kf_UnknownStep, kf_UnknownClaim, kf_NothingToUndo, kf_Contradictory, kf_DuplicateStep, kf_Mismatch, kf_Looping, kf_TooMany, kf_CaprunsError, kf_SearchError, kf_ConflictError, kf_LimitError, kf_ve, kf_le, kf_re, kf_ae]; first | done | exact ⟨rfl, rfl⟩ | simp) fun h1 q => ⟨rfl, q⟩) ?_
  rintro _ h11 ⟨rfl, hh11⟩
  refine es_cut (fun ρ1 h1 => ρ1 = [some (.exn "InvalidText" ["line"] [w]), some (.ref (b + e.length + 0)), some (.ref (b + e.length + 9)), none, none, none] ∧ HI (e ++ [.list [.bl false, .bl false, .bl false, .bl false, .bl false, .bl false, .bl false, .bl false, .bl false, .bl true, .bl false, .bl false, .bl false, .bl false, .bl false, .bl false, .bl false, .bl false, .bl false, .bl false, .bl false, .bl false, .bl false, .bl false, .bl false, .bl false, .bl false, .bl false], .list [.bl false, .bl false, .bl false], .list [.bl false, .bl false, .bl false], .list [.bl true, .bl false, .bl false], .list [.bl false, .bl false, .bl false], .list [.bl false, .bl false, .bl false], .list [.bl false, .bl false, .bl false], .list [.bl false, .bl false, .bl false], .list [.bl false, .bl false, .bl false], .list [.bl true, .bl false, .bl false, .bl false], .list [.bl false, .bl false]]) b h1) (ext_step (E' := [.list [.bl false, .bl false, .bl false, .bl false, .bl false, .bl false, .bl false, .bl false, .bl false, .bl true, .bl false, .bl false, .bl false, .bl false, .bl false, .bl false, .bl false, .bl false, .bl false, .bl false, .bl false, .bl false, .bl false, .bl false, .bl false, .bl false, .bl false, .bl false], .list [.bl false, .bl false, .bl false], .list [.bl false, .bl false, .bl false], .list [.bl true, .bl false, .bl false], .list [.bl false, .bl false, .bl false], .list [.bl false, .bl false, .bl false], .list [.bl false, .bl false, .bl false], .list [.bl false, .bl false, .bl false], .list [.bl false, .bl false, .bl false], .list [.bl true, .bl false]]) (own := [.bl true, .bl false]) (new := [.bl false, .bl false]) (k0 := 9) rfl rfl hh11 rfl (by decide) (fun h' => by simp only [en_bind, en_ok, en_bad, en_lift, en_var, en_c, en_bin, en_un, en_test, en_chain, en_andT, en_orT, en_notT, en_and, en_or, en_not, en_if, en_nil, en_cons, en_tup, en_list, en_pureL, en_newL, en_fn, en_call, en_callK, en_methS, en_oN, en_oS, en_sl, en_rng1, en_iter, en_lc, es_seq, es_skip, es_ret, es_retN, es_if, es_asg, es_par2, es_for, eg_name, eg_nil, eg_cons, eg_tup, eg_sub, es_drop, es_bad, es_try0, en_listOf, en_methO, es_setL1, es_setL0, en_set0, en_fmt, en_joinN, en_joinC, en_enum, en_sortS, en_split, en_rng2, vIxA_t, vIxA_l, vIxA_s, vLenA_s, vLenA_t, vLenA_l, vMulA_ii, vAdd_ii, vAdd_ss, vAdd_ll, vSub_ii, vMul_ii, vDiv_ii, vMod_ii, vLt_ii, vLe_ii, vGt_ii, vGe_ii, vEq_ii, vEq_ss, vNe_ii, vNe_ss, vIx_t, vIx_l, vIx_s, vIx_r, vLen_s, vLen_t, vLen_l, vLen_r, List.getElem?_cons_zero, List.getElem?_cons_succ, List.set_cons_zero, List.set_cons_succ, Option.some.injEq, AV.int.injEq, AV.bl.injEq, AV.str.injEq, AV.ref.injEq, AV.tup.injEq, AV.lst.injEq, AO.list.injEq, List.cons.injEq, exists_eq_left', exists_eq_left, exists_and_left, List.map_cons, List.map_nil, List.replicate, List.cons_append, List.nil_append, and_true, true_and, if_true, Nat.sub_self, ite_true, List.length_cons, List.length_nil, Nat.zero_add, Nat.reduceAdd, Nat.reduceSub, List.length_set, kf_InvalidClaim, kf_InvalidClaims, kf_InvalidVariables, kf_InvalidFixed, kf_InvalidCap, kf_InvalidIndex, kf_InvalidPoints, kf_InvalidSteps, kf_InvalidProgram, kf_InvalidText, kf_InvalidState, kf_InvalidWalk, kf_InvalidSummary, kf_InvalidTimes, kf_InvalidCondition, kf_InvalidEdit, kf_InvalidEdits, kf_InvalidHistory, kf_InvalidCommand, kf_UnknownPoint, kf_UnknownStep, kf_UnknownClaim, kf_NothingToUndo, kf_Contradictory, kf_DuplicateStep, kf_Mismatch, kf_Looping, kf_TooMany, kf_CaprunsError, kf_SearchError, kf_ConflictError, kf_LimitError, kf_ve, kf_le, kf_re, kf_ae]; first | done | exact ⟨rfl, rfl⟩ | simp) fun h1 q => ⟨rfl, q⟩) ?_
  rintro _ h12 ⟨rfl, hh12⟩
  refine es_cut (fun ρ1 h1 => ρ1 = [some (.exn "InvalidText" ["line"] [w]), some (.ref (b + e.length + 0)), some (.ref (b + e.length + 9)), some (.ref (b + e.length + 11)), none, none] ∧ HI (e ++ [.list [.bl false, .bl false, .bl false, .bl false, .bl false, .bl false, .bl false, .bl false, .bl false, .bl true, .bl false, .bl false, .bl false, .bl false, .bl false, .bl false, .bl false, .bl false, .bl false, .bl false, .bl false, .bl false, .bl false, .bl false, .bl false, .bl false, .bl false, .bl false], .list [.bl false, .bl false, .bl false], .list [.bl false, .bl false, .bl false], .list [.bl true, .bl false, .bl false], .list [.bl false, .bl false, .bl false], .list [.bl false, .bl false, .bl false], .list [.bl false, .bl false, .bl false], .list [.bl false, .bl false, .bl false], .list [.bl false, .bl false, .bl false], .list [.bl true, .bl false, .bl false, .bl false], .list [.bl false, .bl false], .list [.bl true, .bl false]]) b h1) (new_step (E' := [.list [.bl false, .bl false, .bl false, .bl false, .bl false, .bl false, .bl false, .bl false, .bl false, .bl true, .bl false, .bl false, .bl false, .bl false, .bl false, .bl false, .bl false, .bl false, .bl false, .bl false, .bl false, .bl false, .bl false, .bl false, .bl false, .bl false, .bl false, .bl false], .list [.bl false, .bl false, .bl false], .list [.bl false, .bl false, .bl false], .list [.bl true, .bl false, .bl false], .list [.bl false, .bl false, .bl false], .list [.bl false, .bl false, .bl false], .list [.bl false, .bl false, .bl false], .list [.bl false, .bl false, .bl false], .list [.bl false, .bl false, .bl false], .list [.bl true, .bl false, .bl false, .bl false], .list [.bl false, .bl false]]) (new := [.bl true, .bl false]) hh12 rfl (fun h' => by simp only [en_bind, en_ok, en_bad, en_lift, en_var, en_c, en_bin, en_un, en_test, en_chain, en_andT, en_orT, en_notT, en_and, en_or, en_not, en_if, en_nil, en_cons, en_tup, en_list, en_pureL, en_newL, en_fn, en_call, en_callK, en_methS, en_oN, en_oS, en_sl, en_rng1, en_iter, en_lc, es_seq, es_skip, es_ret, es_retN, es_if, es_asg, es_par2, es_for, eg_name, eg_nil, eg_cons, eg_tup, eg_sub, es_drop, es_bad, es_try0, en_listOf, en_methO, es_setL1, es_setL0, en_set0, en_fmt, en_joinN, en_joinC, en_enum, en_sortS, en_split, en_rng2, vIxA_t, vIxA_l, vIxA_s, vLenA_s, vLenA_t, vLenA_l, vMulA_ii, vAdd_ii, vAdd_ss, vAdd_ll, vSub_ii, vMul_ii, vDiv_ii, vMod_ii, vLt_ii, vLe_ii, vGt_ii, vGe_ii, vEq_ii, vEq_ss, vNe_ii, vNe_ss, vIx_t, vIx_l, vIx_s, vIx_r, vLen_s, vLen_t, vLen_l, vLen_r, List.getElem?_cons_zero, List.getElem?_cons_succ, List.set_cons_zero, List.set_cons_succ, Option.some.injEq, AV.int.injEq, AV.bl.injEq, AV.str.injEq, AV.ref.injEq, AV.tup.injEq, AV.lst.injEq, AO.list.injEq, List.cons.injEq, exists_eq_left', exists_eq_left, exists_and_left, List.map_cons, List.map_nil, List.replicate, List.cons_append, List.nil_append, and_true, true_and, if_true, Nat.sub_self, ite_true, List.length_cons, List.length_nil, Nat.zero_add, Nat.reduceAdd, Nat.reduceSub, List.length_set, kf_InvalidClaim, kf_InvalidClaims, kf_InvalidVariables, kf_InvalidFixed, kf_InvalidCap, kf_InvalidIndex, kf_InvalidPoints, kf_InvalidSteps, kf_InvalidProgram, kf_InvalidText, kf_InvalidState, kf_InvalidWalk, kf_InvalidSummary, kf_InvalidTimes, kf_InvalidCondition, kf_InvalidEdit, kf_InvalidEdits, kf_InvalidHistory, kf_InvalidCommand, kf_UnknownPoint, kf_UnknownStep, kf_UnknownClaim, kf_NothingToUndo, kf_Contradictory, kf_DuplicateStep, kf_Mismatch, kf_Looping, kf_TooMany, kf_CaprunsError, kf_SearchError, kf_ConflictError, kf_LimitError, kf_ve, kf_le, kf_re, kf_ae]; first | done | exact ⟨rfl, rfl⟩ | simp) fun h1 q => ⟨rfl, q⟩) ?_
  rintro _ h13 ⟨rfl, hh13⟩
  refine es_cut (fun ρ1 h1 => ρ1 = [some (.exn "InvalidText" ["line"] [w]), some (.ref (b + e.length + 0)), some (.ref (b + e.length + 9)), some (.ref (b + e.length + 11)), none, none] ∧ HI (e ++ [.list [.bl false, .bl false, .bl false, .bl false, .bl false, .bl false, .bl false, .bl false, .bl false, .bl true, .bl false, .bl false, .bl false, .bl false, .bl false, .bl false, .bl false, .bl false, .bl false, .bl false, .bl false, .bl false, .bl false, .bl false, .bl false, .bl false, .bl false, .bl false], .list [.bl false, .bl false, .bl false], .list [.bl false, .bl false, .bl false], .list [.bl true, .bl false, .bl false], .list [.bl false, .bl false, .bl false], .list [.bl false, .bl false, .bl false], .list [.bl false, .bl false, .bl false], .list [.bl false, .bl false, .bl false], .list [.bl false, .bl false, .bl false], .list [.bl true, .bl false, .bl false, .bl false], .list [.bl false, .bl false], .list [.bl true, .bl false, .bl false, .bl false], .list [.bl false, .bl false]]) b h1) (ext_step (E' := [.list [.bl false, .bl false, .bl false, .bl false, .bl false, .bl false, .bl false, .bl false, .bl false, .bl true, .bl false, .bl false, .bl false, .bl false, .bl false, .bl false, .bl false, .bl false, .bl false, .bl false, .bl false, .bl false, .bl false, .bl false, .bl false, .bl false, .bl false, .bl false], .list [.bl false, .bl false, .bl false], .list [.bl false, .bl false, .bl false], .list [.bl true, .bl false, .bl false], .list [.bl false, .bl false, .bl false], .list [.bl false, .bl false, .bl false], .list [.bl false, .bl false, .bl false], .list [.bl false, .bl false, .bl false], .list [.bl false, .bl false, .bl false], .list [.bl true, .bl false, .bl false, .bl false], .list [.bl false, .bl false], .list [.bl true, .bl false]]) (own := [.bl true, .bl false]) (new := [.bl false, .bl false]) (k0 := 11) rfl rfl hh13 rfl (by decide) (fun h' => by simp only [en_bind, en_ok, en_bad, en_lift, en_var, en_c, en_bin, en_un, en_test, en_chain, en_andT, en_orT, en_notT, en_and, en_or, en_not, en_if, en_nil, en_cons, en_tup, en_list, en_pureL, en_newL, en_fn, en_call, en_callK, en_methS, en_oN, en_oS, en_sl, en_rng1, en_iter, en_lc, es_seq, es_skip, es_ret, es_retN, es_if, es_asg, es_par2, es_for, eg_name, eg_nil, eg_cons, eg_tup, eg_sub, es_drop, es_bad, es_try0, en_listOf, en_methO, es_setL1, es_setL0, en_set0, en_fmt, en_joinN, en_joinC, en_enum, en_sortS, en_split, en_rng2, vIxA_t, vIxA_l, vIxA_s, vLenA_s, vLenA_t, vLenA_l, vMulA_ii, vAdd_ii, vAdd_ss, vAdd_ll, vSub_ii, vMul_ii, vDiv_ii, vMod_ii, vLt_ii, vLe_ii, vGt_ii, vGe_ii, vEq_ii, vEq_ss, vNe_ii, vNe_ss, vIx_t, vIx_l, vIx_s, vIx_r, vLen_s, vLen_t, vLen_l, vLen_r, List.getElem?_cons_zero, List.getElem?_cons_succ, List.set_cons_zero, List.set_cons_succ, Option.some.injEq, AV.int.injEq, AV.bl.injEq, AV.str.injEq, AV.ref.injEq, AV.tup.injEq, AV.lst.injEq, AO.list.injEq, List.cons.injEq, exists_eq_left', exists_eq_left, exists_and_left, List.map_cons, List.map_nil, List.replicate, List.cons_append, List.nil_append, and_true, true_and, if_true, Nat.sub_self, ite_true, List.length_cons, List.length_nil, Nat.zero_add, Nat.reduceAdd, Nat.reduceSub, List.length_set, kf_InvalidClaim, kf_InvalidClaims, kf_InvalidVariables, kf_InvalidFixed, kf_InvalidCap, kf_InvalidIndex, kf_InvalidPoints, kf_InvalidSteps, kf_InvalidProgram, kf_InvalidText, kf_InvalidState, kf_InvalidWalk, kf_InvalidSummary, kf_InvalidTimes, kf_InvalidCondition, kf_InvalidEdit, kf_InvalidEdits, kf_InvalidHistory, kf_InvalidCommand, kf_UnknownPoint, kf_UnknownStep, kf_UnknownClaim, kf_NothingToUndo, kf_Contradictory, kf_DuplicateStep, kf_Mismatch, kf_Looping, kf_TooMany, kf_CaprunsError, kf_SearchError, kf_ConflictError, kf_LimitError, kf_ve, kf_le, kf_re, kf_ae]; first | done | exact ⟨rfl, rfl⟩ | simp) fun h1 q => ⟨rfl, q⟩) ?_
  rintro _ h14 ⟨rfl, hh14⟩
  have own1 : opCount h14 [.bl true] (.list [.bl false, .bl false, .bl false, .bl false, .bl false, .bl false, .bl false, .bl false, .bl false, .bl true, .bl false, .bl false, .bl false, .bl false, .bl false, .bl false, .bl false, .bl false, .bl false, .bl false, .bl false, .bl false, .bl false, .bl false, .bl false, .bl false, .bl false, .bl false]) = some (.int 1, .list [.bl false, .bl false, .bl false, .bl false, .bl false, .bl false, .bl false, .bl false, .bl false, .bl true, .bl false, .bl false, .bl false, .bl false, .bl false, .bl false, .bl false, .bl false, .bl false, .bl false, .bl false, .bl false, .bl false, .bl false, .bl false, .bl false, .bl false, .bl false]) := by kernel_rfl
  have own2 : ∀ h, opIndex h [.bl true] (.list [.bl false, .bl false, .bl false, .bl false, .bl false, .bl false, .bl false, .bl false, .bl false, .bl true, .bl false, .bl false, .bl false, .bl false, .bl false, .bl false, .bl false, .bl false, .bl false, .bl false, .bl false, .bl false, .bl false, .bl false, .bl false, .bl false, .bl false, .bl false]) = some (.int 9, .list [.bl false, .bl false, .bl false, .bl false, .bl false, .bl false, .bl false, .bl false, .bl false, .bl true, .bl false, .bl false, .bl false, .bl false, .bl false, .bl false, .bl false, .bl false, .bl false, .bl false, .bl false, .bl false, .bl false, .bl false, .bl false, .bl false, .bl false, .bl false]) := fun h => by kernel_rfl
  have same := set_k (k := 0) (u := .list [.bl false, .bl false, .bl false, .bl false, .bl false, .bl false, .bl false, .bl false, .bl false, .bl true, .bl false, .bl false, .bl false, .bl false, .bl false, .bl false, .bl false, .bl false, .bl false, .bl false, .bl false, .bl false, .bl false, .bl false, .bl false, .bl false, .bl false, .bl false]) hh14 rfl
  refine es_cut (fun ρ1 h1 => ρ1 = [some (.exn "InvalidText" ["line"] [w]), some (.ref (b + e.length + 0)), some (.ref (b + e.length + 9)), some (.ref (b + e.length + 11)), none, none] ∧ HI (e ++ [.list [.bl false, .bl false, .bl false, .bl false, .bl false, .bl false, .bl false, .bl false, .bl false, .bl true, .bl false, .bl false, .bl false, .bl false, .bl false, .bl false, .bl false, .bl false, .bl false, .bl false, .bl false, .bl false, .bl false, .bl false, .bl false, .bl false, .bl false, .bl false], .list [.bl false, .bl false, .bl false], .list [.bl false, .bl false, .bl false], .list [.bl true, .bl false, .bl false], .list [.bl false, .bl false, .bl false], .list [.bl false, .bl false, .bl false], .list [.bl false, .bl false, .bl false], .list [.bl false, .bl false, .bl false], .list [.bl false, .bl false, .bl false], .list [.bl true, .bl false, .bl false, .bl false], .list [.bl false, .bl false], .list [.bl true, .bl false, .bl false, .bl false], .list [.bl false, .bl false]]) b h1) ?_ ?_
  · simp only [en_bind, en_ok, en_bad, en_lift, en_var, en_c, en_bin, en_un, en_test, en_chain, en_andT, en_orT, en_notT, en_and, en_or, en_not, en_if, en_nil, en_cons, en_tup, en_list, en_pureL, en_newL, en_fn, en_call, en_callK, en_methS, en_oN, en_oS, en_sl, en_rng1, en_iter, en_lc, es_seq, es_skip, es_ret, es_retN, es_if, es_asg, es_par2, es_for, eg_name, eg_nil, eg_cons, eg_tup, eg_sub, es_drop, es_bad, es_try0, en_listOf, en_methO, es_setL1, es_setL0, en_set0, en_fmt, en_joinN, en_joinC, en_enum, en_sortS, en_split, en_rng2, vIxA_t, vIxA_l, vIxA_s, vLenA_s, vLenA_t, vLenA_l, vMulA_ii, vAdd_ii, vAdd_ss, vAdd_ll, vSub_ii, vMul_ii, vDiv_ii, vMod_ii, vLt_ii, vLe_ii, vGt_ii, vGe_ii, vEq_ii, vEq_ss, vNe_ii, vNe_ss, vIx_t, vIx_l, vIx_s, vIx_r, vLen_s, vLen_t, vLen_l, vLen_r, List.getElem?_cons_zero, List.getElem?_cons_succ, List.set_cons_zero, List.set_cons_succ, Option.some.injEq, AV.int.injEq, AV.bl.injEq, AV.str.injEq, AV.ref.injEq, AV.tup.injEq, AV.lst.injEq, AO.list.injEq, List.cons.injEq, exists_eq_left', exists_eq_left, exists_and_left, List.map_cons, List.map_nil, List.replicate, List.cons_append, List.nil_append, and_true, true_and, if_true, Nat.sub_self, ite_true, List.length_cons, List.length_nil, Nat.zero_add, Nat.reduceAdd, Nat.reduceSub, List.length_set]
    refine ⟨_, at_k hh14 rfl, rfl, _, at_k hh14 rfl, _, _, own1, _, vNe_ii, _, rfl, ?_⟩
    rw [if_neg (by simp)]
    refine ⟨_, ne_rr (at_k same rfl) (at_k same rfl) (by kernel_rfl : _ = some (.bl false)), _, rfl, ?_⟩
    rw [if_neg (by simp)]
    first | exact same | exact ⟨rfl, same⟩
  rintro _ h15 ⟨rfl, hh15⟩
  have same2 := set_k (k := 0) (u := .list [.bl false, .bl false, .bl false, .bl false, .bl false, .bl false, .bl false, .bl false, .bl false, .bl true, .bl false, .bl false, .bl false, .bl false, .bl false, .bl false, .bl false, .bl false, .bl false, .bl false, .bl false, .bl false, .bl false, .bl false, .bl false, .bl false, .bl false, .bl false]) hh15 rfl
  refine es_cut (fun ρ1 h1 => ρ1 = [some (.exn "InvalidText" ["line"] [w]), some (.ref (b + e.length + 0)), some (.ref (b + e.length + 9)), some (.ref (b + e.length + 11)), some (.int 9), none] ∧ HI (e ++ [.list [.bl false, .bl false, .bl false, .bl false, .bl false, .bl false, .bl false, .bl false, .bl false, .bl true, .bl false, .bl false, .bl false, .bl false, .bl false, .bl false, .bl false, .bl false, .bl false, .bl false, .bl false, .bl false, .bl false, .bl false, .bl false, .bl false, .bl false, .bl false], .list [.bl false, .bl false, .bl false], .list [.bl false, .bl false, .bl false], .list [.bl true, .bl false, .bl false], .list [.bl false, .bl false, .bl false], .list [.bl false, .bl false, .bl false], .list [.bl false, .bl false, .bl false], .list [.bl false, .bl false, .bl false], .list [.bl false, .bl false, .bl false], .list [.bl true, .bl false, .bl false, .bl false], .list [.bl false, .bl false], .list [.bl true, .bl false, .bl false, .bl false], .list [.bl false, .bl false]]) b h1) ?_ ?_
  · simp only [en_bind, en_ok, en_bad, en_lift, en_var, en_c, en_bin, en_un, en_test, en_chain, en_andT, en_orT, en_notT, en_and, en_or, en_not, en_if, en_nil, en_cons, en_tup, en_list, en_pureL, en_newL, en_fn, en_call, en_callK, en_methS, en_oN, en_oS, en_sl, en_rng1, en_iter, en_lc, es_seq, es_skip, es_ret, es_retN, es_if, es_asg, es_par2, es_for, eg_name, eg_nil, eg_cons, eg_tup, eg_sub, es_drop, es_bad, es_try0, en_listOf, en_methO, es_setL1, es_setL0, en_set0, en_fmt, en_joinN, en_joinC, en_enum, en_sortS, en_split, en_rng2, vIxA_t, vIxA_l, vIxA_s, vLenA_s, vLenA_t, vLenA_l, vMulA_ii, vAdd_ii, vAdd_ss, vAdd_ll, vSub_ii, vMul_ii, vDiv_ii, vMod_ii, vLt_ii, vLe_ii, vGt_ii, vGe_ii, vEq_ii, vEq_ss, vNe_ii, vNe_ss, vIx_t, vIx_l, vIx_s, vIx_r, vLen_s, vLen_t, vLen_l, vLen_r, List.getElem?_cons_zero, List.getElem?_cons_succ, List.set_cons_zero, List.set_cons_succ, Option.some.injEq, AV.int.injEq, AV.bl.injEq, AV.str.injEq, AV.ref.injEq, AV.tup.injEq, AV.lst.injEq, AO.list.injEq, List.cons.injEq, exists_eq_left', exists_eq_left, exists_and_left, List.map_cons, List.map_nil, List.replicate, List.cons_append, List.nil_append, and_true, true_and, if_true, Nat.sub_self, ite_true, List.length_cons, List.length_nil, Nat.zero_add, Nat.reduceAdd, Nat.reduceSub, List.length_set]
    refine ⟨_, at_k hh15 rfl, rfl, _, at_k hh15 rfl, _, _, own2 _, ?_⟩
    first | exact same2 | exact ⟨rfl, same2⟩
  rintro _ h16 ⟨rfl, hh16⟩
  refine es_cut (fun ρ1 h1 => ρ1 = [some (.exn "InvalidText" ["line"] [w]), some (.ref (b + e.length + 0)), some (.ref (b + e.length + 9)), some (.ref (b + e.length + 11)), some (.int 9), none] ∧ HI (e ++ [.list [.bl false, .bl false, .bl false, .bl false, .bl false, .bl false, .bl false, .bl false, .bl false, .bl true, .bl false, .bl false, .bl false, .bl false, .bl false, .bl false, .bl false, .bl false, .bl false, .bl false, .bl false, .bl false, .bl false, .bl false, .bl false, .bl false, .bl false, .bl false], .list [.bl false, .bl false, .bl false], .list [.bl false, .bl false, .bl false], .list [.bl true, .bl false, .bl false], .list [.bl false, .bl false, .bl false], .list [.bl false, .bl false, .bl false], .list [.bl false, .bl false, .bl false], .list [.bl false, .bl false, .bl false], .list [.bl false, .bl false, .bl false], .list [.bl true, .bl false, .bl false, .bl false], .list [.bl false, .bl false], .list [.bl true, .bl false, .bl false, .bl false], .list [.bl false, .bl false]]) b h1) ?_ ?_
  · simp only [en_bind, en_ok, en_bad, en_lift, en_var, en_c, en_bin, en_un, en_test, en_chain, en_andT, en_orT, en_notT, en_and, en_or, en_not, en_if, en_nil, en_cons, en_tup, en_list, en_pureL, en_newL, en_fn, en_call, en_callK, en_methS, en_oN, en_oS, en_sl, en_rng1, en_iter, en_lc, es_seq, es_skip, es_ret, es_retN, es_if, es_asg, es_par2, es_for, eg_name, eg_nil, eg_cons, eg_tup, eg_sub, es_drop, es_bad, es_try0, en_listOf, en_methO, es_setL1, es_setL0, en_set0, en_fmt, en_joinN, en_joinC, en_enum, en_sortS, en_split, en_rng2, vIxA_t, vIxA_l, vIxA_s, vLenA_s, vLenA_t, vLenA_l, vMulA_ii, vAdd_ii, vAdd_ss, vAdd_ll, vSub_ii, vMul_ii, vDiv_ii, vMod_ii, vLt_ii, vLe_ii, vGt_ii, vGe_ii, vEq_ii, vEq_ss, vNe_ii, vNe_ss, vIx_t, vIx_l, vIx_s, vIx_r, vLen_s, vLen_t, vLen_l, vLen_r, List.getElem?_cons_zero, List.getElem?_cons_succ, List.set_cons_zero, List.set_cons_succ, Option.some.injEq, AV.int.injEq, AV.bl.injEq, AV.str.injEq, AV.ref.injEq, AV.tup.injEq, AV.lst.injEq, AO.list.injEq, List.cons.injEq, exists_eq_left', exists_eq_left, exists_and_left, List.map_cons, List.map_nil, List.replicate, List.cons_append, List.nil_append, and_true, true_and, if_true, Nat.sub_self, ite_true, List.length_cons, List.length_nil, Nat.zero_add, Nat.reduceAdd, Nat.reduceSub, List.length_set]
    rw [if_neg (by decide), if_neg (by decide)]
    refine ⟨rfl, _, ne_rl (at_k hh16 rfl) (by kernel_rfl : _ = some (.bl false)), _, rfl, ?_⟩
    rw [if_neg (by simp)]
    first | exact hh16 | exact ⟨rfl, hh16⟩
  rintro _ h17 ⟨rfl, hh17⟩
  exact es_rtK (v := .str [73, 110, 118, 97, 108, 105, 100, 84, 101, 120, 116]) (h' := h17) (by kernel_rfl) ⟨_, _, hh17, .pure rfl, fun h2 k2 => ⟨rfl, k2⟩⟩
end
end AIL
namespace AIL
open PySem PySem.Spec PyProof.Rows L2 AI
section
variable {e : AHeap} {b : Nat}
def ITs : List Nat := [73, 110, 118, 97, 108, 105, 100, 84, 101, 120, 116]
def reprOf (v : AV) : List Nat := match vRepr [] [v] with
  | some (.str r) => r
  | _ => []
theorem reprOf_ok {v : AV} (h : ∃ r, ∀ h, vRepr h [v] = some (.str r)) : ∀ h, vRepr h [v] = some (.str (reprOf v)) := by
  obtain ⟨r, hr⟩ := h
  have e1 : reprOf v = r := by unfold reprOf; rw [hr []]
  rw [e1]; exact hr
def dueN : List Nat := reprOf (.tup [.str ITs, .int 0])
theorem dueN_ok : ∀ h, vRepr h [.tup [.str ITs, .int 0]] = some (.str dueN) := fun h => by kernel_rfl
/-- what is due for a text -/
def due (s : List Nat) : List Nat := if good (rowsT s) = true then reprOf (.tup ((rowsT s).map rv)) else dueN
theorem vr_ch {s : List Nat} (h : vr (.str s) = true) : s.length ≤ 7 ∧ ∀ c ∈ s, c < 128 := by
  have h : nmS (if endQ s = true then cutE s else s) = true := h
  by_cases he : endQ s = true
  · rw [if_pos he] at h
    obtain ⟨_, h2, h3⟩ := nm_len h
    have es : s = cutE s ++ [39] := by
      unfold endQ at he
      have he := of_decide_eq_true he
      rcases List.eq_nil_or_concat s with rfl | ⟨t, c, rfl⟩
      · cases he
      · rw [List.concat_eq_append] at he ⊢
        have z1 : AI.cutL (t ++ [c]) (some (-1)) none = [c] := by
          unfold AI.cutL HT.sIx
          have z : ((-1 : Int) + ((t ++ [c]).length : Int)).toNat = t.length := by simp; omega
          simp only [show ((-1 : Int) < 0) = True by simp, if_true, z]
          simp
        rw [z1] at he
        have z2 : cutE (t ++ [c]) = t := by
          unfold cutE AI.cutL HT.sIx
          have z : ((-1 : Int) + ((t ++ [c]).length : Int)).toNat = t.length := by simp; omega
          simp only [show ((-1 : Int) < 0) = True by simp, if_true, z]
          simp
        rw [z2]
        simpa using he
    rw [es]
    refine ⟨by rw [List.length_append]; simp; omega, fun c hc => ?_⟩
    rcases List.mem_append.mp hc with z | z
    · have := abc_lt (h3 c z); omega
    · rw [List.mem_singleton.mp z]; omega
  · rw [if_neg he] at h
    obtain ⟨_, h2, h3⟩ := nm_len h
    exact ⟨by omega, fun c hc => by have := abc_lt (h3 c hc); omega⟩
theorem op_ch {s : List Nat} (h : opS (.str s) = true) : s.length ≤ 2 ∧ ∀ c ∈ s, c < 128 := by
  have h : inV (.str (sOf s)) [.str (sOf [60]), .str (sOf [60, 61]), .str (sOf [61])] = true := h
  have : s = [60] ∨ s = [60, 61] ∨ s = [61] := by
    have h2 : [60] = s ∨ [60, 61] = s ∨ [61] = s := by simpa [inV, eqV] using h
    rcases h2 with z | z | z
    · exact .inl z.symm
    · exact .inr (.inl z.symm)
    · exact .inr (.inr z.symm)
  rcases this with rfl | rfl | rfl <;> exact ⟨by decide, by decide⟩
theorem good_rep {R : List Row} (g : good R = true) : ∃ r, ∀ h, vRepr h [.tup (R.map rv)] = some (.str r) := by
  unfold good at g
  simp only [Bool.and_eq_true, decide_eq_true_eq, List.all_eq_true] at g
  obtain ⟨hl, hcl, _⟩ := g
  refine (RpW.tup (w := 24) (k := 1) (n := 2500) (fun x hx => ?_) (by rw [List.length_map]; omega)).repr (by decide) (by decide)
  obtain ⟨r, hr, rfl⟩ := List.mem_map.mp hx
  obtain ⟨a, o, c, rfl, v1, v2, v3⟩ := cl_three (hcl r hr)
  refine RpW.tup (w := 7) (k := 0) (fun y hy => ?_) (by simp)
  simp only [List.map_cons, List.map_nil, List.mem_cons, List.not_mem_nil, or_false] at hy
  rcases hy with rfl | rfl | rfl
  · exact .str (vr_ch v1).1 (vr_ch v1).2
  · exact .str (by have := (op_ch v3).1; omega) (op_ch v3).2
  · exact .str (vr_ch v2).1 (vr_ch v2).2
theorem hit_it : hitL exT ["CaprunsError", "SearchError", "ConflictError", "LimitError"] "InvalidText" = some true := by kernel_rfl
theorem line_it {h : AHeap} {w : AV} : vAttr exT "line" h (.exn "InvalidText" ["line"] [w]) = some w := by kernel_rfl
theorem told_s {h : AHeap} {s : List Nat} {n : Bool} (hh : HI e b h) (hc : e.all (AO.closed 0) = true) (hx : e.all AO.noX = true) (hs : s.length ≤ 4000) :
    Ens (m__law_told [.str s, .bl n] h) fun v h' => v = .str (due s) ∧ HI e b h' := by
  refine (xn_defH (E := fun _ _ => False) rfl hc hh ?_).ens
  rw [xs_tryA]
  have ok1 : ∀ (v : AV) (h1 : AHeap), v = .tup ((rowsT s).map rv) ∧ good (rowsT s) = true ∧ HI e b h1 → ∃ r, vRepr h1 [v] = some r ∧ ∃ e', HI (e ++ e') b h1 ∧ ∃ w, Sees h1 h.length r w ∧ ∀ h2, HI e b h2 → w = .str (due s) ∧ HI e b h2 := by
    rintro v h1 ⟨rfl, g, k⟩
    exact ⟨_, reprOf_ok (good_rep g) h1, [], by simpa using k, _, .pure rfl, fun h2 k2 => ⟨by unfold due; rw [if_pos g], k2⟩⟩
  cases n with
  | false =>
    simp only [xn_bind, xn_ok, xn_bad, xn_lift, xn_var, xn_c, xn_bin, xn_un, xn_test, xn_chain, xn_andT, xn_orT, xn_notT, xn_and, xn_or, xn_not, xn_if, xn_nil, xn_cons, xn_tup, xn_list, xn_pureL, xn_newL, xn_fn, xn_call, xn_callK, xn_methS, xn_oN, xn_oS, xn_sl, xn_rng1, xn_iter, xn_lc, xs_seq, xs_skip, xs_ret, xs_retN, xs_if, xs_asg, xs_par2, xs_for, eg_name, eg_nil, eg_cons, eg_tup, eg_sub, xs_drop, xs_bad, xn_listOf, xn_methO, xs_setL1, xs_setL0, xn_set0, xn_fmt, xn_joinN, xn_joinC, xn_enum, xn_sortS, xn_split, xn_rng2, xs_outX, xs_unI, es_drop, es_bad, es_try0, en_listOf, en_methO, es_setL1, es_setL0, en_set0, en_fmt, en_joinN, en_joinC, en_enum, en_sortS, en_split, en_rng2, vIxA_t, vIxA_l, vIxA_s, vLenA_s, vLenA_t, vLenA_l, vMulA_ii, vAdd_ii, vAdd_ss, vAdd_ll, vSub_ii, vMul_ii, vDiv_ii, vMod_ii, vLt_ii, vLe_ii, vGt_ii, vGe_ii, vEq_ii, vEq_ss, vNe_ii, vNe_ss, vIx_t, vIx_l, vIx_s, vIx_r, vLen_s, vLen_t, vLen_l, vLen_r, List.getElem?_cons_zero, List.getElem?_cons_succ, List.set_cons_zero, List.set_cons_succ, Option.some.injEq, AV.int.injEq, AV.bl.injEq, AV.str.injEq, AV.ref.injEq, AV.tup.injEq, AV.lst.injEq, AO.list.injEq, List.cons.injEq, exists_eq_left', exists_eq_left, exists_and_left, List.map_cons, List.map_nil, List.replicate, List.cons_append, List.nil_append, and_true, true_and, if_true, Nat.sub_self, ite_true, List.length_cons, List.length_nil, Nat.zero_add, Nat.reduceAdd, Nat.reduceSub, List.length_set]
    rw [if_neg (by simp)]
    refine (xparse hh hc hx hs).monoX ok1 ?_
    rintro x h1 ⟨rfl, g, k⟩
    refine ⟨true, hit_it, ?_⟩
    rw [if_pos rfl]
    refine (kind_InvalidText k hc).x.mono ?_
    rintro v h2 ⟨rfl, k2⟩
    refine ⟨_, vEq_ss, _, rfl, ?_⟩
    rw [if_pos (by simp)]
    exact ⟨_, line_it, rfl, _, dueN_ok h2, by rw [purses_noX k2 hx]; rfl, [], by simpa using k2, _, .pure rfl, fun h3 k3 => ⟨by unfold due; rw [if_neg (by rw [g]; simp)], k3⟩⟩
  | true =>
    simp only [xn_bind, xn_ok, xn_bad, xn_lift, xn_var, xn_c, xn_bin, xn_un, xn_test, xn_chain, xn_andT, xn_orT, xn_notT, xn_and, xn_or, xn_not, xn_if, xn_nil, xn_cons, xn_tup, xn_list, xn_pureL, xn_newL, xn_fn, xn_call, xn_callK, xn_methS, xn_oN, xn_oS, xn_sl, xn_rng1, xn_iter, xn_lc, xs_seq, xs_skip, xs_ret, xs_retN, xs_if, xs_asg, xs_par2, xs_for, eg_name, eg_nil, eg_cons, eg_tup, eg_sub, xs_drop, xs_bad, xn_listOf, xn_methO, xs_setL1, xs_setL0, xn_set0, xn_fmt, xn_joinN, xn_joinC, xn_enum, xn_sortS, xn_split, xn_rng2, xs_outX, xs_unI, es_drop, es_bad, es_try0, en_listOf, en_methO, es_setL1, es_setL0, en_set0, en_fmt, en_joinN, en_joinC, en_enum, en_sortS, en_split, en_rng2, vIxA_t, vIxA_l, vIxA_s, vLenA_s, vLenA_t, vLenA_l, vMulA_ii, vAdd_ii, vAdd_ss, vAdd_ll, vSub_ii, vMul_ii, vDiv_ii, vMod_ii, vLt_ii, vLe_ii, vGt_ii, vGe_ii, vEq_ii, vEq_ss, vNe_ii, vNe_ss, vIx_t, vIx_l, vIx_s, vIx_r, vLen_s, vLen_t, vLen_l, vLen_r, List.getElem?_cons_zero, List.getElem?_cons_succ, List.set_cons_zero, List.set_cons_succ, Option.some.injEq, AV.int.injEq, AV.bl.injEq, AV.str.injEq, AV.ref.injEq, AV.tup.injEq, AV.lst.injEq, AO.list.injEq, List.cons.injEq, exists_eq_left', exists_eq_left, exists_and_left, List.map_cons, List.map_nil, List.replicate, List.cons_append, List.nil_append, and_true, true_and, if_true, Nat.sub_self, ite_true, List.length_cons, List.length_nil, Nat.zero_add, Nat.reduceAdd, Nat.reduceSub, List.length_set]
    refine (xparse hh hc hx hs).monoX ok1 ?_
    rintro x h1 ⟨rfl, g, k⟩
    refine ⟨true, hit_it, ?_⟩
    rw [if_pos rfl]
    refine (kind_InvalidText k hc).x.mono ?_
    rintro v h2 ⟨rfl, k2⟩
    refine ⟨_, vEq_ss, _, rfl, ?_⟩
    rw [if_pos (by simp)]
    exact ⟨_, line_it, rfl, _, dueN_ok h2, by rw [purses_noX k2 hx]; rfl, [], by simpa using k2, _, .pure rfl, fun h3 k3 => ⟨by unfold due; rw [if_neg (by rw [g]; simp)], k3⟩⟩
theorem told_0 {h : AHeap} {v0 : AV} {n : Bool} (hh : HI e b h) (hc : e.all (AO.closed 0) = true) (hx : e.all AO.noX = true) (at_ : Atm v0) (ht : tg v0 ≠ .str) :
    Ens (m__law_told [v0, .bl n] h) fun v h' => v = .str dueN ∧ HI e b h' := by
  refine (xn_defH (E := fun _ _ => False) rfl hc hh ?_).ens
  rw [xs_tryA]
  cases n with
  | false =>
    simp only [xn_bind, xn_ok, xn_bad, xn_lift, xn_var, xn_c, xn_bin, xn_un, xn_test, xn_chain, xn_andT, xn_orT, xn_notT, xn_and, xn_or, xn_not, xn_if, xn_nil, xn_cons, xn_tup, xn_list, xn_pureL, xn_newL, xn_fn, xn_call, xn_callK, xn_methS, xn_oN, xn_oS, xn_sl, xn_rng1, xn_iter, xn_lc, xs_seq, xs_skip, xs_ret, xs_retN, xs_if, xs_asg, xs_par2, xs_for, eg_name, eg_nil, eg_cons, eg_tup, eg_sub, xs_drop, xs_bad, xn_listOf, xn_methO, xs_setL1, xs_setL0, xn_set0, xn_fmt, xn_joinN, xn_joinC, xn_enum, xn_sortS, xn_split, xn_rng2, xs_outX, xs_unI, es_drop, es_bad, es_try0, en_listOf, en_methO, es_setL1, es_setL0, en_set0, en_fmt, en_joinN, en_joinC, en_enum, en_sortS, en_split, en_rng2, vIxA_t, vIxA_l, vIxA_s, vLenA_s, vLenA_t, vLenA_l, vMulA_ii, vAdd_ii, vAdd_ss, vAdd_ll, vSub_ii, vMul_ii, vDiv_ii, vMod_ii, vLt_ii, vLe_ii, vGt_ii, vGe_ii, vEq_ii, vEq_ss, vNe_ii, vNe_ss, vIx_t, vIx_l, vIx_s, vIx_r, vLen_s, vLen_t, vLen_l, vLen_r, List.getElem?_cons_zero, List.getElem?_cons_succ, List.set_cons_zero, List.set_cons_succ, Option.some.injEq, AV.int.injEq, AV.bl.injEq, AV.str.injEq, AV.ref.injEq, AV.tup.injEq, AV.lst.injEq, AO.list.injEq, List.cons.injEq, exists_eq_left', exists_eq_left, exists_and_left, List.map_cons, List.map_nil, List.replicate, List.cons_append, List.nil_append, and_true, true_and, if_true, Nat.sub_self, ite_true, List.length_cons, List.length_nil, Nat.zero_add, Nat.reduceAdd, Nat.reduceSub, List.length_set]
    rw [if_neg (by simp)]
    refine (xparse0 hh hc at_ ht).monoX (fun _ _ z => z.elim) ?_
    rintro x h1 ⟨rfl, g, k⟩
    refine ⟨true, hit_it, ?_⟩
    rw [if_pos rfl]
    refine (kind_InvalidText k hc).x.mono ?_
    rintro v h2 ⟨rfl, k2⟩
    refine ⟨_, vEq_ss, _, rfl, ?_⟩
    rw [if_pos (by simp)]
    exact ⟨_, line_it, rfl, _, dueN_ok h2, by rw [purses_noX k2 hx]; rfl, [], by simpa using k2, _, .pure rfl, fun h3 k3 => ⟨rfl, k3⟩⟩
  | true =>
    simp only [xn_bind, xn_ok, xn_bad, xn_lift, xn_var, xn_c, xn_bin, xn_un, xn_test, xn_chain, xn_andT, xn_orT, xn_notT, xn_and, xn_or, xn_not, xn_if, xn_nil, xn_cons, xn_tup, xn_list, xn_pureL, xn_newL, xn_fn, xn_call, xn_callK, xn_methS, xn_oN, xn_oS, xn_sl, xn_rng1, xn_iter, xn_lc, xs_seq, xs_skip, xs_ret, xs_retN, xs_if, xs_asg, xs_par2, xs_for, eg_name, eg_nil, eg_cons, eg_tup, eg_sub, xs_drop, xs_bad, xn_listOf, xn_methO, xs_setL1, xs_setL0, xn_set0, xn_fmt, xn_joinN, xn_joinC, xn_enum, xn_sortS, xn_split, xn_rng2, xs_outX, xs_unI, es_drop, es_bad, es_try0, en_listOf, en_methO, es_setL1, es_setL0, en_set0, en_fmt, en_joinN, en_joinC, en_enum, en_sortS, en_split, en_rng2, vIxA_t, vIxA_l, vIxA_s, vLenA_s, vLenA_t, vLenA_l, vMulA_ii, vAdd_ii, vAdd_ss, vAdd_ll, vSub_ii, vMul_ii, vDiv_ii, vMod_ii, vLt_ii, vLe_ii, vGt_ii, vGe_ii, vEq_ii, vEq_ss, vNe_ii, vNe_ss, vIx_t, vIx_l, vIx_s, vIx_r, vLen_s, vLen_t, vLen_l, vLen_r, List.getElem?_cons_zero, List.getElem?_cons_succ, List.set_cons_zero, List.set_cons_succ, Option.some.injEq, AV.int.injEq, AV.bl.injEq, AV.str.injEq, AV.ref.injEq, AV.tup.injEq, AV.lst.injEq, AO.list.injEq, List.cons.injEq, exists_eq_left', exists_eq_left, exists_and_left, List.map_cons, List.map_nil, List.replicate, List.cons_append, List.nil_append, and_true, true_and, if_true, Nat.sub_self, ite_true, List.length_cons, List.length_nil, Nat.zero_add, Nat.reduceAdd, Nat.reduceSub, List.length_set]
    refine (xparse0 hh hc at_ ht).monoX (fun _ _ z => z.elim) ?_
    rintro x h1 ⟨rfl, g, k⟩
    refine ⟨true, hit_it, ?_⟩
    rw [if_pos rfl]
    refine (kind_InvalidText k hc).x.mono ?_
    rintro v h2 ⟨rfl, k2⟩
    refine ⟨_, vEq_ss, _, rfl, ?_⟩
    rw [if_pos (by simp)]
    exact ⟨_, line_it, rfl, _, dueN_ok h2, by rw [purses_noX k2 hx]; rfl, [], by simpa using k2, _, .pure rfl, fun h3 k3 => ⟨rfl, k3⟩⟩
end
end AIL
namespace AIL
open PySem PySem.Spec PyProof.Rows L2 AI
/-! ### the law's own reading -/
theorem lname1 {h : AHeap} {v : AV} (a : Atm v) : m__law_is_name [v] h = .ok (.bl (nm v)) h := by
  refine Ens.eq (en_def rfl ?_)
  have no : tg v ≠ .str → nm v = false := fun z => by cases v <;> first | rfl | exact absurd rfl z
  simp only [en_bind, en_ok, en_bad, en_lift, en_var, en_c, en_bin, en_un, en_test, en_chain, en_andT, en_orT, en_notT, en_and, en_or, en_not, en_if, en_nil, en_cons, en_tup, en_list, en_pureL, en_newL, en_fn, en_call, en_callK, en_methS, en_oN, en_oS, en_sl, en_rng1, en_iter, en_lc, es_seq, es_skip, es_ret, es_retN, es_if, es_asg, es_par2, es_for, eg_name, eg_nil, eg_cons, eg_tup, eg_sub, vAdd_ii, vAdd_ss, vAdd_ll, vSub_ii, vMul_ii, vDiv_ii, vMod_ii, vLt_ii, vLe_ii, vGt_ii, vGe_ii, vEq_ii, vEq_ss, vNe_ii, vNe_ss, vIx_t, vIx_l, vIx_s, vIx_r, vLen_s, vLen_t, vLen_l, vLen_r, es_drop, es_bad, es_try0, en_listOf, en_methO, es_setL1, es_setL0, en_set0, en_fmt, en_joinN, en_joinC, en_enum, en_sortS, en_split, en_rng2, vIxA_t, vIxA_l, vIxA_s, vLenA_s, vLenA_t, vLenA_l, vMulA_ii, List.getElem?_cons_zero, List.getElem?_cons_succ, List.set_cons_zero, List.set_cons_succ, Option.some.injEq, AV.int.injEq, AV.bl.injEq, AV.str.injEq, AV.ref.injEq, AV.tup.injEq, AV.lst.injEq, AO.list.injEq, List.cons.injEq, exists_eq_left', exists_eq_left, exists_and_left, List.map_cons, List.map_nil, List.replicate, List.cons_append, List.nil_append, and_true, true_and, if_true, Nat.sub_self, ite_true, List.length_cons, List.length_nil, Nat.zero_add, Nat.reduceAdd, Nat.reduceSub, List.length_set, isi a (t := .str) (by decide)]
  by_cases ht : tg v = .str
  · obtain ⟨s, rfl⟩ : ∃ s, v = .str s := by cases v <;> first | exact ⟨_, rfl⟩ | cases ht | cases a.1
    have hl := a.2 s rfl
    have b : isT (tg (.str s)) .str = true := rfl
    simp only [b, Bool.not_true, Bool.false_eq_true, if_false, if_true, List.getElem?_cons_zero, List.getElem?_cons_succ, List.set_cons_zero, List.set_cons_succ, Option.some.injEq, AV.int.injEq, AV.bl.injEq, AV.str.injEq, AV.ref.injEq, AV.tup.injEq, AV.lst.injEq, AO.list.injEq, List.cons.injEq, exists_eq_left', exists_eq_left, exists_and_left, List.map_cons, List.map_nil, List.replicate, List.cons_append, List.nil_append, and_true, true_and, if_true, Nat.sub_self, ite_true, List.length_cons, List.length_nil, Nat.zero_add, Nat.reduceAdd, Nat.reduceSub, List.length_set, vAdd_ii, vAdd_ss, vAdd_ll, vSub_ii, vMul_ii, vDiv_ii, vMod_ii, vLt_ii, vLe_ii, vGt_ii, vGe_ii, vEq_ii, vEq_ss, vNe_ii, vNe_ss, vIx_t, vIx_l, vIx_s, vIx_r, vLen_s, vLen_t, vLen_l, vLen_r, es_drop, es_bad, es_try0, en_listOf, en_methO, es_setL1, es_setL0, en_set0, en_fmt, en_joinN, en_joinC, en_enum, en_sortS, en_split, en_rng2, vIxA_t, vIxA_l, vIxA_s, vLenA_s, vLenA_t, vLenA_l, vMulA_ii, szK hl, itemsOf, szOk_map hl]
    by_cases h1 : (0 : Int) < s.length
    · simp only [decide_eq_true h1, if_true, List.getElem?_cons_zero, List.getElem?_cons_succ, List.set_cons_zero, List.set_cons_succ, Option.some.injEq, AV.int.injEq, AV.bl.injEq, AV.str.injEq, AV.ref.injEq, AV.tup.injEq, AV.lst.injEq, AO.list.injEq, List.cons.injEq, exists_eq_left', exists_eq_left, exists_and_left, List.map_cons, List.map_nil, List.replicate, List.cons_append, List.nil_append, and_true, true_and, if_true, Nat.sub_self, ite_true, List.length_cons, List.length_nil, Nat.zero_add, Nat.reduceAdd, Nat.reduceSub, List.length_set]
      by_cases h2 : (s.length : Int) < 7
      · simp only [decide_eq_true h2, Bool.not_true, Bool.false_eq_true, if_false, List.getElem?_cons_zero, List.getElem?_cons_succ, List.set_cons_zero, List.set_cons_succ, Option.some.injEq, AV.int.injEq, AV.bl.injEq, AV.str.injEq, AV.ref.injEq, AV.tup.injEq, AV.lst.injEq, AO.list.injEq, List.cons.injEq, exists_eq_left', exists_eq_left, exists_and_left, List.map_cons, List.map_nil, List.replicate, List.cons_append, List.nil_append, and_true, true_and, if_true, Nat.sub_self, ite_true, List.length_cons, List.length_nil, Nat.zero_add, Nat.reduceAdd, Nat.reduceSub, List.length_set]
        rw [abc_comp hl (fun c ρ1 e => by simp only [aBin, aVar, e, aC, Res.bind, in_abc, lift1]) rfl]
        rw [en_ok]
        refine ⟨_, all_abc s, Nat.le_refl _, ?_, rfl⟩
        show AV.bl (s.all fun c => decide (c ∈ ABC)) = AV.bl (nmS s)
        unfold nmS
        rw [decide_eq_true (show 1 ≤ s.length by omega), decide_eq_true (show s.length ≤ 6 by omega)]
        rfl
      · simp only [decide_eq_false h2, Bool.not_false, if_true, List.getElem?_cons_zero, List.getElem?_cons_succ, List.set_cons_zero, List.set_cons_succ, Option.some.injEq, AV.int.injEq, AV.bl.injEq, AV.str.injEq, AV.ref.injEq, AV.tup.injEq, AV.lst.injEq, AO.list.injEq, List.cons.injEq, exists_eq_left', exists_eq_left, exists_and_left, List.map_cons, List.map_nil, List.replicate, List.cons_append, List.nil_append, and_true, true_and, if_true, Nat.sub_self, ite_true, List.length_cons, List.length_nil, Nat.zero_add, Nat.reduceAdd, Nat.reduceSub, List.length_set]
        refine ⟨Nat.le_refl _, ?_⟩
        show false = nmS s
        unfold nmS
        rw [decide_eq_false (show ¬ s.length ≤ 6 by omega)]
        simp
    · simp only [decide_eq_false h1, Bool.false_eq_true, Bool.not_false, if_false, if_true, List.getElem?_cons_zero, List.getElem?_cons_succ, List.set_cons_zero, List.set_cons_succ, Option.some.injEq, AV.int.injEq, AV.bl.injEq, AV.str.injEq, AV.ref.injEq, AV.tup.injEq, AV.lst.injEq, AO.list.injEq, List.cons.injEq, exists_eq_left', exists_eq_left, exists_and_left, List.map_cons, List.map_nil, List.replicate, List.cons_append, List.nil_append, and_true, true_and, if_true, Nat.sub_self, ite_true, List.length_cons, List.length_nil, Nat.zero_add, Nat.reduceAdd, Nat.reduceSub, List.length_set]
      refine ⟨Nat.le_refl _, ?_⟩
      show false = nmS s
      unfold nmS
      rw [decide_eq_false (show ¬ 1 ≤ s.length by omega)]
      rfl
  · have b : isT (tg v) .str = false := by
      unfold isT
      rw [decide_eq_false ht]; simp
    simp only [b, Bool.not_false, Bool.false_eq_true, if_false, if_true, no ht, List.getElem?_cons_zero, List.getElem?_cons_succ, List.set_cons_zero, List.set_cons_succ, Option.some.injEq, AV.int.injEq, AV.bl.injEq, AV.str.injEq, AV.ref.injEq, AV.tup.injEq, AV.lst.injEq, AO.list.injEq, List.cons.injEq, exists_eq_left', exists_eq_left, exists_and_left, List.map_cons, List.map_nil, List.replicate, List.cons_append, List.nil_append, and_true, true_and, if_true, Nat.sub_self, ite_true, List.length_cons, List.length_nil, Nat.zero_add, Nat.reduceAdd, Nat.reduceSub, List.length_set]
    simp
theorem endQ_eq {s : List Nat} : decide (AI.cutL s (some (-1)) none = [39]) = endQ s := rfl
theorem lvar1 {h : AHeap} {v : AV} (a : Atm v) : m__law_is_variable [v] h = .ok (.bl (vr v)) h := by
  refine Ens.eq (en_def rfl ?_)
  have no : tg v ≠ .str → vr v = false := fun z => by cases v <;> first | rfl | exact absurd rfl z
  have vn : ∀ h, vNeg h (.int 1) = some (.int (-1)) := fun h => rfl
  simp only [en_bind, en_ok, en_bad, en_lift, en_var, en_c, en_bin, en_un, en_test, en_chain, en_andT, en_orT, en_notT, en_and, en_or, en_not, en_if, en_nil, en_cons, en_tup, en_list, en_pureL, en_newL, en_fn, en_call, en_callK, en_methS, en_oN, en_oS, en_sl, en_rng1, en_iter, en_lc, es_seq, es_skip, es_ret, es_retN, es_if, es_asg, es_par2, es_for, eg_name, eg_nil, eg_cons, eg_tup, eg_sub, vAdd_ii, vAdd_ss, vAdd_ll, vSub_ii, vMul_ii, vDiv_ii, vMod_ii, vLt_ii, vLe_ii, vGt_ii, vGe_ii, vEq_ii, vEq_ss, vNe_ii, vNe_ss, vIx_t, vIx_l, vIx_s, vIx_r, vLen_s, vLen_t, vLen_l, vLen_r, es_drop, es_bad, es_try0, en_listOf, en_methO, es_setL1, es_setL0, en_set0, en_fmt, en_joinN, en_joinC, en_enum, en_sortS, en_split, en_rng2, vIxA_t, vIxA_l, vIxA_s, vLenA_s, vLenA_t, vLenA_l, vMulA_ii, List.getElem?_cons_zero, List.getElem?_cons_succ, List.set_cons_zero, List.set_cons_succ, Option.some.injEq, AV.int.injEq, AV.bl.injEq, AV.str.injEq, AV.ref.injEq, AV.tup.injEq, AV.lst.injEq, AO.list.injEq, List.cons.injEq, exists_eq_left', exists_eq_left, exists_and_left, List.map_cons, List.map_nil, List.replicate, List.cons_append, List.nil_append, and_true, true_and, if_true, Nat.sub_self, ite_true, List.length_cons, List.length_nil, Nat.zero_add, Nat.reduceAdd, Nat.reduceSub, List.length_set, isi a (t := .str) (by decide), vn]
  by_cases ht : tg v = .str
  · obtain ⟨s, rfl⟩ : ∃ s, v = .str s := by cases v <;> first | exact ⟨_, rfl⟩ | cases ht | cases a.1
    have hl := a.2 s rfl
    have b : isT (tg (.str s)) .str = true := rfl
    simp only [b, if_true, List.getElem?_cons_zero, List.getElem?_cons_succ, List.set_cons_zero, List.set_cons_succ, Option.some.injEq, AV.int.injEq, AV.bl.injEq, AV.str.injEq, AV.ref.injEq, AV.tup.injEq, AV.lst.injEq, AO.list.injEq, List.cons.injEq, exists_eq_left', exists_eq_left, exists_and_left, List.map_cons, List.map_nil, List.replicate, List.cons_append, List.nil_append, and_true, true_and, if_true, Nat.sub_self, ite_true, List.length_cons, List.length_nil, Nat.zero_add, Nat.reduceAdd, Nat.reduceSub, List.length_set, vSl_s hl, vAdd_ii, vAdd_ss, vAdd_ll, vSub_ii, vMul_ii, vDiv_ii, vMod_ii, vLt_ii, vLe_ii, vGt_ii, vGe_ii, vEq_ii, vEq_ss, vNe_ii, vNe_ss, vIx_t, vIx_l, vIx_s, vIx_r, vLen_s, vLen_t, vLen_l, vLen_r, endQ_eq]
    have hc : (cutE s).length ≤ 10000 := Nat.le_trans (cutE_len s) hl
    by_cases he : endQ s = true
    · rw [if_pos he]
      show Ens (m__law_is_name [.str (cutE s)] h) _
      rw [lname1 (atm_str hc), en_ok]
      refine ⟨Nat.le_refl _, ?_, rfl⟩
      show AV.bl (nmS (cutE s)) = AV.bl (vrS s)
      unfold vrS; rw [if_pos he]
    · rw [if_neg he, lname1 (atm_str hl), en_ok]
      refine ⟨Nat.le_refl _, ?_, rfl⟩
      show AV.bl (nmS s) = AV.bl (vrS s)
      unfold vrS; rw [if_neg he]
  · have b : isT (tg v) .str = false := by
      unfold isT
      rw [decide_eq_false ht]; simp
    simp only [b, Bool.not_false, Bool.false_eq_true, if_false, if_true, no ht, List.getElem?_cons_zero, List.getElem?_cons_succ, List.set_cons_zero, List.set_cons_succ, Option.some.injEq, AV.int.injEq, AV.bl.injEq, AV.str.injEq, AV.ref.injEq, AV.tup.injEq, AV.lst.injEq, AO.list.injEq, List.cons.injEq, exists_eq_left', exists_eq_left, exists_and_left, List.map_cons, List.map_nil, List.replicate, List.cons_append, List.nil_append, and_true, true_and, if_true, Nat.sub_self, ite_true, List.length_cons, List.length_nil, Nat.zero_add, Nat.reduceAdd, Nat.reduceSub, List.length_set]
    simp
theorem lop_in {h : AHeap} {s : List Nat} : vNotInA h (.str s) (.lst [.str [60], .str [60, 61], .str [61]]) = some (.bl (!opS (.str s))) := rfl
theorem lclaim1 {h : AHeap} {r : Row} (sm : ∀ p ∈ r, p.length ≤ 5000) : m__law_is_claim [rv r] h = .ok (.bl (cl (rv r))) h := by
  refine Ens.eq (en_def rfl ?_)
  have a0 : Atm (rv r) := (rv_val sm).1
  have b0 : isT (tg (rv r)) .tup = true := rfl
  have ln : ∀ h, vLenA h [rv r] = some (.int r.length) := fun h => by
    show vLenA h [.tup (r.map AV.str)] = _
    rw [vLenA_t, List.length_map]
  simp only [en_bind, en_ok, en_bad, en_lift, en_var, en_c, en_bin, en_un, en_test, en_chain, en_andT, en_orT, en_notT, en_and, en_or, en_not, en_if, en_nil, en_cons, en_tup, en_list, en_pureL, en_newL, en_fn, en_call, en_callK, en_methS, en_oN, en_oS, en_sl, en_rng1, en_iter, en_lc, es_seq, es_skip, es_ret, es_retN, es_if, es_asg, es_par2, es_for, eg_name, eg_nil, eg_cons, eg_tup, eg_sub, vAdd_ii, vAdd_ss, vAdd_ll, vSub_ii, vMul_ii, vDiv_ii, vMod_ii, vLt_ii, vLe_ii, vGt_ii, vGe_ii, vEq_ii, vEq_ss, vNe_ii, vNe_ss, vIx_t, vIx_l, vIx_s, vIx_r, vLen_s, vLen_t, vLen_l, vLen_r, es_drop, es_bad, es_try0, en_listOf, en_methO, es_setL1, es_setL0, en_set0, en_fmt, en_joinN, en_joinC, en_enum, en_sortS, en_split, en_rng2, vIxA_t, vIxA_l, vIxA_s, vLenA_s, vLenA_t, vLenA_l, vMulA_ii, List.getElem?_cons_zero, List.getElem?_cons_succ, List.set_cons_zero, List.set_cons_succ, Option.some.injEq, AV.int.injEq, AV.bl.injEq, AV.str.injEq, AV.ref.injEq, AV.tup.injEq, AV.lst.injEq, AO.list.injEq, List.cons.injEq, exists_eq_left', exists_eq_left, exists_and_left, List.map_cons, List.map_nil, List.replicate, List.cons_append, List.nil_append, and_true, true_and, if_true, Nat.sub_self, ite_true, List.length_cons, List.length_nil, Nat.zero_add, Nat.reduceAdd, Nat.reduceSub, List.length_set, isi a0 (t := .tup) (by decide), b0, Bool.not_true, Bool.false_eq_true, if_false, ln]
  by_cases hl : r.length = 3
  · obtain ⟨x, y, z, rfl⟩ := cl_three.row3 hl
    have px := sm x (by simp)
    have py := sm y (by simp)
    have pz := sm z (by simp)
    have x0 : ∀ h9, vIxA h9 (rv [x, y, z]) (.int 0) = some (.str x) := fun h9 => by unfold rv; rw [vIxA_t]; rfl
    have x1 : ∀ h9, vIxA h9 (rv [x, y, z]) (.int 1) = some (.str y) := fun h9 => by unfold rv; rw [vIxA_t]; rfl
    have x2 : ∀ h9, vIxA h9 (rv [x, y, z]) (.int 2) = some (.str z) := fun h9 => by unfold rv; rw [vIxA_t]; rfl
    have ay : ∀ h9, vIsi h9 [.str y, .ty .str] = some (.bl true) := fun h9 => vIsi_v (t := .str) (a := .str) (by decide) rfl
    simp only [x0, x1, x2, ay, lop_in, en_bind, en_ok, en_bad, en_lift, en_var, en_c, en_bin, en_un, en_test, en_chain, en_andT, en_orT, en_notT, en_and, en_or, en_not, en_if, en_nil, en_cons, en_tup, en_list, en_pureL, en_newL, en_fn, en_call, en_callK, en_methS, en_oN, en_oS, en_sl, en_rng1, en_iter, en_lc, es_seq, es_skip, es_ret, es_retN, es_if, es_asg, es_par2, es_for, eg_name, eg_nil, eg_cons, eg_tup, eg_sub, vAdd_ii, vAdd_ss, vAdd_ll, vSub_ii, vMul_ii, vDiv_ii, vMod_ii, vLt_ii, vLe_ii, vGt_ii, vGe_ii, vEq_ii, vEq_ss, vNe_ii, vNe_ss, vIx_t, vIx_l, vIx_s, vIx_r, vLen_s, vLen_t, vLen_l, vLen_r, es_drop, es_bad, es_try0, en_listOf, en_methO, es_setL1, es_setL0, en_set0, en_fmt, en_joinN, en_joinC, en_enum, en_sortS, en_split, en_rng2, vIxA_t, vIxA_l, vIxA_s, vLenA_s, vLenA_t, vLenA_l, vMulA_ii, List.getElem?_cons_zero, List.getElem?_cons_succ, List.set_cons_zero, List.set_cons_succ, Option.some.injEq, AV.int.injEq, AV.bl.injEq, AV.str.injEq, AV.ref.injEq, AV.tup.injEq, AV.lst.injEq, AO.list.injEq, List.cons.injEq, exists_eq_left', exists_eq_left, exists_and_left, List.map_cons, List.map_nil, List.replicate, List.cons_append, List.nil_append, and_true, true_and, if_true, Nat.sub_self, ite_true, List.length_cons, List.length_nil, Nat.zero_add, Nat.reduceAdd, Nat.reduceSub, List.length_set]
    have ce : cl (rv [x, y, z]) = (vr (.str x) && vr (.str z) && opS (.str y)) := rfl
    rw [ce]
    rw [if_neg (by simp), if_neg (by simp)]
    refine ⟨rfl, ?_⟩
    cases ho : opS (.str y) with
    | false => rw [if_pos (by simp)]; exact ⟨Nat.le_refl _, by simp⟩
    | true =>
      rw [if_neg (by simp), lvar1 (atm_str (by omega)), en_ok]
      refine ⟨_, rfl, ?_⟩
      cases hx : vr (.str x) with
      | false => rw [if_neg (by simp)]; exact ⟨Nat.le_refl _, by simp⟩
      | true =>
        rw [if_pos rfl, lvar1 (atm_str (by omega)), en_ok]
        refine ⟨Nat.le_refl _, ?_, rfl⟩
        cases vr (.str z) <;> rfl
  · have ce : cl (rv r) = false := cl_no fun a b c e => hl (by
      have := congrArg List.length (AV.tup.inj e)
      simpa using this)
    rw [ce, if_pos (by simp; omega)]
    exact ⟨Nat.le_refl _, rfl⟩
section
variable {e : AHeap} {b : Nat}
theorem fold_nodup : ∀ (ms : List Key) {ks : List Key}, ks.Nodup → (ms.foldl putS ks).Nodup
  | [], _, h => h
  | m :: ms, ks, h => fold_nodup ms (putS_nd h)
theorem fold_mem : ∀ (ms : List Key) {ks : List Key} {k : Key}, k ∈ ms.foldl putS ks ↔ k ∈ ks ∨ k ∈ ms
  | [], ks, k => by simp
  | m :: ms, ks, k => by
    rw [List.foldl_cons, fold_mem ms, List.mem_cons]
    have : k ∈ putS ks m ↔ k ∈ ks ∨ k = m := by
      unfold putS
      split
      · rename_i hm
        constructor
        · exact .inl
        · rintro (z | rfl)
          · exact z
          · exact memK_iff.mp hm
      · simp
    rw [this]
    constructor
    · rintro ((z | z) | z)
      · exact .inl z
      · exact .inr (.inl z)
      · exact .inr (.inr z)
    · rintro (z | z | z)
      · exact .inl (.inl z)
      · exact .inl (.inr z)
      · exact .inr z
theorem fold_same {ks ms : List Key} (h : ∀ k, k ∈ ks ↔ k ∈ ms) : (foldS ks).length = (foldS ms).length := by
  have n1 : (foldS ks).Nodup := fold_nodup ks List.nodup_nil
  have n2 : (foldS ms).Nodup := fold_nodup ms List.nodup_nil
  have m1 : ∀ k, k ∈ foldS ks ↔ k ∈ ks := fun k => by unfold foldS; rw [fold_mem]; simp
  have m2 : ∀ k, k ∈ foldS ms ↔ k ∈ ms := fun k => by unfold foldS; rw [fold_mem]; simp
  refine Nat.le_antisymm (nodup_le n1 fun k hk => ?_) (nodup_le n2 fun k hk => ?_)
  · rw [m2, ← h, ← m1]; exact hk
  · rw [m1, h, ← m2]; exact hk
/-- the i-th parts of rows of three -/
def fstS : Row → List Nat
  | a :: _ => a
  | [] => []
def trdS : Row → List Nat
  | [_, _, c] => c
  | _ => []
theorem keys_map : ∀ l : List (List Nat), keysOf (l.map AV.str) = some (l.map kS)
  | [] => rfl
  | s :: l => by
    show (match keyOf (.str s), keysOf (l.map AV.str) with | some k, some ks => some (k :: ks) | _, _ => none) = _
    rw [keys_map l]; rfl
theorem map_str : ∀ {l m : List (List Nat)}, l.map AV.str = m.map AV.str → l = m
  | [], [], _ => rfl
  | [], _ :: _, h => by simp at h
  | _ :: _, [], h => by simp at h
  | x :: l, y :: m, h => by
    rw [List.map_cons, List.map_cons] at h
    injection h with h1 h2
    injection h1 with h1
    rw [h1, map_str h2]
theorem rv_inj {r r' : Row} (h : rv r = rv r') : r = r' := map_str (AV.tup.inj h)
theorem paired_bl : ∀ {l ys : List AV}, Paired (fun v y => y = AV.bl (cl v)) l ys → ys = l.map fun v => AV.bl (cl v)
  | [], _, .nil => rfl
  | v :: l, _, .cons h t => by rw [h, paired_bl t]; rfl
theorem all_bl {h : AHeap} (R : List Row) : vAll h [.lst ((R.map rv).map fun v => AV.bl (cl v))] = some (.bl (R.all fun r => cl (rv r))) := by
  have key : ∀ R : List Row, bools? ((R.map rv).map fun v => AV.bl (cl v)) = some (R.map fun r => cl (rv r)) := by
    intro R
    induction R with
    | nil => rfl
    | cons r R ih =>
      show (bools? ((R.map rv).map fun v => AV.bl (cl v))).map (cl (rv r) :: ·) = _
      rw [ih]; rfl
  show (bools? ((R.map rv).map fun v => AV.bl (cl v))).map (fun bs => AV.bl (bs.all _root_.id)) = _
  rw [key]
  simp [List.all_map]
theorem paired_one {f : Row → List Nat} : ∀ {R : List Row} {ys : List AV}, Paired (fun v y => ∃ r, v = rv r ∧ y = AV.str (f r)) (R.map rv) ys → (∀ r ∈ R, ∃ a o c, r = [a, o, c]) → ys = (R.map f).map AV.str
  | [], _, .nil, _ => rfl
  | r :: R, _, .cons h t, q => by
    obtain ⟨r', e, rfl⟩ := h
    have : r = r' := rv_inj e
    subst this
    rw [paired_one t fun r hr => q r (List.mem_cons_of_mem _ hr)]; rfl
theorem xreadable {h : AHeap} {s : List Nat} (hh : HI e b h) (hc : e.all (AO.closed 0) = true) (hs : s.length ≤ 4000) :
    Ens (m__law_readable [.str s] h) fun v h' => v = (if good (rowsT s) = true then .tup ((rowsT s).map rv) else .non) ∧ HI e b h' := by
  refine en_defH rfl hc hh ?_
  have smT := rowsT_small hs
  have b1 := spl_b [44, 32] s 0 []
  have sz : ∀ {n : Nat}, n ≤ 5000 → n + 2 ≤ szM := fun h => by unfold szM; omega
  refine es_cut (fun ρ1 h1 => ρ1 = [some (.str s), some (.lst ((rowsT s).map rv)), none, none, none] ∧ HI e b h1) ?_ fun ρ1 h1 => ?_
  · simp only [en_bind, en_ok, en_bad, en_lift, en_var, en_c, en_bin, en_un, en_test, en_chain, en_andT, en_orT, en_notT, en_and, en_or, en_not, en_if, en_nil, en_cons, en_tup, en_list, en_pureL, en_newL, en_fn, en_call, en_callK, en_methS, en_oN, en_oS, en_sl, en_rng1, en_iter, en_lc, es_seq, es_skip, es_ret, es_retN, es_if, es_asg, es_par2, es_for, eg_name, eg_nil, eg_cons, eg_tup, eg_sub, es_drop, es_bad, es_try0, en_listOf, en_methO, es_setL1, es_setL0, en_set0, en_fmt, en_joinN, en_joinC, en_enum, en_sortS, en_split, en_rng2, vIxA_t, vIxA_l, vIxA_s, vLenA_s, vLenA_t, vLenA_l, vMulA_ii, vAdd_ii, vAdd_ss, vAdd_ll, vSub_ii, vMul_ii, vDiv_ii, vMod_ii, vLt_ii, vLe_ii, vGt_ii, vGe_ii, vEq_ii, vEq_ss, vNe_ii, vNe_ss, vIx_t, vIx_l, vIx_s, vIx_r, vLen_s, vLen_t, vLen_l, vLen_r, List.getElem?_cons_zero, List.getElem?_cons_succ, List.set_cons_zero, List.set_cons_succ, Option.some.injEq, AV.int.injEq, AV.bl.injEq, AV.str.injEq, AV.ref.injEq, AV.tup.injEq, AV.lst.injEq, AO.list.injEq, List.cons.injEq, exists_eq_left', exists_eq_left, exists_and_left, List.map_cons, List.map_nil, List.replicate, List.cons_append, List.nil_append, and_true, true_and, if_true, Nat.sub_self, ite_true, List.length_cons, List.length_nil, Nat.zero_add, Nat.reduceAdd, Nat.reduceSub, List.length_set]
    by_cases h0 : s = []
    · rw [if_neg (by simpa using h0)]
      subst h0
      exact ⟨rfl, rfl, hh⟩
    · rw [if_pos (by simpa using h0)]
      have rT : rowsT s = rowsOf s := if_neg h0
      rw [rT]
      refine ⟨⟨by simp, sz (by omega)⟩, _, rfl, ?_⟩
      rw [split_cut (by simp)]
      refine ⟨szOk_le (by rw [List.length_map]; have := b1.2; unfold cutS; omega), ?_⟩
      refine en_lcR (fun h' => HI e b h') (fun v y => ∃ p, v = AV.str p ∧ y = rv (cutS [32] p)) ?_ hh ?_
      · rintro v hv h5 hh5
        obtain ⟨p, hp, rfl⟩ := List.mem_map.mp hv
        have pl := (b1.1 p hp).1
        simp only [List.length_nil, Nat.zero_add] at pl
        refine ⟨_, rfl, ?_⟩
        simp only [en_bind, en_ok, en_bad, en_lift, en_var, en_c, en_bin, en_un, en_test, en_chain, en_andT, en_orT, en_notT, en_and, en_or, en_not, en_if, en_nil, en_cons, en_tup, en_list, en_pureL, en_newL, en_fn, en_call, en_callK, en_methS, en_oN, en_oS, en_sl, en_rng1, en_iter, en_lc, es_seq, es_skip, es_ret, es_retN, es_if, es_asg, es_par2, es_for, eg_name, eg_nil, eg_cons, eg_tup, eg_sub, es_drop, es_bad, es_try0, en_listOf, en_methO, es_setL1, es_setL0, en_set0, en_fmt, en_joinN, en_joinC, en_enum, en_sortS, en_split, en_rng2, vIxA_t, vIxA_l, vIxA_s, vLenA_s, vLenA_t, vLenA_l, vMulA_ii, vAdd_ii, vAdd_ss, vAdd_ll, vSub_ii, vMul_ii, vDiv_ii, vMod_ii, vLt_ii, vLe_ii, vGt_ii, vGe_ii, vEq_ii, vEq_ss, vNe_ii, vNe_ss, vIx_t, vIx_l, vIx_s, vIx_r, vLen_s, vLen_t, vLen_l, vLen_r, List.getElem?_cons_zero, List.getElem?_cons_succ, List.set_cons_zero, List.set_cons_succ, Option.some.injEq, AV.int.injEq, AV.bl.injEq, AV.str.injEq, AV.ref.injEq, AV.tup.injEq, AV.lst.injEq, AO.list.injEq, List.cons.injEq, exists_eq_left', exists_eq_left, exists_and_left, List.map_cons, List.map_nil, List.replicate, List.cons_append, List.nil_append, and_true, true_and, if_true, Nat.sub_self, ite_true, List.length_cons, List.length_nil, Nat.zero_add, Nat.reduceAdd, Nat.reduceSub, List.length_set, wipeA, List.foldl]
        rw [split_cut (by simp)]
        exact ⟨⟨by simp, sz (by omega)⟩, _, rfl, rfl, hh5⟩
      · rintro ys h5 hY hh5
        have := paired_rows hY
        subst this
        first | exact ⟨rfl, hh5⟩ | exact hh5
  rintro ⟨rfl, hh1⟩
  generalize rowsT s = R at smT ⊢
  refine es_cut (fun ρ1 h1 => ρ1 = [some (.str s), some (.lst (R.map rv)), none, none, none] ∧ R.length ≤ 100 ∧ (∀ r ∈ R, cl (rv r) = true) ∧ HI e b h1) ?_ fun ρ1 h2 => ?_
  · simp only [en_bind, en_ok, en_bad, en_lift, en_var, en_c, en_bin, en_un, en_test, en_chain, en_andT, en_orT, en_notT, en_and, en_or, en_not, en_if, en_nil, en_cons, en_tup, en_list, en_pureL, en_newL, en_fn, en_call, en_callK, en_methS, en_oN, en_oS, en_sl, en_rng1, en_iter, en_lc, es_seq, es_skip, es_ret, es_retN, es_if, es_asg, es_par2, es_for, eg_name, eg_nil, eg_cons, eg_tup, eg_sub, es_drop, es_bad, es_try0, en_listOf, en_methO, es_setL1, es_setL0, en_set0, en_fmt, en_joinN, en_joinC, en_enum, en_sortS, en_split, en_rng2, vIxA_t, vIxA_l, vIxA_s, vLenA_s, vLenA_t, vLenA_l, vMulA_ii, vAdd_ii, vAdd_ss, vAdd_ll, vSub_ii, vMul_ii, vDiv_ii, vMod_ii, vLt_ii, vLe_ii, vGt_ii, vGe_ii, vEq_ii, vEq_ss, vNe_ii, vNe_ss, vIx_t, vIx_l, vIx_s, vIx_r, vLen_s, vLen_t, vLen_l, vLen_r, List.getElem?_cons_zero, List.getElem?_cons_succ, List.set_cons_zero, List.set_cons_succ, Option.some.injEq, AV.int.injEq, AV.bl.injEq, AV.str.injEq, AV.ref.injEq, AV.tup.injEq, AV.lst.injEq, AO.list.injEq, List.cons.injEq, exists_eq_left', exists_eq_left, exists_and_left, List.map_cons, List.map_nil, List.replicate, List.cons_append, List.nil_append, and_true, true_and, if_true, Nat.sub_self, ite_true, List.length_cons, List.length_nil, Nat.zero_add, Nat.reduceAdd, Nat.reduceSub, List.length_set]
    rw [List.length_map]
    have bad : good R = false → ∀ {h9 : AHeap}, HI e b h9 → ∃ e', HI (e ++ e') b h9 ∧ ∃ x, Sees h9 h.length .non x ∧ ∀ h2, HI e b h2 → (x = if good R = true then AV.tup (R.map rv) else .non) ∧ HI e b h2 := fun g h9 k =>
      ⟨[], by simpa using k, _, .pure rfl, fun h2 k2 => ⟨by rw [if_neg (by rw [g]; simp)], k2⟩⟩
    by_cases hl : R.length ≤ 100
    · rw [if_neg (by simp; omega)]
      refine ⟨_, rfl, szOk_le (by rw [List.length_map]; omega), ?_⟩
      refine en_lcR (fun h' => HI e b h') (fun v y => y = AV.bl (cl v)) ?_ hh1 ?_
      · rintro v hv h5 hh5
        obtain ⟨r, hr, rfl⟩ := List.mem_map.mp hv
        refine ⟨_, rfl, ?_⟩
        simp only [en_bind, en_ok, en_bad, en_lift, en_var, en_c, en_bin, en_un, en_test, en_chain, en_andT, en_orT, en_notT, en_and, en_or, en_not, en_if, en_nil, en_cons, en_tup, en_list, en_pureL, en_newL, en_fn, en_call, en_callK, en_methS, en_oN, en_oS, en_sl, en_rng1, en_iter, en_lc, es_seq, es_skip, es_ret, es_retN, es_if, es_asg, es_par2, es_for, eg_name, eg_nil, eg_cons, eg_tup, eg_sub, es_drop, es_bad, es_try0, en_listOf, en_methO, es_setL1, es_setL0, en_set0, en_fmt, en_joinN, en_joinC, en_enum, en_sortS, en_split, en_rng2, vIxA_t, vIxA_l, vIxA_s, vLenA_s, vLenA_t, vLenA_l, vMulA_ii, vAdd_ii, vAdd_ss, vAdd_ll, vSub_ii, vMul_ii, vDiv_ii, vMod_ii, vLt_ii, vLe_ii, vGt_ii, vGe_ii, vEq_ii, vEq_ss, vNe_ii, vNe_ss, vIx_t, vIx_l, vIx_s, vIx_r, vLen_s, vLen_t, vLen_l, vLen_r, List.getElem?_cons_zero, List.getElem?_cons_succ, List.set_cons_zero, List.set_cons_succ, Option.some.injEq, AV.int.injEq, AV.bl.injEq, AV.str.injEq, AV.ref.injEq, AV.tup.injEq, AV.lst.injEq, AO.list.injEq, List.cons.injEq, exists_eq_left', exists_eq_left, exists_and_left, List.map_cons, List.map_nil, List.replicate, List.cons_append, List.nil_append, and_true, true_and, if_true, Nat.sub_self, ite_true, List.length_cons, List.length_nil, Nat.zero_add, Nat.reduceAdd, Nat.reduceSub, List.length_set, wipeA, List.foldl]
        rw [lclaim1 (smT.2 r hr).2, en_ok]
        first | exact ⟨rfl, hh5⟩ | exact hh5
      · rintro ys h5 hY hh5
        have := paired_bl hY
        subst this
        refine ⟨_, all_bl R, _, rfl, ?_⟩
        cases ha : R.all fun r => cl (rv r) with
        | true =>
          rw [if_neg (by simp)]
          first | exact ⟨rfl, hl, List.all_eq_true.mp ha, hh5⟩ | exact ⟨hl, List.all_eq_true.mp ha, hh5⟩
        | false =>
          rw [if_pos (by simp)]
          exact bad (by unfold good; rw [ha]; simp) hh5
    · rw [if_pos (by simp; omega)]
      exact bad (by unfold good; rw [decide_eq_false hl]; rfl) hh1
  rintro ⟨rfl, hl, hcl, hh2⟩
  have three : ∀ r ∈ R, ∃ a o c, r = [a, o, c] := fun r hr => let ⟨a, o, c, e1, _⟩ := cl_three (hcl r hr); ⟨a, o, c, e1⟩
  refine es_cut (fun ρ1 h1 => ρ1 = [some (.str s), some (.lst (R.map rv)), some (.lst ((R.map fstS ++ R.map trdS).map AV.str)), none, none] ∧ HI e b h1) ?_ fun ρ1 h3 => ?_
  · simp only [en_bind, en_ok, en_bad, en_lift, en_var, en_c, en_bin, en_un, en_test, en_chain, en_andT, en_orT, en_notT, en_and, en_or, en_not, en_if, en_nil, en_cons, en_tup, en_list, en_pureL, en_newL, en_fn, en_call, en_callK, en_methS, en_oN, en_oS, en_sl, en_rng1, en_iter, en_lc, es_seq, es_skip, es_ret, es_retN, es_if, es_asg, es_par2, es_for, eg_name, eg_nil, eg_cons, eg_tup, eg_sub, es_drop, es_bad, es_try0, en_listOf, en_methO, es_setL1, es_setL0, en_set0, en_fmt, en_joinN, en_joinC, en_enum, en_sortS, en_split, en_rng2, vIxA_t, vIxA_l, vIxA_s, vLenA_s, vLenA_t, vLenA_l, vMulA_ii, vAdd_ii, vAdd_ss, vAdd_ll, vSub_ii, vMul_ii, vDiv_ii, vMod_ii, vLt_ii, vLe_ii, vGt_ii, vGe_ii, vEq_ii, vEq_ss, vNe_ii, vNe_ss, vIx_t, vIx_l, vIx_s, vIx_r, vLen_s, vLen_t, vLen_l, vLen_r, List.getElem?_cons_zero, List.getElem?_cons_succ, List.set_cons_zero, List.set_cons_succ, Option.some.injEq, AV.int.injEq, AV.bl.injEq, AV.str.injEq, AV.ref.injEq, AV.tup.injEq, AV.lst.injEq, AO.list.injEq, List.cons.injEq, exists_eq_left', exists_eq_left, exists_and_left, List.map_cons, List.map_nil, List.replicate, List.cons_append, List.nil_append, and_true, true_and, if_true, Nat.sub_self, ite_true, List.length_cons, List.length_nil, Nat.zero_add, Nat.reduceAdd, Nat.reduceSub, List.length_set]
    refine ⟨_, rfl, szOk_le (by rw [List.length_map]; omega), ?_⟩
    refine en_lcR (fun h' => HI e b h') (fun v y => ∃ r, v = rv r ∧ y = AV.str (fstS r)) ?_ hh2 ?_
    · rintro v hv h5 hh5
      obtain ⟨r, hr, rfl⟩ := List.mem_map.mp hv
      obtain ⟨a, o, c, rfl⟩ := three r hr
      refine ⟨_, rfl, ?_⟩
      have x0 : ∀ h9, vIxA h9 (rv [a, o, c]) (.int 0) = some (.str a) := fun h9 => by unfold rv; rw [vIxA_t]; rfl
      simp only [en_bind, en_ok, en_bad, en_lift, en_var, en_c, en_bin, en_un, en_test, en_chain, en_andT, en_orT, en_notT, en_and, en_or, en_not, en_if, en_nil, en_cons, en_tup, en_list, en_pureL, en_newL, en_fn, en_call, en_callK, en_methS, en_oN, en_oS, en_sl, en_rng1, en_iter, en_lc, es_seq, es_skip, es_ret, es_retN, es_if, es_asg, es_par2, es_for, eg_name, eg_nil, eg_cons, eg_tup, eg_sub, es_drop, es_bad, es_try0, en_listOf, en_methO, es_setL1, es_setL0, en_set0, en_fmt, en_joinN, en_joinC, en_enum, en_sortS, en_split, en_rng2, vIxA_t, vIxA_l, vIxA_s, vLenA_s, vLenA_t, vLenA_l, vMulA_ii, vAdd_ii, vAdd_ss, vAdd_ll, vSub_ii, vMul_ii, vDiv_ii, vMod_ii, vLt_ii, vLe_ii, vGt_ii, vGe_ii, vEq_ii, vEq_ss, vNe_ii, vNe_ss, vIx_t, vIx_l, vIx_s, vIx_r, vLen_s, vLen_t, vLen_l, vLen_r, List.getElem?_cons_zero, List.getElem?_cons_succ, List.set_cons_zero, List.set_cons_succ, Option.some.injEq, AV.int.injEq, AV.bl.injEq, AV.str.injEq, AV.ref.injEq, AV.tup.injEq, AV.lst.injEq, AO.list.injEq, List.cons.injEq, exists_eq_left', exists_eq_left, exists_and_left, List.map_cons, List.map_nil, List.replicate, List.cons_append, List.nil_append, and_true, true_and, if_true, Nat.sub_self, ite_true, List.length_cons, List.length_nil, Nat.zero_add, Nat.reduceAdd, Nat.reduceSub, List.length_set, wipeA, List.foldl, x0]
      exact ⟨⟨_, rfl, rfl⟩, hh5⟩
    · rintro ys h5 hY hh5
      have := paired_one hY three
      subst this
      refine ⟨_, rfl, szOk_le (by rw [List.length_map]; omega), ?_⟩
      refine en_lcR (fun h' => HI e b h') (fun v y => ∃ r, v = rv r ∧ y = AV.str (trdS r)) ?_ hh5 ?_
      · rintro v hv h6 hh6
        obtain ⟨r, hr, rfl⟩ := List.mem_map.mp hv
        obtain ⟨a, o, c, rfl⟩ := three r hr
        refine ⟨_, rfl, ?_⟩
        have x2 : ∀ h9, vIxA h9 (rv [a, o, c]) (.int 2) = some (.str c) := fun h9 => by unfold rv; rw [vIxA_t]; rfl
        simp only [en_bind, en_ok, en_bad, en_lift, en_var, en_c, en_bin, en_un, en_test, en_chain, en_andT, en_orT, en_notT, en_and, en_or, en_not, en_if, en_nil, en_cons, en_tup, en_list, en_pureL, en_newL, en_fn, en_call, en_callK, en_methS, en_oN, en_oS, en_sl, en_rng1, en_iter, en_lc, es_seq, es_skip, es_ret, es_retN, es_if, es_asg, es_par2, es_for, eg_name, eg_nil, eg_cons, eg_tup, eg_sub, es_drop, es_bad, es_try0, en_listOf, en_methO, es_setL1, es_setL0, en_set0, en_fmt, en_joinN, en_joinC, en_enum, en_sortS, en_split, en_rng2, vIxA_t, vIxA_l, vIxA_s, vLenA_s, vLenA_t, vLenA_l, vMulA_ii, vAdd_ii, vAdd_ss, vAdd_ll, vSub_ii, vMul_ii, vDiv_ii, vMod_ii, vLt_ii, vLe_ii, vGt_ii, vGe_ii, vEq_ii, vEq_ss, vNe_ii, vNe_ss, vIx_t, vIx_l, vIx_s, vIx_r, vLen_s, vLen_t, vLen_l, vLen_r, List.getElem?_cons_zero, List.getElem?_cons_succ, List.set_cons_zero, List.set_cons_succ, Option.some.injEq, AV.int.injEq, AV.bl.injEq, AV.str.injEq, AV.ref.injEq, AV.tup.injEq, AV.lst.injEq, AO.list.injEq, List.cons.injEq, exists_eq_left', exists_eq_left, exists_and_left, List.map_cons, List.map_nil, List.replicate, List.cons_append, List.nil_append, and_true, true_and, if_true, Nat.sub_self, ite_true, List.length_cons, List.length_nil, Nat.zero_add, Nat.reduceAdd, Nat.reduceSub, List.length_set, wipeA, List.foldl, x2]
        exact ⟨⟨_, rfl, rfl⟩, hh6⟩
      · rintro zs h6 hZ hh6
        have := paired_one hZ three
        subst this
        refine ⟨_, if_pos (szK (by simp only [List.length_map]; omega)), ?_⟩
        rw [List.map_append]
        first | exact ⟨rfl, hh6⟩ | exact hh6
  rintro ⟨rfl, hh3⟩
  simp only [en_bind, en_ok, en_bad, en_lift, en_var, en_c, en_bin, en_un, en_test, en_chain, en_andT, en_orT, en_notT, en_and, en_or, en_not, en_if, en_nil, en_cons, en_tup, en_list, en_pureL, en_newL, en_fn, en_call, en_callK, en_methS, en_oN, en_oS, en_sl, en_rng1, en_iter, en_lc, es_seq, es_skip, es_ret, es_retN, es_if, es_asg, es_par2, es_for, eg_name, eg_nil, eg_cons, eg_tup, eg_sub, es_drop, es_bad, es_try0, en_listOf, en_methO, es_setL1, es_setL0, en_set0, en_fmt, en_joinN, en_joinC, en_enum, en_sortS, en_split, en_rng2, vIxA_t, vIxA_l, vIxA_s, vLenA_s, vLenA_t, vLenA_l, vMulA_ii, vAdd_ii, vAdd_ss, vAdd_ll, vSub_ii, vMul_ii, vDiv_ii, vMod_ii, vLt_ii, vLe_ii, vGt_ii, vGe_ii, vEq_ii, vEq_ss, vNe_ii, vNe_ss, vIx_t, vIx_l, vIx_s, vIx_r, vLen_s, vLen_t, vLen_l, vLen_r, List.getElem?_cons_zero, List.getElem?_cons_succ, List.set_cons_zero, List.set_cons_succ, Option.some.injEq, AV.int.injEq, AV.bl.injEq, AV.str.injEq, AV.ref.injEq, AV.tup.injEq, AV.lst.injEq, AO.list.injEq, List.cons.injEq, exists_eq_left', exists_eq_left, exists_and_left, List.map_cons, List.map_nil, List.replicate, List.cons_append, List.nil_append, and_true, true_and, if_true, Nat.sub_self, ite_true, List.length_cons, List.length_nil, Nat.zero_add, Nat.reduceAdd, Nat.reduceSub, List.length_set, en_setOf]
  have kk : keysOf ((R.map fstS ++ R.map trdS).map AV.str) = some ((R.map fstS ++ R.map trdS).map kS) := keys_map _
  have l3 := hh3.len
  have nh : (h3 ++ [AO.set (foldS ((R.map fstS ++ R.map trdS).map kS))])[h3.length]? = some (.set (foldS ((R.map fstS ++ R.map trdS).map kS))) := by simp
  have same : (foldS ((R.map fstS ++ R.map trdS).map kS)).length = (foldS (R.flatMap k2)).length := by
    refine fold_same fun k => ?_
    simp only [List.map_append, List.map_map, List.mem_append, List.mem_map, List.mem_flatMap, Function.comp_apply]
    constructor
    · rintro (⟨r, hr, rfl⟩ | ⟨r, hr, rfl⟩)
      · obtain ⟨a, o, c, rfl⟩ := three r hr
        exact ⟨_, hr, by simp [k2, fstS]⟩
      · obtain ⟨a, o, c, rfl⟩ := three r hr
        exact ⟨_, hr, by simp [k2, trdS]⟩
    · rintro ⟨r, hr, hk⟩
      obtain ⟨a, o, c, rfl⟩ := three r hr
      simp only [k2, List.mem_cons, List.not_mem_nil, or_false] at hk
      rcases hk with rfl | rfl
      · exact .inl ⟨_, hr, rfl⟩
      · exact .inr ⟨_, hr, rfl⟩
  have gg : good R = decide ((foldS ((R.map fstS ++ R.map trdS).map kS)).length ≤ 10) := by
    unfold good
    rw [decide_eq_true hl, List.all_eq_true.mpr hcl, same]; rfl
  refine ⟨_, rfl, _, kk, by simp only [List.length_map, List.length_append]; omega, _, vLenA_rs nh, _, vLt_ii, _, rfl, ?_⟩
  by_cases h10 : (foldS ((R.map fstS ++ R.map trdS).map kS)).length ≤ 10
  · have g : good R = true := by rw [gg, decide_eq_true h10]
    rw [if_pos (by rw [decide_eq_true_eq]; omega)]
    exact ⟨_, rfl, _, hh3.push _, _, .pure rv_closed, fun h2 k2 => ⟨by rw [if_pos g], k2⟩⟩
  · have g : good R = false := by rw [gg, decide_eq_false h10]
    rw [if_neg (by rw [decide_eq_true_eq]; omega)]
    exact ⟨_, hh3.push _, _, .pure rfl, fun h2 k2 => ⟨by rw [if_neg (by rw [g]; simp)], k2⟩⟩
end
end AIL
namespace AIL
open PySem PySem.Spec PyProof.Rows L2 AI
theorem strs_data : ∀ l : List (List Nat), ∃ ds, AV.datas (l.map AV.str) = some ds ∧ PyData.plainAll ds = true ∧ PyData.depthAll ds = 0
  | [] => ⟨[], rfl, by simp [PyData.plainAll], rfl⟩
  | s :: l => by
    obtain ⟨ds, e, p, d⟩ := strs_data l
    refine ⟨.str ⟨s.toArray⟩ :: ds, ?_, ?_, ?_⟩
    · rw [List.map_cons]; unfold AV.datas; rw [e]; rfl
    · simp only [PyData.plainAll, PyData.plain, p, Bool.and_self]
    · show max 0 (PyData.depthAll ds) = 0
      omega
theorem eq_strs {h : AHeap} {l : List (List Nat)} : vEq h (.lst (l.map AV.str)) (.lst (l.map AV.str)) = some (.bl true) := by
  obtain ⟨ds, e, p, d⟩ := strs_data l
  unfold vEq vOr
  have z1 : vEqFlat false h (.lst (l.map AV.str)) (.lst (l.map AV.str)) = none := rfl
  rw [z1]
  dsimp only
  unfold vEqData
  have z2 : dataH h (.lst (l.map AV.str)) = some (.list ds) := by unfold dataH AV.data; rw [e]; rfl
  rw [z2]
  dsimp only
  have pl : PyData.plain (.list ds) = true := by simpa [PyData.plain] using p
  have z3 : plB (.list ds) = true := by
    unfold plB
    have dd : PyData.depth (.list ds) ≤ 64 := by show PyData.depthAll ds + 1 ≤ 64; omega
    rw [pl, decide_eq_true dd]; rfl
  rw [z3]
  have z4 : PyData.eqv (.list ds) (.list ds) = true := SeqAt.eqv_refl_plain _ pl
  simp [z4]
section
variable {e : AHeap} {b : Nat}
theorem xright_s {h : AHeap} {s : List Nat} (hh : HI e b h) (hc : e.all (AO.closed 0) = true) (hx : e.all AO.noX = true) (hs : s.length ≤ 4000) :
    Ens (m__law_right [.str s] h) fun v h' => v = .bl true ∧ HI e b h' := by
  refine en_defH rfl hc hh ?_
  have at0 : ∀ h, vIsi h [.str s, .ty .str] = some (.bl true) := fun h => vIsi_v (t := .str) (a := .str) (by decide) rfl
  have m3 : ∀ h, vMulA h (.lst [.str (due s)]) (.int 3) = some (.lst [.str (due s), .str (due s), .str (due s)]) := fun h => rfl
  have ii : ∀ h t, vIs false h (.tup t) .non = some (.bl false) := fun h t => rfl
  have nn : ∀ h, vIs false h .non .non = some (.bl true) := fun h => rfl
  refine es_cut (fun ρ1 h1 => ρ1 = [some (.str s), some (if good (rowsT s) = true then .tup ((rowsT s).map rv) else .non), none, none] ∧ HI e b h1) ?_ fun ρ1 h1 => ?_
  · simp only [en_bind, en_ok, en_bad, en_lift, en_var, en_c, en_bin, en_un, en_test, en_chain, en_andT, en_orT, en_notT, en_and, en_or, en_not, en_if, en_nil, en_cons, en_tup, en_list, en_pureL, en_newL, en_fn, en_call, en_callK, en_methS, en_oN, en_oS, en_sl, en_rng1, en_iter, en_lc, es_seq, es_skip, es_ret, es_retN, es_if, es_asg, es_par2, es_for, eg_name, eg_nil, eg_cons, eg_tup, eg_sub, es_drop, es_bad, es_try0, en_listOf, en_methO, es_setL1, es_setL0, en_set0, en_fmt, en_joinN, en_joinC, en_enum, en_sortS, en_split, en_rng2, vIxA_t, vIxA_l, vIxA_s, vLenA_s, vLenA_t, vLenA_l, vMulA_ii, vAdd_ii, vAdd_ss, vAdd_ll, vSub_ii, vMul_ii, vDiv_ii, vMod_ii, vLt_ii, vLe_ii, vGt_ii, vGe_ii, vEq_ii, vEq_ss, vNe_ii, vNe_ss, vIx_t, vIx_l, vIx_s, vIx_r, vLen_s, vLen_t, vLen_l, vLen_r, List.getElem?_cons_zero, List.getElem?_cons_succ, List.set_cons_zero, List.set_cons_succ, Option.some.injEq, AV.int.injEq, AV.bl.injEq, AV.str.injEq, AV.ref.injEq, AV.tup.injEq, AV.lst.injEq, AO.list.injEq, List.cons.injEq, exists_eq_left', exists_eq_left, exists_and_left, List.map_cons, List.map_nil, List.replicate, List.cons_append, List.nil_append, and_true, true_and, if_true, Nat.sub_self, ite_true, List.length_cons, List.length_nil, Nat.zero_add, Nat.reduceAdd, Nat.reduceSub, List.length_set, at0]
    refine (xreadable hh hc hs).mono ?_
    rintro v h1 ⟨rfl, k⟩
    exact ⟨rfl, k⟩
  rintro ⟨rfl, k1⟩
  refine es_cut (fun ρ1 h1 => (∃ a, ρ1 = [some (.str s), a, some (.str (due s)), none]) ∧ HI e b h1) ?_ fun ρ1 h2 => ?_
  · by_cases g : good (rowsT s) = true
    · rw [if_pos g]
      have dd : due s = reprOf (.tup ((rowsT s).map rv)) := by unfold due; rw [if_pos g]
      simp only [en_bind, en_ok, en_bad, en_lift, en_var, en_c, en_bin, en_un, en_test, en_chain, en_andT, en_orT, en_notT, en_and, en_or, en_not, en_if, en_nil, en_cons, en_tup, en_list, en_pureL, en_newL, en_fn, en_call, en_callK, en_methS, en_oN, en_oS, en_sl, en_rng1, en_iter, en_lc, es_seq, es_skip, es_ret, es_retN, es_if, es_asg, es_par2, es_for, eg_name, eg_nil, eg_cons, eg_tup, eg_sub, es_drop, es_bad, es_try0, en_listOf, en_methO, es_setL1, es_setL0, en_set0, en_fmt, en_joinN, en_joinC, en_enum, en_sortS, en_split, en_rng2, vIxA_t, vIxA_l, vIxA_s, vLenA_s, vLenA_t, vLenA_l, vMulA_ii, vAdd_ii, vAdd_ss, vAdd_ll, vSub_ii, vMul_ii, vDiv_ii, vMod_ii, vLt_ii, vLe_ii, vGt_ii, vGe_ii, vEq_ii, vEq_ss, vNe_ii, vNe_ss, vIx_t, vIx_l, vIx_s, vIx_r, vLen_s, vLen_t, vLen_l, vLen_r, List.getElem?_cons_zero, List.getElem?_cons_succ, List.set_cons_zero, List.set_cons_succ, Option.some.injEq, AV.int.injEq, AV.bl.injEq, AV.str.injEq, AV.ref.injEq, AV.tup.injEq, AV.lst.injEq, AO.list.injEq, List.cons.injEq, exists_eq_left', exists_eq_left, exists_and_left, List.map_cons, List.map_nil, List.replicate, List.cons_append, List.nil_append, and_true, true_and, if_true, Nat.sub_self, ite_true, List.length_cons, List.length_nil, Nat.zero_add, Nat.reduceAdd, Nat.reduceSub, List.length_set, ii, reprOf_ok (good_rep g), dd]
      simp
      exact k1
    · rw [if_neg g]
      have dd : due s = dueN := by unfold due; rw [if_neg g]
      simp only [en_bind, en_ok, en_bad, en_lift, en_var, en_c, en_bin, en_un, en_test, en_chain, en_andT, en_orT, en_notT, en_and, en_or, en_not, en_if, en_nil, en_cons, en_tup, en_list, en_pureL, en_newL, en_fn, en_call, en_callK, en_methS, en_oN, en_oS, en_sl, en_rng1, en_iter, en_lc, es_seq, es_skip, es_ret, es_retN, es_if, es_asg, es_par2, es_for, eg_name, eg_nil, eg_cons, eg_tup, eg_sub, es_drop, es_bad, es_try0, en_listOf, en_methO, es_setL1, es_setL0, en_set0, en_fmt, en_joinN, en_joinC, en_enum, en_sortS, en_split, en_rng2, vIxA_t, vIxA_l, vIxA_s, vLenA_s, vLenA_t, vLenA_l, vMulA_ii, vAdd_ii, vAdd_ss, vAdd_ll, vSub_ii, vMul_ii, vDiv_ii, vMod_ii, vLt_ii, vLe_ii, vGt_ii, vGe_ii, vEq_ii, vEq_ss, vNe_ii, vNe_ss, vIx_t, vIx_l, vIx_s, vIx_r, vLen_s, vLen_t, vLen_l, vLen_r, List.getElem?_cons_zero, List.getElem?_cons_succ, List.set_cons_zero, List.set_cons_succ, Option.some.injEq, AV.int.injEq, AV.bl.injEq, AV.str.injEq, AV.ref.injEq, AV.tup.injEq, AV.lst.injEq, AO.list.injEq, List.cons.injEq, exists_eq_left', exists_eq_left, exists_and_left, List.map_cons, List.map_nil, List.replicate, List.cons_append, List.nil_append, and_true, true_and, if_true, Nat.sub_self, ite_true, List.length_cons, List.length_nil, Nat.zero_add, Nat.reduceAdd, Nat.reduceSub, List.length_set, nn, dueN_ok, dd]
      first | exact ⟨rfl, _, dueN_ok h1, ⟨_, rfl⟩, k1⟩ | exact ⟨rfl, _, dueN_ok h1, rfl, k1⟩ | (simp; exact ⟨rfl, _, dueN_ok h1, rfl, k1⟩)
  rintro ⟨⟨a, rfl⟩, k2⟩
  simp only [en_bind, en_ok, en_bad, en_lift, en_var, en_c, en_bin, en_un, en_test, en_chain, en_andT, en_orT, en_notT, en_and, en_or, en_not, en_if, en_nil, en_cons, en_tup, en_list, en_pureL, en_newL, en_fn, en_call, en_callK, en_methS, en_oN, en_oS, en_sl, en_rng1, en_iter, en_lc, es_seq, es_skip, es_ret, es_retN, es_if, es_asg, es_par2, es_for, eg_name, eg_nil, eg_cons, eg_tup, eg_sub, es_drop, es_bad, es_try0, en_listOf, en_methO, es_setL1, es_setL0, en_set0, en_fmt, en_joinN, en_joinC, en_enum, en_sortS, en_split, en_rng2, vIxA_t, vIxA_l, vIxA_s, vLenA_s, vLenA_t, vLenA_l, vMulA_ii, vAdd_ii, vAdd_ss, vAdd_ll, vSub_ii, vMul_ii, vDiv_ii, vMod_ii, vLt_ii, vLe_ii, vGt_ii, vGe_ii, vEq_ii, vEq_ss, vNe_ii, vNe_ss, vIx_t, vIx_l, vIx_s, vIx_r, vLen_s, vLen_t, vLen_l, vLen_r, List.getElem?_cons_zero, List.getElem?_cons_succ, List.set_cons_zero, List.set_cons_succ, Option.some.injEq, AV.int.injEq, AV.bl.injEq, AV.str.injEq, AV.ref.injEq, AV.tup.injEq, AV.lst.injEq, AO.list.injEq, List.cons.injEq, exists_eq_left', exists_eq_left, exists_and_left, List.map_cons, List.map_nil, List.replicate, List.cons_append, List.nil_append, and_true, true_and, if_true, Nat.sub_self, ite_true, List.length_cons, List.length_nil, Nat.zero_add, Nat.reduceAdd, Nat.reduceSub, List.length_set]
  refine ⟨rfl, _, rfl, rfl, ?_⟩
  refine en_lcL (fun h' => HI e b h') (fun y => y = .str (due s)) ?_ k2 ?_
  · rintro v hv h5 hh5
    have : ∃ n, v = .bl n := by
      simp only [List.mem_cons, List.not_mem_nil, or_false] at hv
      rcases hv with rfl | rfl | rfl <;> exact ⟨_, rfl⟩
    obtain ⟨n, rfl⟩ := this
    refine ⟨_, rfl, ?_⟩
    simp only [en_bind, en_ok, en_bad, en_lift, en_var, en_c, en_bin, en_un, en_test, en_chain, en_andT, en_orT, en_notT, en_and, en_or, en_not, en_if, en_nil, en_cons, en_tup, en_list, en_pureL, en_newL, en_fn, en_call, en_callK, en_methS, en_oN, en_oS, en_sl, en_rng1, en_iter, en_lc, es_seq, es_skip, es_ret, es_retN, es_if, es_asg, es_par2, es_for, eg_name, eg_nil, eg_cons, eg_tup, eg_sub, es_drop, es_bad, es_try0, en_listOf, en_methO, es_setL1, es_setL0, en_set0, en_fmt, en_joinN, en_joinC, en_enum, en_sortS, en_split, en_rng2, vIxA_t, vIxA_l, vIxA_s, vLenA_s, vLenA_t, vLenA_l, vMulA_ii, vAdd_ii, vAdd_ss, vAdd_ll, vSub_ii, vMul_ii, vDiv_ii, vMod_ii, vLt_ii, vLe_ii, vGt_ii, vGe_ii, vEq_ii, vEq_ss, vNe_ii, vNe_ss, vIx_t, vIx_l, vIx_s, vIx_r, vLen_s, vLen_t, vLen_l, vLen_r, List.getElem?_cons_zero, List.getElem?_cons_succ, List.set_cons_zero, List.set_cons_succ, Option.some.injEq, AV.int.injEq, AV.bl.injEq, AV.str.injEq, AV.ref.injEq, AV.tup.injEq, AV.lst.injEq, AO.list.injEq, List.cons.injEq, exists_eq_left', exists_eq_left, exists_and_left, List.map_cons, List.map_nil, List.replicate, List.cons_append, List.nil_append, and_true, true_and, if_true, Nat.sub_self, ite_true, List.length_cons, List.length_nil, Nat.zero_add, Nat.reduceAdd, Nat.reduceSub, List.length_set, wipeA, List.foldl]
    exact told_s hh5 hc hx hs
  · rintro ys h5 hl hy hh5
    have : ys = [.str (due s), .str (due s), .str (due s)] := by
      match ys, hl, hy with
      | [p, q, r], _, hy => rw [hy p (by simp), hy q (by simp), hy r (by simp)]
    subst this
    exact ⟨rfl, _, m3 h5, _, eq_strs (l := [due s, due s, due s]), [], by simpa using hh5, _, .pure rfl, fun h2 k2 => ⟨rfl, k2⟩⟩
theorem xright_0 {h : AHeap} {v0 : AV} (hh : HI e b h) (hc : e.all (AO.closed 0) = true) (hx : e.all AO.noX = true) (at_ : Atm v0) (ht : tg v0 ≠ .str) :
    Ens (m__law_right [v0] h) fun v h' => v = .bl true ∧ HI e b h' := by
  refine en_defH rfl hc hh ?_
  have at0 : isT (tg v0) .str = false := by
    unfold isT
    rw [decide_eq_false ht]; simp
  have m3 : ∀ h, vMulA h (.lst [.str dueN]) (.int 3) = some (.lst [.str dueN, .str dueN, .str dueN]) := fun h => rfl
  have nn : ∀ h, vIs false h .non .non = some (.bl true) := fun h => rfl
  refine es_cut (fun ρ1 h1 => ρ1 = [some v0, some .non, none, none] ∧ HI e b h1) ?_ fun ρ1 h1 => ?_
  · simp only [en_bind, en_ok, en_bad, en_lift, en_var, en_c, en_bin, en_un, en_test, en_chain, en_andT, en_orT, en_notT, en_and, en_or, en_not, en_if, en_nil, en_cons, en_tup, en_list, en_pureL, en_newL, en_fn, en_call, en_callK, en_methS, en_oN, en_oS, en_sl, en_rng1, en_iter, en_lc, es_seq, es_skip, es_ret, es_retN, es_if, es_asg, es_par2, es_for, eg_name, eg_nil, eg_cons, eg_tup, eg_sub, es_drop, es_bad, es_try0, en_listOf, en_methO, es_setL1, es_setL0, en_set0, en_fmt, en_joinN, en_joinC, en_enum, en_sortS, en_split, en_rng2, vIxA_t, vIxA_l, vIxA_s, vLenA_s, vLenA_t, vLenA_l, vMulA_ii, vAdd_ii, vAdd_ss, vAdd_ll, vSub_ii, vMul_ii, vDiv_ii, vMod_ii, vLt_ii, vLe_ii, vGt_ii, vGe_ii, vEq_ii, vEq_ss, vNe_ii, vNe_ss, vIx_t, vIx_l, vIx_s, vIx_r, vLen_s, vLen_t, vLen_l, vLen_r, List.getElem?_cons_zero, List.getElem?_cons_succ, List.set_cons_zero, List.set_cons_succ, Option.some.injEq, AV.int.injEq, AV.bl.injEq, AV.str.injEq, AV.ref.injEq, AV.tup.injEq, AV.lst.injEq, AO.list.injEq, List.cons.injEq, exists_eq_left', exists_eq_left, exists_and_left, List.map_cons, List.map_nil, List.replicate, List.cons_append, List.nil_append, and_true, true_and, if_true, Nat.sub_self, ite_true, List.length_cons, List.length_nil, Nat.zero_add, Nat.reduceAdd, Nat.reduceSub, List.length_set, isi at_ (t := .str) (by decide), at0]
    simp
    exact hh
  rintro ⟨rfl, k1⟩
  refine es_cut (fun ρ1 h1 => ρ1 = [some v0, some .non, some (.str dueN), none] ∧ HI e b h1) ?_ fun ρ1 h2 => ?_
  · simp only [en_bind, en_ok, en_bad, en_lift, en_var, en_c, en_bin, en_un, en_test, en_chain, en_andT, en_orT, en_notT, en_and, en_or, en_not, en_if, en_nil, en_cons, en_tup, en_list, en_pureL, en_newL, en_fn, en_call, en_callK, en_methS, en_oN, en_oS, en_sl, en_rng1, en_iter, en_lc, es_seq, es_skip, es_ret, es_retN, es_if, es_asg, es_par2, es_for, eg_name, eg_nil, eg_cons, eg_tup, eg_sub, es_drop, es_bad, es_try0, en_listOf, en_methO, es_setL1, es_setL0, en_set0, en_fmt, en_joinN, en_joinC, en_enum, en_sortS, en_split, en_rng2, vIxA_t, vIxA_l, vIxA_s, vLenA_s, vLenA_t, vLenA_l, vMulA_ii, vAdd_ii, vAdd_ss, vAdd_ll, vSub_ii, vMul_ii, vDiv_ii, vMod_ii, vLt_ii, vLe_ii, vGt_ii, vGe_ii, vEq_ii, vEq_ss, vNe_ii, vNe_ss, vIx_t, vIx_l, vIx_s, vIx_r, vLen_s, vLen_t, vLen_l, vLen_r, List.getElem?_cons_zero, List.getElem?_cons_succ, List.set_cons_zero, List.set_cons_succ, Option.some.injEq, AV.int.injEq, AV.bl.injEq, AV.str.injEq, AV.ref.injEq, AV.tup.injEq, AV.lst.injEq, AO.list.injEq, List.cons.injEq, exists_eq_left', exists_eq_left, exists_and_left, List.map_cons, List.map_nil, List.replicate, List.cons_append, List.nil_append, and_true, true_and, if_true, Nat.sub_self, ite_true, List.length_cons, List.length_nil, Nat.zero_add, Nat.reduceAdd, Nat.reduceSub, List.length_set, nn, dueN_ok]
    exact ⟨rfl, _, dueN_ok h1, rfl, k1⟩
  rintro ⟨rfl, k2⟩
  simp only [en_bind, en_ok, en_bad, en_lift, en_var, en_c, en_bin, en_un, en_test, en_chain, en_andT, en_orT, en_notT, en_and, en_or, en_not, en_if, en_nil, en_cons, en_tup, en_list, en_pureL, en_newL, en_fn, en_call, en_callK, en_methS, en_oN, en_oS, en_sl, en_rng1, en_iter, en_lc, es_seq, es_skip, es_ret, es_retN, es_if, es_asg, es_par2, es_for, eg_name, eg_nil, eg_cons, eg_tup, eg_sub, es_drop, es_bad, es_try0, en_listOf, en_methO, es_setL1, es_setL0, en_set0, en_fmt, en_joinN, en_joinC, en_enum, en_sortS, en_split, en_rng2, vIxA_t, vIxA_l, vIxA_s, vLenA_s, vLenA_t, vLenA_l, vMulA_ii, vAdd_ii, vAdd_ss, vAdd_ll, vSub_ii, vMul_ii, vDiv_ii, vMod_ii, vLt_ii, vLe_ii, vGt_ii, vGe_ii, vEq_ii, vEq_ss, vNe_ii, vNe_ss, vIx_t, vIx_l, vIx_s, vIx_r, vLen_s, vLen_t, vLen_l, vLen_r, List.getElem?_cons_zero, List.getElem?_cons_succ, List.set_cons_zero, List.set_cons_succ, Option.some.injEq, AV.int.injEq, AV.bl.injEq, AV.str.injEq, AV.ref.injEq, AV.tup.injEq, AV.lst.injEq, AO.list.injEq, List.cons.injEq, exists_eq_left', exists_eq_left, exists_and_left, List.map_cons, List.map_nil, List.replicate, List.cons_append, List.nil_append, and_true, true_and, if_true, Nat.sub_self, ite_true, List.length_cons, List.length_nil, Nat.zero_add, Nat.reduceAdd, Nat.reduceSub, List.length_set]
  refine ⟨rfl, _, rfl, rfl, ?_⟩
  refine en_lcL (fun h' => HI e b h') (fun y => y = .str dueN) ?_ k2 ?_
  · rintro v hv h5 hh5
    have : ∃ n, v = .bl n := by
      simp only [List.mem_cons, List.not_mem_nil, or_false] at hv
      rcases hv with rfl | rfl | rfl <;> exact ⟨_, rfl⟩
    obtain ⟨n, rfl⟩ := this
    refine ⟨_, rfl, ?_⟩
    simp only [en_bind, en_ok, en_bad, en_lift, en_var, en_c, en_bin, en_un, en_test, en_chain, en_andT, en_orT, en_notT, en_and, en_or, en_not, en_if, en_nil, en_cons, en_tup, en_list, en_pureL, en_newL, en_fn, en_call, en_callK, en_methS, en_oN, en_oS, en_sl, en_rng1, en_iter, en_lc, es_seq, es_skip, es_ret, es_retN, es_if, es_asg, es_par2, es_for, eg_name, eg_nil, eg_cons, eg_tup, eg_sub, es_drop, es_bad, es_try0, en_listOf, en_methO, es_setL1, es_setL0, en_set0, en_fmt, en_joinN, en_joinC, en_enum, en_sortS, en_split, en_rng2, vIxA_t, vIxA_l, vIxA_s, vLenA_s, vLenA_t, vLenA_l, vMulA_ii, vAdd_ii, vAdd_ss, vAdd_ll, vSub_ii, vMul_ii, vDiv_ii, vMod_ii, vLt_ii, vLe_ii, vGt_ii, vGe_ii, vEq_ii, vEq_ss, vNe_ii, vNe_ss, vIx_t, vIx_l, vIx_s, vIx_r, vLen_s, vLen_t, vLen_l, vLen_r, List.getElem?_cons_zero, List.getElem?_cons_succ, List.set_cons_zero, List.set_cons_succ, Option.some.injEq, AV.int.injEq, AV.bl.injEq, AV.str.injEq, AV.ref.injEq, AV.tup.injEq, AV.lst.injEq, AO.list.injEq, List.cons.injEq, exists_eq_left', exists_eq_left, exists_and_left, List.map_cons, List.map_nil, List.replicate, List.cons_append, List.nil_append, and_true, true_and, if_true, Nat.sub_self, ite_true, List.length_cons, List.length_nil, Nat.zero_add, Nat.reduceAdd, Nat.reduceSub, List.length_set, wipeA, List.foldl]
    exact told_0 hh5 hc hx at_ ht
  · rintro ys h5 hl hy hh5
    have : ys = [.str dueN, .str dueN, .str dueN] := by
      match ys, hl, hy with
      | [p, q, r], _, hy => rw [hy p (by simp), hy q (by simp), hy r (by simp)]
    subst this
    exact ⟨rfl, _, m3 h5, _, eq_strs (l := [dueN, dueN, dueN]), [], by simpa using hh5, _, .pure rfl, fun h2 k2 => ⟨rfl, k2⟩⟩
end
end AIL
namespace AIL
open PySem PySem.Spec PyProof.Rows L2 AI
section
variable {e : AHeap} {b : Nat}
theorem lwritten_l {h : AHeap} {cs : List Cl} (hh : HI e b h) (hc : e.all (AO.closed 0) = true) (ok : OKc cs) :
    Ens (m__law_written [.lst (cs.map clv)] h) fun v h' => v = .str (wr cs) ∧ HI e b h' := by
  have hok := ok
  obtain ⟨hl, names, hn, hv, hG⟩ := ok
  refine en_defH rfl hc hh ?_
  simp only [en_bind, en_ok, en_bad, en_lift, en_var, en_c, en_bin, en_un, en_test, en_chain, en_andT, en_orT, en_notT, en_and, en_or, en_not, en_if, en_nil, en_cons, en_tup, en_list, en_pureL, en_newL, en_fn, en_call, en_callK, en_methS, en_oN, en_oS, en_sl, en_rng1, en_iter, en_lc, es_seq, es_skip, es_ret, es_retN, es_if, es_asg, es_par2, es_for, eg_name, eg_nil, eg_cons, eg_tup, eg_sub, es_drop, es_bad, es_try0, en_listOf, en_methO, es_setL1, es_setL0, en_set0, en_fmt, en_joinN, en_joinC, en_enum, en_sortS, en_split, en_rng2, vIxA_t, vIxA_l, vIxA_s, vLenA_s, vLenA_t, vLenA_l, vMulA_ii, vAdd_ii, vAdd_ss, vAdd_ll, vSub_ii, vMul_ii, vDiv_ii, vMod_ii, vLt_ii, vLe_ii, vGt_ii, vGe_ii, vEq_ii, vEq_ss, vNe_ii, vNe_ss, vIx_t, vIx_l, vIx_s, vIx_r, vLen_s, vLen_t, vLen_l, vLen_r, List.getElem?_cons_zero, List.getElem?_cons_succ, List.set_cons_zero, List.set_cons_succ, Option.some.injEq, AV.int.injEq, AV.bl.injEq, AV.str.injEq, AV.ref.injEq, AV.tup.injEq, AV.lst.injEq, AO.list.injEq, List.cons.injEq, exists_eq_left', exists_eq_left, exists_and_left, List.map_cons, List.map_nil, List.replicate, List.cons_append, List.nil_append, and_true, true_and, if_true, Nat.sub_self, ite_true, List.length_cons, List.length_nil, Nat.zero_add, Nat.reduceAdd, Nat.reduceSub, List.length_set]
  refine ⟨cs.map clv, rfl, szOk_le (by rw [List.length_map]; omega), ?_⟩
  refine en_lcR (fun h' => HI e b h') (fun v y => ∃ c, v = clv c ∧ y = AV.str (txt c)) ?_ hh ?_
  · rintro v hv' h5 hh5
    obtain ⟨c, hcc, rfl⟩ := List.mem_map.mp hv'
    obtain ⟨h1, h2, h3⟩ := gd_len hv (hG c hcc)
    refine ⟨_, rfl, ?_⟩
    simp only [en_bind, en_ok, en_bad, en_lift, en_var, en_c, en_bin, en_un, en_test, en_chain, en_andT, en_orT, en_notT, en_and, en_or, en_not, en_if, en_nil, en_cons, en_tup, en_list, en_pureL, en_newL, en_fn, en_call, en_callK, en_methS, en_oN, en_oS, en_sl, en_rng1, en_iter, en_lc, es_seq, es_skip, es_ret, es_retN, es_if, es_asg, es_par2, es_for, eg_name, eg_nil, eg_cons, eg_tup, eg_sub, es_drop, es_bad, es_try0, en_listOf, en_methO, es_setL1, es_setL0, en_set0, en_fmt, en_joinN, en_joinC, en_enum, en_sortS, en_split, en_rng2, vIxA_t, vIxA_l, vIxA_s, vLenA_s, vLenA_t, vLenA_l, vMulA_ii, vAdd_ii, vAdd_ss, vAdd_ll, vSub_ii, vMul_ii, vDiv_ii, vMod_ii, vLt_ii, vLe_ii, vGt_ii, vGe_ii, vEq_ii, vEq_ss, vNe_ii, vNe_ss, vIx_t, vIx_l, vIx_s, vIx_r, vLen_s, vLen_t, vLen_l, vLen_r, List.getElem?_cons_zero, List.getElem?_cons_succ, List.set_cons_zero, List.set_cons_succ, Option.some.injEq, AV.int.injEq, AV.bl.injEq, AV.str.injEq, AV.ref.injEq, AV.tup.injEq, AV.lst.injEq, AO.list.injEq, List.cons.injEq, exists_eq_left', exists_eq_left, exists_and_left, List.map_cons, List.map_nil, List.replicate, List.cons_append, List.nil_append, and_true, true_and, if_true, Nat.sub_self, ite_true, List.length_cons, List.length_nil, Nat.zero_add, Nat.reduceAdd, Nat.reduceSub, List.length_set, wipeA, List.foldl]
    have j : vJoin [32] h5 [.tup ([c.1, c.2.1, c.2.2].map AV.str)] = some (.str (TL.joinL [32] [c.1, c.2.1, c.2.2])) := by
      exact join_all (h := h5) (sep := [32]) (l := [c.1, c.2.1, c.2.2]) (by simp; omega)
    refine ⟨_, j, ⟨c, rfl, by rw [txt_join]⟩, hh5⟩
  · rintro ys h5 hY hh5
    have := paired_txt hY
    subst this
    have ws := wr_sum hok
    refine ⟨_, join_all (by rw [List.length_map]; simp only [List.length_cons, List.length_nil]; omega), [], by simpa using hh5, _, .pure rfl, fun h2 k2 => ⟨rfl, k2⟩⟩
theorem drawn40 {v : AV} (d : Drawn 40 v) : ∃ cs, v = .lst (cs.map clv) ∧ OKc cs ∧ (wr cs).length ≤ 1000 := by
  obtain ⟨names, cs, hn, hv, rfl, hl, hG⟩ := d
  refine ⟨cs, rfl, ⟨by omega, names, hn, hv, hG⟩, ?_⟩
  have := sum_le (k := 18) (l := cs.map txt) fun s hs => by
    obtain ⟨c, hc, rfl⟩ := List.mem_map.mp hs
    exact (txt_len hv (hG c hc)).2
  have h2 := joinL_len [44, 32] (cs.map txt)
  unfold wr
  simp only [List.length_map, List.length_cons, List.length_nil] at h2 this
  omega
theorem vAdd_s2 {h : AHeap} {s t : List Nat} (hl : s.length + t.length ≤ 10000) : vAdd h (.str s) (.str t) = some (.str (s ++ t)) := by
  rw [vAdd_ss, if_pos (szK hl)]
theorem bent_spec {h : AHeap} {n : Nat} {s : List Nat} (hh : HI e b h) (hc : e.all (AO.closed 0) = true) (hn : n < b) (hs : s.length ≤ 1000) :
    Ens (m__law_bent [.ref n, .str s] h) fun v h' => (∃ t, v = .str t ∧ t.length ≤ 4000) ∧ HI e b h' := by
  refine en_defH rfl hc hh ?_
  have ls : ∀ h, vLenA h [.str s] = some (.int s.length) := fun h => by rw [vLenA_s, if_pos (szK (by omega))]
  have out : ∀ (t : List Nat) (h1 : AHeap), t.length ≤ 4000 → HI e b h1 → ∃ e' w, HI (e ++ e') b h1 ∧ Sees h1 h.length (.str t) w ∧ ∀ h2, HI e b h2 → (∃ t, w = .str t ∧ t.length ≤ 4000) ∧ HI e b h2 :=
    fun t h1 ht k => ⟨[], _, by simpa using k, .pure rfl, fun h2 k2 => ⟨⟨t, rfl, ht⟩, k2⟩⟩
  have ou2 : ∀ (t : List Nat) (h1 : AHeap), t.length ≤ 4000 → HI e b h1 → ∃ e', HI (e ++ e') b h1 ∧ ∃ w, Sees h1 h.length (.str t) w ∧ ∀ h2, HI e b h2 → (∃ t, w = .str t ∧ t.length ≤ 4000) ∧ HI e b h2 :=
    fun t h1 ht k => ⟨[], by simpa using k, _, .pure rfl, fun h2 k2 => ⟨⟨t, rfl, ht⟩, k2⟩⟩
  have sl : ∀ {h : AHeap} {lo hi : Option Int}, vSl h (AV.str s) lo hi = some (AV.str (AI.cutL s lo hi)) := fun {h lo hi} => vSl_s (by omega)
  have cl1 : ∀ lo hi, (AI.cutL s lo hi).length ≤ 1000 := fun lo hi => Nat.le_trans cut_len hs
  refine es_cut (fun ρ1 h1 => (∃ a w : Int, ρ1 = [some (.ref n), some (.str s), some (.int a), some (.int w), none, none, none] ∧ 0 ≤ a ∧ a ≤ s.length) ∧ HI e b h1) ?_ fun ρ1 h1 => ?_
  · simp only [en_bind, en_ok, en_bad, en_lift, en_var, en_c, en_bin, en_un, en_test, en_chain, en_andT, en_orT, en_notT, en_and, en_or, en_not, en_if, en_nil, en_cons, en_tup, en_list, en_pureL, en_newL, en_fn, en_call, en_callK, en_methS, en_oN, en_oS, en_sl, en_rng1, en_iter, en_lc, es_seq, es_skip, es_ret, es_retN, es_if, es_asg, es_par2, es_for, eg_name, eg_nil, eg_cons, eg_tup, eg_sub, es_drop, es_bad, es_try0, en_listOf, en_methO, es_setL1, es_setL0, en_set0, en_fmt, en_joinN, en_joinC, en_enum, en_sortS, en_split, en_rng2, vIxA_t, vIxA_l, vIxA_s, vLenA_s, vLenA_t, vLenA_l, vMulA_ii, vAdd_ii, vAdd_ss, vAdd_ll, vSub_ii, vMul_ii, vDiv_ii, vMod_ii, vLt_ii, vLe_ii, vGt_ii, vGe_ii, vEq_ii, vEq_ss, vNe_ii, vNe_ss, vIx_t, vIx_l, vIx_s, vIx_r, vLen_s, vLen_t, vLen_l, vLen_r, List.getElem?_cons_zero, List.getElem?_cons_succ, List.set_cons_zero, List.set_cons_succ, Option.some.injEq, AV.int.injEq, AV.bl.injEq, AV.str.injEq, AV.ref.injEq, AV.tup.injEq, AV.lst.injEq, AO.list.injEq, List.cons.injEq, exists_eq_left', exists_eq_left, exists_and_left, List.map_cons, List.map_nil, List.replicate, List.cons_append, List.nil_append, and_true, true_and, if_true, Nat.sub_self, ite_true, List.length_cons, List.length_nil, Nat.zero_add, Nat.reduceAdd, Nat.reduceSub, List.length_set, ls]
    refine (draw_spec hh hn (by omega) (by omega)).mono ?_
    rintro v h1 ⟨⟨a, rfl, a0, a1⟩, k1⟩
    refine (draw_spec k1 hn (by omega) (by omega)).mono ?_
    rintro v h2 ⟨⟨w, rfl, w0, w1⟩, k2⟩
    exact ⟨_, _, ⟨rfl, rfl⟩, ⟨_, _, ⟨rfl, rfl⟩, a0, by omega⟩, k2⟩
  rintro ⟨⟨a, w, rfl, a0, a1⟩, k1⟩
  refine es_cut (fun ρ1 h1 => (∃ q : Int, ρ1 = [some (.ref n), some (.str s), some (.int a), some (.int w), some (.int q), none, none]) ∧ HI e b h1) ?_ fun ρ1 h2 => ?_
  · simp only [en_bind, en_ok, en_bad, en_lift, en_var, en_c, en_bin, en_un, en_test, en_chain, en_andT, en_orT, en_notT, en_and, en_or, en_not, en_if, en_nil, en_cons, en_tup, en_list, en_pureL, en_newL, en_fn, en_call, en_callK, en_methS, en_oN, en_oS, en_sl, en_rng1, en_iter, en_lc, es_seq, es_skip, es_ret, es_retN, es_if, es_asg, es_par2, es_for, eg_name, eg_nil, eg_cons, eg_tup, eg_sub, es_drop, es_bad, es_try0, en_listOf, en_methO, es_setL1, es_setL0, en_set0, en_fmt, en_joinN, en_joinC, en_enum, en_sortS, en_split, en_rng2, vIxA_t, vIxA_l, vIxA_s, vLenA_s, vLenA_t, vLenA_l, vMulA_ii, vAdd_ii, vAdd_ss, vAdd_ll, vSub_ii, vMul_ii, vDiv_ii, vMod_ii, vLt_ii, vLe_ii, vGt_ii, vGe_ii, vEq_ii, vEq_ss, vNe_ii, vNe_ss, vIx_t, vIx_l, vIx_s, vIx_r, vLen_s, vLen_t, vLen_l, vLen_r, List.getElem?_cons_zero, List.getElem?_cons_succ, List.set_cons_zero, List.set_cons_succ, Option.some.injEq, AV.int.injEq, AV.bl.injEq, AV.str.injEq, AV.ref.injEq, AV.tup.injEq, AV.lst.injEq, AO.list.injEq, List.cons.injEq, exists_eq_left', exists_eq_left, exists_and_left, List.map_cons, List.map_nil, List.replicate, List.cons_append, List.nil_append, and_true, true_and, if_true, Nat.sub_self, ite_true, List.length_cons, List.length_nil, Nat.zero_add, Nat.reduceAdd, Nat.reduceSub, List.length_set, ls]
    refine (draw_spec k1 hn (by omega) (by omega)).mono ?_
    rintro v h1 ⟨⟨q, rfl, q0, q1⟩, k2⟩
    exact ⟨_, vAdd_ii, ⟨_, rfl⟩, k2⟩
  rintro ⟨⟨q, rfl⟩, k2⟩
  refine es_cut (fun ρ1 h1 => ρ1 = [some (.ref n), some (.str s), some (.int a), some (.int w), some (.int q), some (.str [32, 39, 44, 60, 61, 62, 120, 65, 49, 10]), none] ∧ HI e b h1) ?_ fun ρ1 h3 => ?_
  · simp only [en_bind, en_ok, en_bad, en_lift, en_var, en_c, en_bin, en_un, en_test, en_chain, en_andT, en_orT, en_notT, en_and, en_or, en_not, en_if, en_nil, en_cons, en_tup, en_list, en_pureL, en_newL, en_fn, en_call, en_callK, en_methS, en_oN, en_oS, en_sl, en_rng1, en_iter, en_lc, es_seq, es_skip, es_ret, es_retN, es_if, es_asg, es_par2, es_for, eg_name, eg_nil, eg_cons, eg_tup, eg_sub, es_drop, es_bad, es_try0, en_listOf, en_methO, es_setL1, es_setL0, en_set0, en_fmt, en_joinN, en_joinC, en_enum, en_sortS, en_split, en_rng2, vIxA_t, vIxA_l, vIxA_s, vLenA_s, vLenA_t, vLenA_l, vMulA_ii, vAdd_ii, vAdd_ss, vAdd_ll, vSub_ii, vMul_ii, vDiv_ii, vMod_ii, vLt_ii, vLe_ii, vGt_ii, vGe_ii, vEq_ii, vEq_ss, vNe_ii, vNe_ss, vIx_t, vIx_l, vIx_s, vIx_r, vLen_s, vLen_t, vLen_l, vLen_r, List.getElem?_cons_zero, List.getElem?_cons_succ, List.set_cons_zero, List.set_cons_succ, Option.some.injEq, AV.int.injEq, AV.bl.injEq, AV.str.injEq, AV.ref.injEq, AV.tup.injEq, AV.lst.injEq, AO.list.injEq, List.cons.injEq, exists_eq_left', exists_eq_left, exists_and_left, List.map_cons, List.map_nil, List.replicate, List.cons_append, List.nil_append, and_true, true_and, if_true, Nat.sub_self, ite_true, List.length_cons, List.length_nil, Nat.zero_add, Nat.reduceAdd, Nat.reduceSub, List.length_set]
    first | exact ⟨rfl, k2⟩ | exact k2
  rintro ⟨rfl, k3⟩
  refine es_cut (fun ρ1 h1 => (∃ c : Nat, ρ1 = [some (.ref n), some (.str s), some (.int a), some (.int w), some (.int q), some (.str [32, 39, 44, 60, 61, 62, 120, 65, 49, 10]), some (.str [c])]) ∧ HI e b h1) ?_ fun ρ1 h4 => ?_
  · have l10 : ∀ h, vLenA h [.str [32, 39, 44, 60, 61, 62, 120, 65, 49, 10]] = some (.int 10) := fun h => rfl
    simp only [en_bind, en_ok, en_bad, en_lift, en_var, en_c, en_bin, en_un, en_test, en_chain, en_andT, en_orT, en_notT, en_and, en_or, en_not, en_if, en_nil, en_cons, en_tup, en_list, en_pureL, en_newL, en_fn, en_call, en_callK, en_methS, en_oN, en_oS, en_sl, en_rng1, en_iter, en_lc, es_seq, es_skip, es_ret, es_retN, es_if, es_asg, es_par2, es_for, eg_name, eg_nil, eg_cons, eg_tup, eg_sub, vAdd_ii, vAdd_ss, vAdd_ll, vSub_ii, vMul_ii, vDiv_ii, vMod_ii, vLt_ii, vLe_ii, vGt_ii, vGe_ii, vEq_ii, vEq_ss, vNe_ii, vNe_ss, vIx_t, vIx_l, vIx_s, vIx_r, vLen_s, vLen_t, vLen_l, vLen_r, List.getElem?_cons_zero, List.getElem?_cons_succ, List.set_cons_zero, List.set_cons_succ, Option.some.injEq, AV.int.injEq, AV.bl.injEq, AV.str.injEq, AV.ref.injEq, AV.tup.injEq, AV.lst.injEq, AO.list.injEq, List.cons.injEq, exists_eq_left', exists_eq_left, exists_and_left, List.map_cons, List.map_nil, List.replicate, List.cons_append, List.nil_append, and_true, true_and, if_true, Nat.sub_self, ite_true, List.length_cons, List.length_nil, Nat.zero_add, Nat.reduceAdd, Nat.reduceSub, List.length_set, l10, es_drop, en_methO]
    refine (draw_spec k3 hn (by omega) (by omega)).mono ?_
    rintro v h1 ⟨⟨i, rfl, i0, i1⟩, k4⟩
    obtain ⟨c, ec, _⟩ := atI_nat' (l := [32, 39, 44, 60, 61, 62, 120, 65, 49, 10]) i0 (by simpa using i1)
    refine ⟨_, by rw [vIxA_s, if_pos (szK (by decide)), ec]; rfl, ⟨_, rfl⟩, k4⟩
  rintro ⟨⟨c, rfl⟩, k4⟩
  have z1 := cl1 none (some a)
  have z2 := cl1 (some (a + w)) none
  have z3 := cl1 (some (a + 1)) none
  have z4 := cl1 (some a) (some (a + 1))
  have z5 := cl1 (some a) none
  have z6 := cl1 (some q) none
  have z7 := cl1 none (some q)
  simp only [en_bind, en_ok, en_bad, en_lift, en_var, en_c, en_bin, en_un, en_test, en_chain, en_andT, en_orT, en_notT, en_and, en_or, en_not, en_if, en_nil, en_cons, en_tup, en_list, en_pureL, en_newL, en_fn, en_call, en_callK, en_methS, en_oN, en_oS, en_sl, en_rng1, en_iter, en_lc, es_seq, es_skip, es_ret, es_retN, es_if, es_asg, es_par2, es_for, eg_name, eg_nil, eg_cons, eg_tup, eg_sub, es_drop, es_bad, es_try0, en_listOf, en_methO, es_setL1, es_setL0, en_set0, en_fmt, en_joinN, en_joinC, en_enum, en_sortS, en_split, en_rng2, vIxA_t, vIxA_l, vIxA_s, vLenA_s, vLenA_t, vLenA_l, vMulA_ii, vAdd_ii, vAdd_ss, vAdd_ll, vSub_ii, vMul_ii, vDiv_ii, vMod_ii, vLt_ii, vLe_ii, vGt_ii, vGe_ii, vEq_ii, vEq_ss, vNe_ii, vNe_ss, vIx_t, vIx_l, vIx_s, vIx_r, vLen_s, vLen_t, vLen_l, vLen_r, List.getElem?_cons_zero, List.getElem?_cons_succ, List.set_cons_zero, List.set_cons_succ, Option.some.injEq, AV.int.injEq, AV.bl.injEq, AV.str.injEq, AV.ref.injEq, AV.tup.injEq, AV.lst.injEq, AO.list.injEq, List.cons.injEq, exists_eq_left', exists_eq_left, exists_and_left, List.map_cons, List.map_nil, List.replicate, List.cons_append, List.nil_append, and_true, true_and, if_true, Nat.sub_self, ite_true, List.length_cons, List.length_nil, Nat.zero_add, Nat.reduceAdd, Nat.reduceSub, List.length_set, sl]
  by_cases w2 : w < 2
  · rw [if_pos (by simpa using w2)]
    refine ⟨_, if_pos (szK (by first | omega | (simp; omega))), _, vAdd_s2 (by simp only [List.length_append, List.length_singleton]; omega), ?_⟩
    first | exact out _ _ (by simp only [List.length_append, List.length_singleton]; omega) k4 | exact ou2 _ _ (by simp only [List.length_append, List.length_singleton]; omega) k4
  · rw [if_neg (by simpa using w2)]
    by_cases w3 : w = 2
    · rw [if_pos (by simpa using w3)]
      refine ⟨_, if_pos (szK (by omega)), ?_⟩
      first | exact out _ _ (by simp only [List.length_append]; omega) k4 | exact ou2 _ _ (by simp only [List.length_append]; omega) k4
    · rw [if_neg (by simpa using w3)]
      by_cases w4 : w = 3
      · rw [if_pos (by simpa using w4)]
        refine ⟨_, if_pos (szK (by omega)), _, vAdd_s2 (by simp only [List.length_append]; omega), ?_⟩
        first | exact out _ _ (by simp only [List.length_append]; omega) k4 | exact ou2 _ _ (by simp only [List.length_append]; omega) k4
      · rw [if_neg (by simpa using w4)]
        by_cases w5 : w = 4
        · rw [if_pos (by simpa using w5)]
          refine ⟨_, if_pos (szK (by omega)), ?_⟩
          first | exact out _ _ (by simp only [List.length_append]; omega) k4 | exact ou2 _ _ (by simp only [List.length_append]; omega) k4
        · rw [if_neg (by simpa using w5)]
          refine ⟨_, if_pos (szK (by omega)), ?_⟩
          first | exact out _ _ (by simp only [List.length_append]; omega) k4 | exact ou2 _ _ (by simp only [List.length_append]; omega) k4
end
end AIL
namespace AIL
open PySem PySem.Spec PyProof.Rows L2 AI
def HP0 : List AV := [.str [120, 60, 121], .str [120, 32, 60, 121], .str [120, 32, 32, 60, 32, 121], .str [32, 120, 32, 60, 32, 121], .str [120, 32, 60, 32, 121, 32], .str [120, 32, 60, 32, 121, 44], .str [120, 32, 60, 32, 121, 44, 32], .str [120, 32, 60, 32, 121, 44, 121, 32, 60, 32, 122], .str [120, 32, 60, 32, 121, 32, 44, 32, 121, 32, 60, 32, 122], .str [44, 32, 120, 32, 60, 32, 121]]
def HP1 : List AV := [.str [120, 32, 60, 32, 121, 44, 32, 32, 121, 32, 60, 32, 122], .str [120, 32, 60, 32, 121, 10], .str [120, 10, 60, 32, 121], .str [120, 32, 62, 32, 121], .str [120, 32, 61, 61, 32, 121], .str [120, 32, 61, 62, 32, 121], .str [120, 32, 33, 61, 32, 121], .str [120, 32, 61, 60, 32, 121], .str [120, 32, 60, 32, 121, 32, 60, 32, 122]]
def HP2 : List AV := [.str [88, 32, 60, 32, 121], .str [120, 49, 32, 60, 32, 121], .str [97, 98, 99, 100, 101, 102, 103, 32, 60, 32, 121], .str [97, 98, 99, 100, 101, 102, 39, 32, 60, 32, 121], .str [120, 39, 39, 32, 60, 32, 121], .str [39, 120, 32, 60, 32, 121], .str [120, 39, 32, 60, 32, 121, 39], .str [120, 32, 60, 32, 49]]
def HP3 : List AV := [.str [120, 32, 60], .str [60, 32, 121], .str [120], .str [120, 32, 121], .str [32], .str [44], .str [44, 32], .str [40, 41], .str [120, 32, 60, 32, 121, 59, 32, 121, 32, 60, 32, 122], .str [120, 32, 60, 32, 121, 44, 32, 120, 32, 60, 32, 121], .str [120, 32, 60, 61, 32, 121]]
def HP4 : List AV := [.str [120, 32, 61, 32, 121], .str [120, 60, 61, 32, 121], .str []]
def HP5 : List AV := [.str [107, 32, 60, 61, 32, 97, 44, 32, 97, 32, 60, 61, 32, 98, 44, 32, 98, 32, 60, 61, 32, 99, 44, 32, 99, 32, 60, 61, 32, 100, 44, 32, 100, 32, 60, 61, 32, 101, 44, 32, 101, 32, 60, 61, 32, 102, 44, 32, 102, 32, 60, 61, 32, 103, 44, 32, 103, 32, 60, 61, 32, 104, 44, 32, 104, 32, 60, 61, 32, 105, 44, 32, 105, 32, 60, 61, 32, 106, 44, 32, 106, 32, 60, 61, 32, 107], .str [97, 32, 60, 61, 32, 98, 44, 32, 98, 32, 60, 61, 32, 99, 44, 32, 99, 32, 60, 61, 32, 100, 44, 32, 100, 32, 60, 61, 32, 101, 44, 32, 101, 32, 60, 61, 32, 102, 44, 32, 102, 32, 60, 61, 32, 103, 44, 32, 103, 32, 60, 61, 32, 104, 44, 32, 104, 32, 60, 61, 32, 105, 44, 32, 105, 32, 60, 61, 32, 106, 44, 32, 106, 32, 60, 61, 32, 107], .str [97, 32, 60, 61, 32, 98, 44, 32, 98, 32, 60, 61, 32, 99, 44, 32, 99, 32, 60, 61, 32, 100, 44, 32, 100, 32, 60, 61, 32, 101, 44, 32, 101, 32, 60, 61, 32, 102, 44, 32, 102, 32, 60, 61, 32, 103, 44, 32, 103, 32, 60, 61, 32, 104, 44, 32, 104, 32, 60, 61, 32, 105, 44, 32, 105, 32, 60, 61, 32, 106], .str [120, 32, 60, 32, 121, 44, 32, 120, 32, 60, 32, 121, 44, 32, 120, 32, 60, 32, 121, 44, 32, 120, 32, 60, 32, 121, 44, 32, 120, 32, 60, 32, 121, 44, 32, 120, 32, 60, 32, 121, 44, 32, 120, 32, 60, 32, 121, 44, 32, 120, 32, 60, 32, 121, 44, 32, 120, 32, 60, 32, 121, 44, 32, 120, 32, 60, 32, 121, 44, 32, 120, 32, 60, 32, 121, 44, 32, 120, 32, 60, 32, 121, 44, 32, 120, 32, 60, 32, 121, 44, 32, 120, 32, 60, 32, 121, 44, 32, 120, 32, 60, 32, 121, 44, 32, 120, 32, 60, 32, 121, 44, 32, 120, 32, 60, 32, 121, 44, 32, 120, 32, 60, 32, 121, 44, 32, 120, 32, 60, 32, 121, 44, 32, 120, 32, 60, 32, 121, 44, 32, 120, 32, 60, 32, 121, 44, 32, 120, 32, 60, 32, 121, 44, 32, 120, 32, 60, 32, 121, 44, 32, 120, 32, 60, 32, 121, 44, 32, 120, 32, 60, 32, 121, 44, 32, 120, 32, 60, 32, 121, 44, 32, 120, 32, 60, 32, 121, 44, 32, 120, 32, 60, 32, 121, 44, 32, 120, 32, 60, 32, 121, 44, 32, 120, 32, 60, 32, 121, 44, 32, 120, 32, 60, 32, 121, 44, 32, 120, 32, 60, 32, 121, 44, 32, 120, 32, 60, 32, 121, 44, 32, 120, 32, 60, 32, 121, 44, 32, 120, 32, 60, 32, 121, 44, 32, 120, 32, 60, 32, 121, 44, 32, 120, 32, 60, 32, 121, 44, 32, 120, 32, 60, 32, 121, 44, 32, 120, 32, 60, 32, 121, 44, 32, 120, 32, 60, 32, 121, 44, 32, 120, 32, 60, 32, 121, 44, 32, 120, 32, 60, 32, 121, 44, 32, 120, 32, 60, 32, 121, 44, 32, 120, 32, 60, 32, 121, 44, 32, 120, 32, 60, 32, 121, 44, 32, 120, 32, 60, 32, 121, 44, 32, 120, 32, 60, 32, 121, 44, 32, 120, 32, 60, 32, 121, 44, 32, 120, 32, 60, 32, 121, 44, 32, 120, 32, 60, 32, 121, 44, 32, 120, 32, 60, 32, 121, 44, 32, 120, 32, 60, 32, 121, 44, 32, 120, 32, 60, 32, 121, 44, 32, 120, 32, 60, 32, 121, 44, 32, 120, 32, 60, 32, 121, 44, 32, 120, 32, 60, 32, 121, 44, 32, 120, 32, 60, 32, 121, 44, 32, 120, 32, 60, 32, 121, 44, 32, 120, 32, 60, 32, 121, 44, 32, 120, 32, 60, 32, 121, 44, 32, 120, 32, 60, 32, 121, 44, 32, 120, 32, 60, 32, 121, 44, 32, 120, 32, 60, 32, 121, 44, 32, 120, 32, 60, 32, 121, 44, 32, 120, 32, 60, 32, 121, 44, 32, 120, 32, 60, 32, 121, 44, 32, 120, 32, 60, 32, 121, 44, 32, 120, 32, 60, 32, 121, 44, 32, 120, 32, 60, 32, 121, 44, 32, 120, 32, 60, 32, 121, 44, 32, 120, 32, 60, 32, 121, 44, 32, 120, 32, 60, 32, 121, 44, 32, 120, 32, 60, 32, 121, 44, 32, 120, 32, 60, 32, 121, 44, 32, 120, 32, 60, 32, 121, 44, 32, 120, 32, 60, 32, 121, 44, 32, 120, 32, 60, 32, 121, 44, 32, 120, 32, 60, 32, 121, 44, 32, 120, 32, 60, 32, 121, 44, 32, 120, 32, 60, 32, 121, 44, 32, 120, 32, 60, 32, 121, 44, 32, 120, 32, 60, 32, 121, 44, 32, 120, 32, 60, 32, 121, 44, 32, 120, 32, 60, 32, 121, 44, 32, 120, 32, 60, 32, 121, 44, 32, 120, 32, 60, 32, 121, 44, 32, 120, 32, 60, 32, 121, 44, 32, 120, 32, 60, 32, 121, 44, 32, 120, 32, 60, 32, 121, 44, 32, 120, 32, 60, 32, 121, 44, 32, 120, 32, 60, 32, 121, 44, 32, 120, 32, 60, 32, 121, 44, 32, 120, 32, 60, 32, 121, 44, 32, 120, 32, 60, 32, 121, 44, 32, 120, 32, 60, 32, 121, 44, 32, 120, 32, 60, 32, 121, 44, 32, 120, 32, 60, 32, 121, 44, 32, 120, 32, 60, 32, 121, 44, 32, 120, 32, 60, 32, 121, 44, 32, 120, 32, 60, 32, 121]]
def HP6 : List AV := [.str [120, 32, 60, 32, 121, 44, 32, 120, 32, 60, 32, 121, 44, 32, 120, 32, 60, 32, 121, 44, 32, 120, 32, 60, 32, 121, 44, 32, 120, 32, 60, 32, 121, 44, 32, 120, 32, 60, 32, 121, 44, 32, 120, 32, 60, 32, 121, 44, 32, 120, 32, 60, 32, 121, 44, 32, 120, 32, 60, 32, 121, 44, 32, 120, 32, 60, 32, 121, 44, 32, 120, 32, 60, 32, 121, 44, 32, 120, 32, 60, 32, 121, 44, 32, 120, 32, 60, 32, 121, 44, 32, 120, 32, 60, 32, 121, 44, 32, 120, 32, 60, 32, 121, 44, 32, 120, 32, 60, 32, 121, 44, 32, 120, 32, 60, 32, 121, 44, 32, 120, 32, 60, 32, 121, 44, 32, 120, 32, 60, 32, 121, 44, 32, 120, 32, 60, 32, 121, 44, 32, 120, 32, 60, 32, 121, 44, 32, 120, 32, 60, 32, 121, 44, 32, 120, 32, 60, 32, 121, 44, 32, 120, 32, 60, 32, 121, 44, 32, 120, 32, 60, 32, 121, 44, 32, 120, 32, 60, 32, 121, 44, 32, 120, 32, 60, 32, 121, 44, 32, 120, 32, 60, 32, 121, 44, 32, 120, 32, 60, 32, 121, 44, 32, 120, 32, 60, 32, 121, 44, 32, 120, 32, 60, 32, 121, 44, 32, 120, 32, 60, 32, 121, 44, 32, 120, 32, 60, 32, 121, 44, 32, 120, 32, 60, 32, 121, 44, 32, 120, 32, 60, 32, 121, 44, 32, 120, 32, 60, 32, 121, 44, 32, 120, 32, 60, 32, 121, 44, 32, 120, 32, 60, 32, 121, 44, 32, 120, 32, 60, 32, 121, 44, 32, 120, 32, 60, 32, 121, 44, 32, 120, 32, 60, 32, 121, 44, 32, 120, 32, 60, 32, 121, 44, 32, 120, 32, 60, 32, 121, 44, 32, 120, 32, 60, 32, 121, 44, 32, 120, 32, 60, 32, 121, 44, 32, 120, 32, 60, 32, 121, 44, 32, 120, 32, 60, 32, 121, 44, 32, 120, 32, 60, 32, 121, 44, 32, 120, 32, 60, 32, 121, 44, 32, 120, 32, 60, 32, 121, 44, 32, 120, 32, 60, 32, 121, 44, 32, 120, 32, 60, 32, 121, 44, 32, 120, 32, 60, 32, 121, 44, 32, 120, 32, 60, 32, 121, 44, 32, 120, 32, 60, 32, 121, 44, 32, 120, 32, 60, 32, 121, 44, 32, 120, 32, 60, 32, 121, 44, 32, 120, 32, 60, 32, 121, 44, 32, 120, 32, 60, 32, 121, 44, 32, 120, 32, 60, 32, 121, 44, 32, 120, 32, 60, 32, 121, 44, 32, 120, 32, 60, 32, 121, 44, 32, 120, 32, 60, 32, 121, 44, 32, 120, 32, 60, 32, 121, 44, 32, 120, 32, 60, 32, 121, 44, 32, 120, 32, 60, 32, 121, 44, 32, 120, 32, 60, 32, 121, 44, 32, 120, 32, 60, 32, 121, 44, 32, 120, 32, 60, 32, 121, 44, 32, 120, 32, 60, 32, 121, 44, 32, 120, 32, 60, 32, 121, 44, 32, 120, 32, 60, 32, 121, 44, 32, 120, 32, 60, 32, 121, 44, 32, 120, 32, 60, 32, 121, 44, 32, 120, 32, 60, 32, 121, 44, 32, 120, 32, 60, 32, 121, 44, 32, 120, 32, 60, 32, 121, 44, 32, 120, 32, 60, 32, 121, 44, 32, 120, 32, 60, 32, 121, 44, 32, 120, 32, 60, 32, 121, 44, 32, 120, 32, 60, 32, 121, 44, 32, 120, 32, 60, 32, 121, 44, 32, 120, 32, 60, 32, 121, 44, 32, 120, 32, 60, 32, 121, 44, 32, 120, 32, 60, 32, 121, 44, 32, 120, 32, 60, 32, 121, 44, 32, 120, 32, 60, 32, 121, 44, 32, 120, 32, 60, 32, 121, 44, 32, 120, 32, 60, 32, 121, 44, 32, 120, 32, 60, 32, 121, 44, 32, 120, 32, 60, 32, 121, 44, 32, 120, 32, 60, 32, 121, 44, 32, 120, 32, 60, 32, 121, 44, 32, 120, 32, 60, 32, 121, 44, 32, 120, 32, 60, 32, 121, 44, 32, 120, 32, 60, 32, 121, 44, 32, 120, 32, 60, 32, 121, 44, 32, 120, 32, 60, 32, 121, 44, 32, 120, 32, 60, 32, 121, 44, 32, 120, 32, 60, 32, 121, 44, 32, 120, 32, 60, 32, 121], .non, .bl true, .int 0, .int 7, .tup [], .lst [], .dct [] [], .tup [.str [120, 32, 60, 32, 121]], .lst [.str [120, 32, 60, 32, 121]], .tup [.str [120], .str [60], .str [121]]]
def HV0 : List AV := HP0
def HV1 : List AV := HV0 ++ HP1
def HV2 : List AV := HV1 ++ HP2
def HV3 : List AV := HV2 ++ HP3
def HV4 : List AV := HV3 ++ HP4
def HV5 : List AV := HV4 ++ HP5
def HV6 : List AV := HV5 ++ HP6
def HL : List AV := [.tup [.tup [.str [120], .str [60], .str [121]]], .lst [.lst []]]
def HR : List AV := [.str [107, 32, 60, 61, 32, 97], .str [97, 32, 60, 61, 32, 98], .str [98, 32, 60, 61, 32, 99], .str [99, 32, 60, 61, 32, 100], .str [100, 32, 60, 61, 32, 101], .str [101, 32, 60, 61, 32, 102], .str [102, 32, 60, 61, 32, 103], .str [103, 32, 60, 61, 32, 104], .str [104, 32, 60, 61, 32, 105], .str [105, 32, 60, 61, 32, 106], .str [106, 32, 60, 61, 32, 107]]
def okV : AV → Bool
  | .str s => decide (s.length ≤ 4000)
  | v => tagged v && decide (tg v ≠ .str)
theorem okV_p {v : AV} (h : okV v = true) : (∃ s, v = .str s ∧ s.length ≤ 4000) ∨ (Atm v ∧ tg v ≠ .str) := by
  have h3 : tagged v = true := by cases v <;> first | rfl | cases h
  by_cases ht : tg v = .str
  · obtain ⟨s, rfl⟩ : ∃ s, v = .str s := by cases v <;> first | exact ⟨_, rfl⟩ | cases ht | cases h3
    exact .inl ⟨_, rfl, of_decide_eq_true h⟩
  · exact .inr ⟨⟨h3, fun s e => absurd (by rw [e]; rfl) ht⟩, ht⟩
theorem hand_ok : (HV6 ++ HL).all okV = true := by kernel_rfl
theorem hi_nil {h : AHeap} (k : HI [] 0 h) : h = [] := by
  have := k.len
  exact List.eq_nil_of_length_eq_zero (by simpa using this)
theorem hand : Ens (m__law_by_hand [] []) fun v h => v = .bl true ∧ h = [] := by
  have hc0 : ([] : AHeap).all (AO.closed 0) = true := rfl
  have hx0 : ([] : AHeap).all AO.noX = true := rfl
  have h0 : HI [] 0 [] := ⟨[], rfl, rfl, by simp⟩
  refine en_def rfl ?_
  refine es_cut (fun ρ1 h1 => ρ1 = [some (.lst HV0), none, none, none, none] ∧ h1 = []) (es_now (ρ' := [some (.lst HV0), none, none, none, none]) (h' := []) (by kernel_rfl) ⟨rfl, rfl⟩) ?_
  rintro ρ1 h1 ⟨rfl, rfl⟩
  refine es_cut (fun ρ1 h1 => ρ1 = [some (.lst HV1), none, none, none, none] ∧ h1 = []) (es_now (ρ' := [some (.lst HV1), none, none, none, none]) (h' := []) (by kernel_rfl) ⟨rfl, rfl⟩) ?_
  rintro ρ1 h1 ⟨rfl, rfl⟩
  refine es_cut (fun ρ1 h1 => ρ1 = [some (.lst HV2), none, none, none, none] ∧ h1 = []) (es_now (ρ' := [some (.lst HV2), none, none, none, none]) (h' := []) (by kernel_rfl) ⟨rfl, rfl⟩) ?_
  rintro ρ1 h1 ⟨rfl, rfl⟩
  refine es_cut (fun ρ1 h1 => ρ1 = [some (.lst HV3), none, none, none, none] ∧ h1 = []) (es_now (ρ' := [some (.lst HV3), none, none, none, none]) (h' := []) (by kernel_rfl) ⟨rfl, rfl⟩) ?_
  rintro ρ1 h1 ⟨rfl, rfl⟩
  refine es_cut (fun ρ1 h1 => ρ1 = [some (.lst HV4), none, none, none, none] ∧ h1 = []) (es_now (ρ' := [some (.lst HV4), none, none, none, none]) (h' := []) (by kernel_rfl) ⟨rfl, rfl⟩) ?_
  rintro ρ1 h1 ⟨rfl, rfl⟩
  refine es_cut (fun ρ1 h1 => ρ1 = [some (.lst HV4), some (.str [97, 98, 99, 100, 101, 102, 103, 104, 105, 106, 107]), none, none, none] ∧ h1 = []) (es_now (ρ' := [some (.lst HV4), some (.str [97, 98, 99, 100, 101, 102, 103, 104, 105, 106, 107]), none, none, none]) (h' := []) (by kernel_rfl) ⟨rfl, rfl⟩) ?_
  rintro ρ1 h1 ⟨rfl, rfl⟩
  refine es_cut (fun ρ1 h1 => ρ1 = [some (.lst HV4), some (.str [97, 98, 99, 100, 101, 102, 103, 104, 105, 106, 107]), some (.lst HR), none, none] ∧ h1 = []) (es_now (ρ' := [some (.lst HV4), some (.str [97, 98, 99, 100, 101, 102, 103, 104, 105, 106, 107]), some (.lst HR), none, none]) (h' := []) (by kernel_rfl) ⟨rfl, rfl⟩) ?_
  rintro ρ1 h1 ⟨rfl, rfl⟩
  refine es_cut (fun ρ1 h1 => ρ1 = [some (.lst HV5), some (.str [97, 98, 99, 100, 101, 102, 103, 104, 105, 106, 107]), some (.lst HR), none, none] ∧ h1 = []) (es_now (ρ' := [some (.lst HV5), some (.str [97, 98, 99, 100, 101, 102, 103, 104, 105, 106, 107]), some (.lst HR), none, none]) (h' := []) (by kernel_rfl) ⟨rfl, rfl⟩) ?_
  rintro ρ1 h1 ⟨rfl, rfl⟩
  refine es_cut (fun ρ1 h1 => ρ1 = [some (.lst HV6), some (.str [97, 98, 99, 100, 101, 102, 103, 104, 105, 106, 107]), some (.lst HR), none, none] ∧ h1 = []) (es_now (ρ' := [some (.lst HV6), some (.str [97, 98, 99, 100, 101, 102, 103, 104, 105, 106, 107]), some (.lst HR), none, none]) (h' := []) (by kernel_rfl) ⟨rfl, rfl⟩) ?_
  rintro ρ1 h1 ⟨rfl, rfl⟩
  simp only [en_bind, en_ok, en_bad, en_lift, en_var, en_c, en_bin, en_un, en_test, en_chain, en_andT, en_orT, en_notT, en_and, en_or, en_not, en_if, en_nil, en_cons, en_tup, en_list, en_pureL, en_newL, en_fn, en_call, en_callK, en_methS, en_oN, en_oS, en_sl, en_rng1, en_iter, en_lc, es_seq, es_skip, es_ret, es_retN, es_if, es_asg, es_par2, es_for, eg_name, eg_nil, eg_cons, eg_tup, eg_sub, es_drop, es_bad, es_try0, en_listOf, en_methO, es_setL1, es_setL0, en_set0, en_fmt, en_joinN, en_joinC, en_enum, en_sortS, en_split, en_rng2, vIxA_t, vIxA_l, vIxA_s, vLenA_s, vLenA_t, vLenA_l, vMulA_ii, List.getElem?_cons_zero, List.getElem?_cons_succ, List.set_cons_zero, List.set_cons_succ, Option.some.injEq, AV.int.injEq, AV.bl.injEq, AV.str.injEq, AV.ref.injEq, AV.tup.injEq, AV.lst.injEq, AO.list.injEq, List.cons.injEq, exists_eq_left', exists_eq_left, exists_and_left, List.map_cons, List.map_nil, List.replicate, List.cons_append, List.nil_append, and_true, true_and, if_true, Nat.sub_self, ite_true, List.length_cons, List.length_nil, Nat.zero_add, Nat.reduceAdd, Nat.reduceSub, List.length_set]
  repeat refine ⟨rfl, ?_⟩
  refine ⟨.lst (HV6 ++ HL), by kernel_rfl, HV6 ++ HL, rfl, by kernel_rfl, ?_⟩
  refine en_lcL (fun h' => HI [] 0 h') (fun y => y = .bl true) ?_ h0 ?_
  · rintro v hv h5 hh5
    refine ⟨_, rfl, ?_⟩
    simp only [en_bind, en_ok, en_bad, en_lift, en_var, en_c, en_bin, en_un, en_test, en_chain, en_andT, en_orT, en_notT, en_and, en_or, en_not, en_if, en_nil, en_cons, en_tup, en_list, en_pureL, en_newL, en_fn, en_call, en_callK, en_methS, en_oN, en_oS, en_sl, en_rng1, en_iter, en_lc, es_seq, es_skip, es_ret, es_retN, es_if, es_asg, es_par2, es_for, eg_name, eg_nil, eg_cons, eg_tup, eg_sub, es_drop, es_bad, es_try0, en_listOf, en_methO, es_setL1, es_setL0, en_set0, en_fmt, en_joinN, en_joinC, en_enum, en_sortS, en_split, en_rng2, vIxA_t, vIxA_l, vIxA_s, vLenA_s, vLenA_t, vLenA_l, vMulA_ii, vAdd_ii, vAdd_ss, vAdd_ll, vSub_ii, vMul_ii, vDiv_ii, vMod_ii, vLt_ii, vLe_ii, vGt_ii, vGe_ii, vEq_ii, vEq_ss, vNe_ii, vNe_ss, vIx_t, vIx_l, vIx_s, vIx_r, vLen_s, vLen_t, vLen_l, vLen_r, List.getElem?_cons_zero, List.getElem?_cons_succ, List.set_cons_zero, List.set_cons_succ, Option.some.injEq, AV.int.injEq, AV.bl.injEq, AV.str.injEq, AV.ref.injEq, AV.tup.injEq, AV.lst.injEq, AO.list.injEq, List.cons.injEq, exists_eq_left', exists_eq_left, exists_and_left, List.map_cons, List.map_nil, List.replicate, List.cons_append, List.nil_append, and_true, true_and, if_true, Nat.sub_self, ite_true, List.length_cons, List.length_nil, Nat.zero_add, Nat.reduceAdd, Nat.reduceSub, List.length_set, wipeA, List.foldl]
    rcases okV_p (List.all_eq_true.mp hand_ok v hv) with ⟨s, rfl, hs⟩ | ⟨a, t⟩
    · exact xright_s hh5 hc0 hx0 hs
    · exact xright_0 hh5 hc0 hx0 a t
  · rintro ys h5 hl hy hh5
    obtain rfl := hi_nil hh5
    refine ⟨_, all_true hy, ?_⟩
    simp
theorem law_true (ns : List Int) : ∃ h', m_law [scriptV ns] [] = .ok (.bl true) h' := by
  suffices hs : Ens (m_law [scriptV ns] []) fun v _ => v = .bl true by
    obtain ⟨v, h', e, rfl⟩ := hs.ex
    exact ⟨h', e⟩
  have gcT : ∀ h', Ens (gcRes 0 (.ok (.bl true) h')) fun v _ => v = .bl true := fun h' => by
    unfold gcRes
    dsimp only
    by_cases hz : h'.length ≤ 0
    · rw [if_pos hz, en_ok]
    · rw [if_neg hz]
      show Ens (if ((h'.take 0).all (AO.closed 0)) = true then Res.ok (AV.bl true) (h'.take 0) else Res.ok (AV.bl true) h') _
      rw [List.take_zero, if_pos (show ([] : AHeap).all (AO.closed 0) = true from rfl), en_ok]
  refine en_defG rfl ?_
  refine es_cut (fun ρ1 h1 => ρ1 = [some (scriptV ns), none, none, none, none] ∧ h1 = []) ?_ ?_
  · rw [es_if, en_notT, en_test, en_call, en_nil]
    refine hand.mono ?_
    rintro v h ⟨rfl, rfl⟩
    refine ⟨_, rfl, ?_⟩
    rw [if_neg (by simp), es_skip]
    exact ⟨rfl, rfl⟩
  rintro ρ1 h1 ⟨rfl, rfl⟩
  refine es_cut (fun ρ1 h1 => True) ?_ ?_
  · rw [es_for]
    have r5 : AI.inR 12 = true := rfl
    have mm : ∃ n : Int, vMin ([] : AHeap) [.int (ns.length : Int), .int 6] = some (.int n) ∧ n ≤ 6 := by
      refine ⟨_, rfl, ?_⟩
      split <;> omega
    obtain ⟨n, en, n6⟩ := mm
    have mx : ∃ q : Int, vMax ([] : AHeap) [.int 2, .int n] = some (.int q) ∧ q ≤ 6 ∧ 0 ≤ q := by
      refine ⟨_, rfl, ?_⟩
      split <;> omega
    obtain ⟨q, eq, q6, q0⟩ := mx
    have hr : AI.inR q = true := by unfold AI.inR; exact decide_eq_true (by omega)
    have sl : ∀ {h : AHeap}, vLenA h [scriptV ns] = some (.int ns.length) := fun {h} => by
      show some (AV.int ((ns.map AV.int).length : Nat)) = _
      rw [List.length_map]
    simp only [en_bind, en_ok, en_bad, en_lift, en_var, en_c, en_bin, en_un, en_test, en_chain, en_andT, en_orT, en_notT, en_and, en_or, en_not, en_if, en_nil, en_cons, en_tup, en_list, en_pureL, en_newL, en_fn, en_call, en_callK, en_methS, en_oN, en_oS, en_sl, en_rng1, en_iter, en_lc, es_seq, es_skip, es_ret, es_retN, es_if, es_asg, es_par2, es_for, eg_name, eg_nil, eg_cons, eg_tup, eg_sub, es_drop, es_bad, es_try0, en_listOf, en_methO, es_setL1, es_setL0, en_set0, en_fmt, en_joinN, en_joinC, en_enum, en_sortS, en_split, en_rng2, vIxA_t, vIxA_l, vIxA_s, vLenA_s, vLenA_t, vLenA_l, vMulA_ii, vAdd_ii, vAdd_ss, vAdd_ll, vSub_ii, vMul_ii, vDiv_ii, vMod_ii, vLt_ii, vLe_ii, vGt_ii, vGe_ii, vEq_ii, vEq_ss, vNe_ii, vNe_ss, vIx_t, vIx_l, vIx_s, vIx_r, vLen_s, vLen_t, vLen_l, vLen_r, List.getElem?_cons_zero, List.getElem?_cons_succ, List.set_cons_zero, List.set_cons_succ, Option.some.injEq, AV.int.injEq, AV.bl.injEq, AV.str.injEq, AV.ref.injEq, AV.tup.injEq, AV.lst.injEq, AO.list.injEq, List.cons.injEq, exists_eq_left', exists_eq_left, exists_and_left, List.map_cons, List.map_nil, List.replicate, List.cons_append, List.nil_append, and_true, true_and, if_true, Nat.sub_self, ite_true, List.length_cons, List.length_nil, Nat.zero_add, Nat.reduceAdd, Nat.reduceSub, List.length_set, sl, en, eq, hr]
    refine es_loop (fun l ρ h => (∀ x ∈ l, ∃ k : Int, x = .int k ∧ 0 ≤ k ∧ k ≤ 10) ∧ HI [] h.length h ∧ ∃ a b c d, ρ = [some (scriptV ns), a, b, c, d]) ?_ (fun _ _ _ => trivial) ⟨fun x hx => ?_, ⟨[], rfl, rfl, by simp⟩, _, _, _, _, rfl⟩
    · rintro v l ρ h ⟨hl, hh, a, b, c, d, rfl⟩
      obtain ⟨k, rfl, k0, k1⟩ := hl v (List.mem_cons_self ..)
      have hl' := fun x hx => hl x (List.mem_cons_of_mem _ hx)
      obtain ⟨cl0, ecl⟩ := cell_spec (h := h) (ns := ns) k0 k1
      rw [eg_name]
      refine es_cut (fun ρ1 h1 => HI [] (h.length + 1) h1 ∧ ∃ c d, ρ1 = [some (scriptV ns), some (.int k), some (.ref h.length), c, d]) ?_ ?_
      · simp only [en_bind, en_ok, en_bad, en_lift, en_var, en_c, en_bin, en_un, en_test, en_chain, en_andT, en_orT, en_notT, en_and, en_or, en_not, en_if, en_nil, en_cons, en_tup, en_list, en_pureL, en_newL, en_fn, en_call, en_callK, en_methS, en_oN, en_oS, en_sl, en_rng1, en_iter, en_lc, es_seq, es_skip, es_ret, es_retN, es_if, es_asg, es_par2, es_for, eg_name, eg_nil, eg_cons, eg_tup, eg_sub, es_drop, es_bad, es_try0, en_listOf, en_methO, es_setL1, es_setL0, en_set0, en_fmt, en_joinN, en_joinC, en_enum, en_sortS, en_split, en_rng2, vIxA_t, vIxA_l, vIxA_s, vLenA_s, vLenA_t, vLenA_l, vMulA_ii, vAdd_ii, vAdd_ss, vAdd_ll, vSub_ii, vMul_ii, vDiv_ii, vMod_ii, vLt_ii, vLe_ii, vGt_ii, vGe_ii, vEq_ii, vEq_ss, vNe_ii, vNe_ss, vIx_t, vIx_l, vIx_s, vIx_r, vLen_s, vLen_t, vLen_l, vLen_r, List.getElem?_cons_zero, List.getElem?_cons_succ, List.set_cons_zero, List.set_cons_succ, Option.some.injEq, AV.int.injEq, AV.bl.injEq, AV.str.injEq, AV.ref.injEq, AV.tup.injEq, AV.lst.injEq, AO.list.injEq, List.cons.injEq, exists_eq_left', exists_eq_left, exists_and_left, List.map_cons, List.map_nil, List.replicate, List.cons_append, List.nil_append, and_true, true_and, if_true, Nat.sub_self, ite_true, List.length_cons, List.length_nil, Nat.zero_add, Nat.reduceAdd, Nat.reduceSub, List.length_set, ecl]
        refine purse_spec.mono ?_
        rintro v h1 ⟨rfl, pa, pd, pt, rfl, hd⟩
        refine ⟨?_, rfl, _, rfl⟩
        obtain ⟨hp, e, hlen, hq⟩ := hh
        refine ⟨h ++ [.list [.int pa, .int pd, .int pt]], by simp, by simp, fun o ho => ?_⟩
        rw [List.append_nil] at e
        rcases List.mem_append.mp ho with z | z
        · rw [e] at z; exact hq o z
        · exact ⟨pa, pd, pt, List.mem_singleton.mp z, hd⟩
      rintro ρ1 h1 ⟨hh1, c, d, rfl⟩
      have len1 : h1.length = h.length + 1 := by have := hh1.len; simpa using this
      simp only [es_for, en_bind, en_ok, en_bad, en_lift, en_var, en_c, en_bin, en_un, en_test, en_chain, en_andT, en_orT, en_notT, en_and, en_or, en_not, en_if, en_nil, en_cons, en_tup, en_list, en_pureL, en_newL, en_fn, en_call, en_callK, en_methS, en_oN, en_oS, en_sl, en_rng1, en_iter, en_lc, es_seq, es_skip, es_ret, es_retN, es_if, es_asg, es_par2, es_for, eg_name, eg_nil, eg_cons, eg_tup, eg_sub, es_drop, es_bad, es_try0, en_listOf, en_methO, es_setL1, es_setL0, en_set0, en_fmt, en_joinN, en_joinC, en_enum, en_sortS, en_split, en_rng2, vIxA_t, vIxA_l, vIxA_s, vLenA_s, vLenA_t, vLenA_l, vMulA_ii, vAdd_ii, vAdd_ss, vAdd_ll, vSub_ii, vMul_ii, vDiv_ii, vMod_ii, vLt_ii, vLe_ii, vGt_ii, vGe_ii, vEq_ii, vEq_ss, vNe_ii, vNe_ss, vIx_t, vIx_l, vIx_s, vIx_r, vLen_s, vLen_t, vLen_l, vLen_r, List.getElem?_cons_zero, List.getElem?_cons_succ, List.set_cons_zero, List.set_cons_succ, Option.some.injEq, AV.int.injEq, AV.bl.injEq, AV.str.injEq, AV.ref.injEq, AV.tup.injEq, AV.lst.injEq, AO.list.injEq, List.cons.injEq, exists_eq_left', exists_eq_left, exists_and_left, List.map_cons, List.map_nil, List.replicate, List.cons_append, List.nil_append, and_true, true_and, if_true, Nat.sub_self, ite_true, List.length_cons, List.length_nil, Nat.zero_add, Nat.reduceAdd, Nat.reduceSub, List.length_set, r5]
      refine es_loop (fun l ρ h2 => HI [] (h.length + 1) h2 ∧ ∃ c d, ρ = [some (scriptV ns), some (.int k), some (.ref h.length), c, d]) ?_ ?_ ⟨hh1, _, _, rfl⟩
      · rintro v r ρ h2 ⟨hh2, c, d, rfl⟩
        rw [eg_name]
        have hn : h.length < h.length + 1 := Nat.lt_succ_self _
        have hc0 : ([] : AHeap).all (AO.closed 0) = true := rfl
        refine es_cut (fun ρ1 h1 => ∃ cs, (OKc cs ∧ (wr cs).length ≤ 1000) ∧ ρ1 = [some (scriptV ns), some (.int k), some (.ref h.length), some v, some (.str (wr cs))] ∧ HI [] (h.length + 1) h1) ?_ ?_
        · simp only [en_bind, en_ok, en_bad, en_lift, en_var, en_c, en_bin, en_un, en_test, en_chain, en_andT, en_orT, en_notT, en_and, en_or, en_not, en_if, en_nil, en_cons, en_tup, en_list, en_pureL, en_newL, en_fn, en_call, en_callK, en_methS, en_oN, en_oS, en_sl, en_rng1, en_iter, en_lc, es_seq, es_skip, es_ret, es_retN, es_if, es_asg, es_par2, es_for, eg_name, eg_nil, eg_cons, eg_tup, eg_sub, es_drop, es_bad, es_try0, en_listOf, en_methO, es_setL1, es_setL0, en_set0, en_fmt, en_joinN, en_joinC, en_enum, en_sortS, en_split, en_rng2, vIxA_t, vIxA_l, vIxA_s, vLenA_s, vLenA_t, vLenA_l, vMulA_ii, vAdd_ii, vAdd_ss, vAdd_ll, vSub_ii, vMul_ii, vDiv_ii, vMod_ii, vLt_ii, vLe_ii, vGt_ii, vGe_ii, vEq_ii, vEq_ss, vNe_ii, vNe_ss, vIx_t, vIx_l, vIx_s, vIx_r, vLen_s, vLen_t, vLen_l, vLen_r, List.getElem?_cons_zero, List.getElem?_cons_succ, List.set_cons_zero, List.set_cons_succ, Option.some.injEq, AV.int.injEq, AV.bl.injEq, AV.str.injEq, AV.ref.injEq, AV.tup.injEq, AV.lst.injEq, AO.list.injEq, List.cons.injEq, exists_eq_left', exists_eq_left, exists_and_left, List.map_cons, List.map_nil, List.replicate, List.cons_append, List.nil_append, and_true, true_and, if_true, Nat.sub_self, ite_true, List.length_cons, List.length_nil, Nat.zero_add, Nat.reduceAdd, Nat.reduceSub, List.length_set]
          refine (some_spec (wide := 10) (most := 40) hh2 hc0 hn (by decide) (by decide) (by decide) (by decide)).mono ?_
          rintro v1 h3 ⟨d1, hh3⟩
          obtain ⟨cs, rfl, ok, wl⟩ := drawn40 d1
          refine (lwritten_l hh3 hc0 ok).mono ?_
          rintro v2 h4 ⟨rfl, hh4⟩
          exact ⟨cs, ⟨ok, wl⟩, rfl, hh4⟩
        rintro ρ1 h3 ⟨cs, ⟨ok, wl⟩, rfl, hh3⟩
        have hx0 : ([] : AHeap).all AO.noX = true := rfl
        simp only [en_bind, en_ok, en_bad, en_lift, en_var, en_c, en_bin, en_un, en_test, en_chain, en_andT, en_orT, en_notT, en_and, en_or, en_not, en_if, en_nil, en_cons, en_tup, en_list, en_pureL, en_newL, en_fn, en_call, en_callK, en_methS, en_oN, en_oS, en_sl, en_rng1, en_iter, en_lc, es_seq, es_skip, es_ret, es_retN, es_if, es_asg, es_par2, es_for, eg_name, eg_nil, eg_cons, eg_tup, eg_sub, es_drop, es_bad, es_try0, en_listOf, en_methO, es_setL1, es_setL0, en_set0, en_fmt, en_joinN, en_joinC, en_enum, en_sortS, en_split, en_rng2, vIxA_t, vIxA_l, vIxA_s, vLenA_s, vLenA_t, vLenA_l, vMulA_ii, vAdd_ii, vAdd_ss, vAdd_ll, vSub_ii, vMul_ii, vDiv_ii, vMod_ii, vLt_ii, vLe_ii, vGt_ii, vGe_ii, vEq_ii, vEq_ss, vNe_ii, vNe_ss, vIx_t, vIx_l, vIx_s, vIx_r, vLen_s, vLen_t, vLen_l, vLen_r, List.getElem?_cons_zero, List.getElem?_cons_succ, List.set_cons_zero, List.set_cons_succ, Option.some.injEq, AV.int.injEq, AV.bl.injEq, AV.str.injEq, AV.ref.injEq, AV.tup.injEq, AV.lst.injEq, AO.list.injEq, List.cons.injEq, exists_eq_left', exists_eq_left, exists_and_left, List.map_cons, List.map_nil, List.replicate, List.cons_append, List.nil_append, and_true, true_and, if_true, Nat.sub_self, ite_true, List.length_cons, List.length_nil, Nat.zero_add, Nat.reduceAdd, Nat.reduceSub, List.length_set]
        refine (xright_s hh3 hc0 hx0 (by omega)).mono ?_
        rintro v5 h5 ⟨rfl, hh5⟩
        refine ⟨_, rfl, ?_⟩
        rw [if_neg (by simp)]
        refine (bent_spec hh5 hc0 hn wl).mono ?_
        rintro v7 h7 ⟨⟨t, rfl, tl⟩, hh7⟩
        refine (xright_s hh7 hc0 hx0 tl).mono ?_
        rintro v6 h6 ⟨rfl, hh6⟩
        refine ⟨_, rfl, ?_⟩
        rw [if_neg (by simp)]
        first | exact ⟨hh6, rfl⟩ | exact ⟨hh6, _, rfl⟩ | exact ⟨hh6, _, _, rfl⟩
      · rintro ρ h2 ⟨hh2, c, d, rfl⟩
        have len2 : h2.length = h.length + 1 := by have := hh2.len; simpa using this
        refine ⟨hl', by rw [len2]; exact hh2, _, _, _, _, rfl⟩
    · unfold iInts at hx
      obtain ⟨k, hk, rfl⟩ := List.mem_map.mp hx
      have := List.mem_range.mp hk
      exact ⟨_, rfl, by omega, by omega⟩
  · intro ρ1 h1 _
    simp only [en_bind, en_ok, en_bad, en_lift, en_var, en_c, en_bin, en_un, en_test, en_chain, en_andT, en_orT, en_notT, en_and, en_or, en_not, en_if, en_nil, en_cons, en_tup, en_list, en_pureL, en_newL, en_fn, en_call, en_callK, en_methS, en_oN, en_oS, en_sl, en_rng1, en_iter, en_lc, es_seq, es_skip, es_ret, es_retN, es_if, es_asg, es_par2, es_for, eg_name, eg_nil, eg_cons, eg_tup, eg_sub]
    exact gcT h1
end AIL
open PySem PySem.W PySem.Calls PyProof.Rows
theorem PySem.Challenge.cw_capruns_k03_strings_that_are_no_claims_holds : PySem.Challenge.rw_capruns_k03_strings_that_are_no_claims.Holds := by
  w_on; o_law
  refine HandSHeadRun.head_any (r := OpenLaw.row PySem.Challenge.rw_capruns_k03_strings_that_are_no_claims) (q := view (OpenLaw.row PySem.Challenge.rw_capruns_k03_strings_that_are_no_claims).prog [67]) (H := AIL.hk) (ob := AIL.ob) (M := 20000) (loose := AIL.loose) (d := HandSHeadRun.topDef (OpenLaw.row PySem.Challenge.rw_capruns_k03_strings_that_are_no_claims).prog 67) (kwd := []) AIL.ob_eq
    (by kernel_rfl) (fun s => by kernel_rfl) AIL.run (by kernel_rfl) (by kernel_rfl) (by kernel_rfl) (by rfl) (by first | assumption | decide +kernel) (by decide +kernel) ⟨rfl, rfl, rfl, rfl, rfl, by decide +kernel⟩ ?hw ?hc
  case hw => w_witness2
  case hc =>
    refine AI.walkG (l := PySem.Challenge.rw_capruns_k03_strings_that_are_no_claims) (n := 63) (k := 11) (x := "_law_script") rfl (by decide) (by kernel_rfl) ⟨rfl, by decide, by decide⟩ ?F (fun ns _ => AIL.law_true ns)
    intro w mg fa h Y G at_
    obtain ⟨K, inK, told⟩ := Y
    have named : (HandSHeadRun.topDef (OpenLaw.row PySem.Challenge.rw_capruns_k03_strings_that_are_no_claims).prog 67).name = ("law" : PySem.Str) := by kernel_rfl
    rw [named] at at_
    obtain ⟨fd, bound, does⟩ := AIL.facts (P := (PySem.Challenge.rw_capruns_k03_strings_that_are_no_claims).prog) (w := w) inK G at_ told
    exact ⟨K, fd, inK, bound, does⟩
