import PyProof.Rows.All
import Wide.All
import OpenK.AllK
import Wide.FinOn
import HandS.ForMost
import HandS.ForExc
import HandS.Wide
import HandS.IsInst
import HandS.Text
import HandS.SortKw
import HandS.RaiseMore
import KE.GoesMore
import HandS.ExcSuper
import HandS.ExcInit
import HandS.ExcIs
import HandS.ExcField
import HandS.ExcValue
import HandS.Defaults
import KE.KExcSuper
import KE.KSuper
import KE.KExcIs
import PyProof.ReprRoads
import PyProof.ReprLen
import PyProof.CallFns
import HandS.Iter
import PyProof.Draws
import PyProof.EnumMake
import HandS.Dict
import HandS.Style
import HandS.Ends
import PySem.Challenge.RW_everypair_k05_marks_of_lists
import KE.RegKSuper
import OpenK.XHead
set_option Elab.async false
set_option linter.all false
set_option maxRecDepth 100000
set_option maxHeartbeats 4000000
/-! DD1: values as data, without a heap: what a value is worth (Rp), what the slots are worth (SD), expressions and statements read over data. -/
namespace DD
open PySem PySem.Spec PyProof.Rows L2

inductive D where
  | non | bl (b : Bool) | int (i : Int) | str (s : Str) | ty (n : String) | ref (a : Addr)
  | lst (ds : List D) | tup (ds : List D)
  | dct (ks : List Key) (ds : List D)
  | ins (C : Addr) (ns : List Str) (ds : List D)
  | iset (S : Int → Bool) (n : Nat)
  | exc (C : Addr) (ds : List D)
  | scr (ns : List Int)

/-- an exception object that is kept as a value: its class, its own dict -/
def ExcAt (a C : Addr) (dx : Option Addr) : HO := .ext fun h => ∃ (oe : Obj) (vs : Array Value), h.get? a = some oe ∧ oe.cls = .ref C ∧ oe.dict = dx ∧ oe.data = .fields vs

/-- the script's list: a frozen one, or a constant of the text -/
def SqZ (K : PySem.W.Frag) (F : Hp) (a : Addr) (xs : List V) : Prop := (∃ o, F a = some (.frz o (.lst xs))) ∨
  ∃ (o : Obj) (its : Array Value) (n : Nat), K.lookup a = some o ∧ o.cls = .type "list" ∧ o.dict = none ∧ o.data = .seq its n ∧ its.size ≤ sizeLine ∧ Vals xs its.toList
theorem SqZ.mono {K : PySem.W.Frag} {F F' : Hp} {a : Addr} {xs : List V} (h : SqZ K F a xs) (e : ∀ o, F a = some (.frz o (.lst xs)) → F' a = some (.frz o (.lst xs))) : SqZ K F' a xs := by
  rcases h with ⟨o, h⟩ | h
  · exact .inl ⟨o, e o h⟩
  · exact .inr h
theorem SqZ.seq {K : PySem.W.Frag} {F : Hp} {a : Addr} {xs : List V} (h : SqZ K F a xs) : SqL K F a xs := by
  rcases h with ⟨o, h⟩ | h
  · exact .inl (.inr ⟨o, h⟩)
  · exact .inr h
mutual
def Rp (K : PySem.W.Frag) (F : Hp) : D → V → Prop
  | .non, v => v = .non
  | .bl b, v => v = .bl b
  | .int i, v => v = .int i
  | .str s, v => v = .str s
  | .ty n, v => v = .ty n
  | .ref a, v => v = .ref a
  | .lst ds, v => ∃ a xs, v = .ref a ∧ F a = some (.lst xs) ∧ RpL K F ds xs
  | .tup ds, v => ∃ a xs, v = .ref a ∧ SqT K F a xs ∧ RpL K F ds xs
  | .dct ks ds, v => ∃ a xs, v = .ref a ∧ F a = some (.dK (ks.zip xs)) ∧ RpL K F ds xs ∧ ks.length = xs.length
  | .ins C ns ds, v => ∃ a dx xs, v = .ref a ∧ F a = some (.ins C dx (ns.zip xs)) ∧ RpL K F ds xs ∧ ns.length = xs.length
  | .iset S n, v => ∃ a, v = .ref a ∧ F a = some (.set S n)
  | .exc C ds, v => ∃ a dx x xs, v = .ref a ∧ F a = some (ExcAt a C (some dx)) ∧ F dx = some (.xd [("value", x)]) ∧ xs = [x] ∧ RpL K F ds xs
  | .scr ns, v => ∃ a, v = .ref a ∧ SqZ K F a (ns.map V.int)
def RpL (K : PySem.W.Frag) (F : Hp) : List D → List V → Prop
  | [], xs => xs = []
  | d :: ds, xs => ∃ x r, xs = x :: r ∧ Rp K F d x ∧ RpL K F ds r
end

theorem sqT_mono {K : PySem.W.Frag} {F F' : Hp} {a : Addr} {xs : List V} (e : Same F F') (h : SqT K F a xs) : SqT K F' a xs := by
  rcases h with (h | ⟨o, h⟩) | h
  · exact .inl (.inl (e _ _ h))
  · exact .inl (.inr ⟨o, e _ _ h⟩)
  · exact .inr h

mutual
theorem Rp.mono {K : PySem.W.Frag} {F F' : Hp} (e : Same F F') : ∀ (d : D) (v : V), Rp K F d v → Rp K F' d v
  | .non, _, h => h
  | .bl _, _, h => h
  | .int _, _, h => h
  | .str _, _, h => h
  | .ty _, _, h => h
  | .ref _, _, h => h
  | .lst ds, v, h => by
    unfold Rp at h ⊢
    obtain ⟨a, xs, rfl, h1, h2⟩ := h
    exact ⟨a, xs, rfl, e _ _ h1, RpL.mono e ds xs h2⟩
  | .tup ds, v, h => by
    unfold Rp at h ⊢
    obtain ⟨a, xs, rfl, h1, h2⟩ := h
    exact ⟨a, xs, rfl, sqT_mono e h1, RpL.mono e ds xs h2⟩
  | .dct ks ds, v, h => by
    unfold Rp at h ⊢
    obtain ⟨a, xs, rfl, h1, h2, h3⟩ := h
    exact ⟨a, xs, rfl, e _ _ h1, RpL.mono e ds xs h2, h3⟩
  | .ins C ns ds, v, h => by
    unfold Rp at h ⊢
    obtain ⟨a, dx, xs, rfl, h1, h2, h3⟩ := h
    exact ⟨a, dx, xs, rfl, e _ _ h1, RpL.mono e ds xs h2, h3⟩
  | .iset S n, v, h => by
    unfold Rp at h ⊢
    obtain ⟨a, rfl, h1⟩ := h
    exact ⟨a, rfl, e _ _ h1⟩
  | .scr ns, v, h => by
    unfold Rp at h ⊢
    obtain ⟨a, rfl, h1⟩ := h
    exact ⟨a, rfl, h1.mono fun o q => e _ _ q⟩
  | .exc C ds, v, h => by
    unfold Rp at h ⊢
    obtain ⟨a, dx, x, xs, rfl, h1, h2, h3, h4⟩ := h
    exact ⟨a, dx, x, xs, rfl, e _ _ h1, e _ _ h2, h3, RpL.mono e ds xs h4⟩
theorem RpL.mono {K : PySem.W.Frag} {F F' : Hp} (e : Same F F') : ∀ (ds : List D) (xs : List V), RpL K F ds xs → RpL K F' ds xs
  | [], _, h => h
  | d :: ds, xs, h => by
    unfold RpL at h ⊢
    obtain ⟨x, r, rfl, h1, h2⟩ := h
    exact ⟨x, r, rfl, Rp.mono e d x h1, RpL.mono e ds r h2⟩
end
theorem RpL.length {K : PySem.W.Frag} {F : Hp} : ∀ {ds : List D} {xs : List V}, RpL K F ds xs → xs.length = ds.length
  | [], _, h => by
    unfold RpL at h
    rw [h] <;> rfl
  | d :: ds, xs, h => by
    unfold RpL at h
    obtain ⟨x, r, rfl, _, h2⟩ := h
    rw [List.length_cons, List.length_cons, RpL.length h2]
theorem RpL.get {K : PySem.W.Frag} {F : Hp} : ∀ {ds : List D} {xs : List V} {i : Nat} {d : D}, RpL K F ds xs → ds[i]? = some d → ∃ x, xs[i]? = some x ∧ Rp K F d x
  | [], _, _, _, _, e => by simp at e
  | d :: ds, xs, 0, d', h, e => by
    unfold RpL at h
    obtain ⟨x, r, rfl, h1, _⟩ := h
    simp at e
    subst e
    exact ⟨x, rfl, h1⟩
  | d :: ds, xs, i + 1, d', h, e => by
    unfold RpL at h
    obtain ⟨x, r, rfl, _, h2⟩ := h
    obtain ⟨y, e1, e2⟩ := RpL.get (i := i) h2 (by simpa using e)
    exact ⟨y, by simpa using e1, e2⟩
theorem RpL.nil {K : PySem.W.Frag} {F : Hp} : RpL K F [] [] := by
  unfold RpL
  rfl
theorem RpL.cons {K : PySem.W.Frag} {F : Hp} {d : D} {ds : List D} {x : V} {xs : List V} (h : Rp K F d x) (t : RpL K F ds xs) : RpL K F (d :: ds) (x :: xs) := by
  unfold RpL
  exact ⟨x, xs, rfl, h, t⟩
theorem RpL.append {K : PySem.W.Frag} {F : Hp} : ∀ {ds es : List D} {xs ys : List V}, RpL K F ds xs → RpL K F es ys → RpL K F (ds ++ es) (xs ++ ys)
  | [], _, _, _, h, g => by
    unfold RpL at h
    rw [h]
    exact g
  | d :: ds, es, xs, ys, h, g => by
    unfold RpL at h
    obtain ⟨x, r, rfl, h1, h2⟩ := h
    exact .cons h1 (RpL.append h2 g)
theorem RpL.take {K : PySem.W.Frag} {F : Hp} : ∀ {ds : List D} {xs : List V} (n : Nat), RpL K F ds xs → RpL K F (ds.take n) (xs.take n)
  | _, _, 0, _ => by
    rw [List.take_zero, List.take_zero]
    exact .nil
  | [], _, n + 1, h => by
    unfold RpL at h
    rw [h]
    exact .nil
  | d :: ds, xs, n + 1, h => by
    unfold RpL at h
    obtain ⟨x, r, rfl, h1, h2⟩ := h
    exact .cons h1 (RpL.take n h2)
theorem RpL.drop {K : PySem.W.Frag} {F : Hp} : ∀ {ds : List D} {xs : List V} (n : Nat), RpL K F ds xs → RpL K F (ds.drop n) (xs.drop n)
  | _, _, 0, h => h
  | [], _, n + 1, h => by
    unfold RpL at h
    rw [h]
    exact .nil
  | d :: ds, xs, n + 1, h => by
    unfold RpL at h
    obtain ⟨x, r, rfl, h1, h2⟩ := h
    exact RpL.drop n h2
theorem RpL.set {K : PySem.W.Frag} {F : Hp} {d : D} {x : V} (hx : Rp K F d x) : ∀ {ds : List D} {xs : List V} (n : Nat), RpL K F ds xs → RpL K F (ds.set n d) (xs.set n x)
  | [], _, _, h => by
    unfold RpL at h
    rw [h]
    exact .nil
  | d' :: ds, xs, 0, h => by
    unfold RpL at h
    obtain ⟨x', r, rfl, h1, h2⟩ := h
    exact .cons hx h2
  | d' :: ds, xs, n + 1, h => by
    unfold RpL at h
    obtain ⟨x', r, rfl, h1, h2⟩ := h
    exact .cons h1 (RpL.set hx n h2)
theorem RpL.int {K : PySem.W.Frag} {F : Hp} : ∀ {ns : List Int} {xs : List V}, RpL K F (ns.map D.int) xs → xs = ns.map V.int
  | [], _, h => by
    unfold RpL at h
    rw [h]
    rfl
  | n :: ns, xs, h => by
    unfold RpL at h
    obtain ⟨x, r, rfl, h1, h2⟩ := h
    unfold Rp at h1
    rw [h1, RpL.int h2]
    rfl
theorem RpL.ofInt {K : PySem.W.Frag} {F : Hp} : ∀ (ns : List Int), RpL K F (ns.map D.int) (ns.map V.int)
  | [] => .nil
  | n :: ns => .cons (by unfold Rp; rfl) (RpL.ofInt ns)
theorem RpL.str {K : PySem.W.Frag} {F : Hp} : ∀ {ns : List Str} {xs : List V}, RpL K F (ns.map D.str) xs → xs = ns.map V.str
  | [], _, h => by
    unfold RpL at h
    rw [h]
    rfl
  | n :: ns, xs, h => by
    unfold RpL at h
    obtain ⟨x, r, rfl, h1, h2⟩ := h
    unfold Rp at h1
    rw [h1, RpL.str h2]
    rfl
theorem RpL.ofStr {K : PySem.W.Frag} {F : Hp} : ∀ (ns : List Str), RpL K F (ns.map D.str) (ns.map V.str)
  | [] => .nil
  | n :: ns => .cons (by unfold Rp; rfl) (RpL.ofStr ns)

/-! ### what a slot holds: plain data, data of its own (a list, a dict that nobody else knows), a purse of draws -/
inductive B where
  | p (d : D) | o (d : D) | u (w : Bool) (n : Nat) | n (ds : List D)
abbrev Env' := List (Option B)
def B.d : B → D
  | .p d => d
  | .o d => d
  | .u _ _ => .non
  | .n ds => .tup ds
def B.own : B → Bool
  | .p _ => false
  | .n _ => false
  | _ => true
def B.isU : B → Bool
  | .u _ _ => true
  | _ => false
/-- a purse: its digits, its seed, at most n turns so far -/
def PWF (n : Nat) (x y z : Int) : Prop := 0 ≤ x ∧ x < 10 ^ 400 ∧ 0 ≤ y ∧ y < 2147483629 ∧ 0 ≤ z ∧ z ≤ n

structure Fix where
  F0 : Hp
  H0 : Hp
  P : Option Addr
  /-- what is wanted of an exception: its class, what its field holds, the slots -/
  E : Addr → List D → Env' → Prop

def Own (K : PySem.W.Frag) (F H : Hp) : D → Addr → Prop
  | .lst ds, a => ∃ xs, H a = some (.lst xs) ∧ RpL K F ds xs
  | .dct ks ds, a => ∃ xs, H a = some (.dK (ks.zip xs)) ∧ RpL K F ds xs ∧ ks.length = xs.length
  | .iset S n, a => H a = some (.set S n)
  | _, _ => False
def RB (K : PySem.W.Frag) (W : Fix) (F H : Hp) : B → V → Prop
  | .p d, v => Rp K F d v
  | .o d, v => ∃ a, v = .ref a ∧ F a = none ∧ W.H0 a = none ∧ Own K F H d a
  | .u w n, v => ∃ p x y z, v = .ref p ∧ F p = none ∧ (if w = true then W.P = some p else W.H0 p = none) ∧ H p = some (.lst [.int x, .int y, .int z]) ∧ PWF n x y z
  | .n ds, v => ∃ t xs, v = .ref t ∧ SqT K F t xs ∧ RpL K F ds xs ∧ ∀ a, V.ref a ∈ xs → (∃ ys, F a = some (.lst ys)) ∧ W.H0 a = none

structure SD (K : PySem.W.Frag) (W : Fix) (F H : Hp) (σ : L2.St) (δ : Env') : Prop where
  f0 : Same W.F0 F
  h0 : ∀ a o, W.H0 a = some o → W.P ≠ some a → H a = some o
  fh : Same F H
  fr : ∀ a o, F a = some o → W.F0 a = some o ∨ W.H0 a = none
  fp : ∀ a, W.P = some a → F a = none ∧ (∃ o, H a = some o) ∧ ∃ o, W.H0 a = some o
  len : σ.length = δ.length
  get : ∀ (i : Nat) (b : B), δ[i]? = some (some b) → ∃ v, σ[i]? = some (some v) ∧ RB K W F H b v
  sep : ∀ (i j : Nat) (b c : B) (v : V), i ≠ j → δ[i]? = some (some b) → b.own = true → δ[j]? = some (some c) → c.own = true → σ[i]? = some (some v) → σ[j]? ≠ some (some v)

/-- what comes of an expression -/
def DQ (K : PySem.W.Frag) (W : Fix) (F : Hp) (σ : L2.St) (Q : B → Env' → Prop) : VK := fun v H' =>
  ∃ (F' : Hp) (b : B) (δ' : Env'), Same F F' ∧ SD K W F' H' σ δ' ∧ RB K W F' H' b v ∧ (b.own = true → ∀ (j : Nat) (c : B), δ'[j]? = some (some c) → c.own = true → σ[j]? ≠ some (some v)) ∧ Q b δ'

section
variable {K : PySem.W.Frag} {W : Fix} {F H : Hp} {σ : L2.St} {δ : Env'}
theorem Own.some {d : D} {a : Addr} (h : Own K F H d a) : ∃ o, H a = some o := by
  cases d <;> first | exact h.elim | skip
  · obtain ⟨xs, h, _⟩ := h
    exact ⟨_, h⟩
  · obtain ⟨xs, h, _⟩ := h
    exact ⟨_, h⟩
  · exact ⟨_, h⟩
theorem RB.there {b : B} {v : V} (h : RB K W F H b v) (hb : b.own = true) : ∃ a o, v = .ref a ∧ H a = some o ∧ F a = none := by
  cases b with
  | p d => cases hb
  | n ds => cases hb
  | o d =>
    obtain ⟨a, rfl, h1, _, h2⟩ := h
    obtain ⟨o, ho⟩ := h2.some
    exact ⟨a, o, rfl, ho, h1⟩
  | u w n =>
    obtain ⟨p, x, y, z, rfl, h1, _, h2, _⟩ := h
    exact ⟨p, _, rfl, h2, h1⟩
theorem SD.fresh0 (S : SD K W F H σ δ) {p : Addr} (hp : H p = none) : W.H0 p = none := by
  cases e : W.H0 p with
  | none => rfl
  | some o =>
    by_cases hP : W.P = some p
    · obtain ⟨_, ⟨o', ho⟩, _⟩ := S.fp p hP
      rw [hp] at ho
      cases ho
    · have := S.h0 p o e hP
      rw [hp] at this
      cases this
theorem SD.freshF (S : SD K W F H σ δ) {p : Addr} (hp : H p = none) : F p = none := S.fh.free hp
/-- data stay where what is frozen grows and what is owned stays -/
theorem RB.keep {F' H' : Hp} {b : B} {v : V} (h : RB K W F H b v) (e : Same F F') (k : ∀ a o, v = .ref a → b.own = true → H a = some o → H' a = some o) (n : ∀ a, v = .ref a → b.own = true → F a = none → F' a = none) : RB K W F' H' b v := by
  cases b with
  | p d => exact Rp.mono e d v h
  | n ds =>
    obtain ⟨t, xs, rfl, h1, h2, h3⟩ := h
    refine ⟨t, xs, rfl, sqT_mono e h1, RpL.mono e _ _ h2, fun a ha => ?_⟩
    obtain ⟨⟨ys, h4⟩, h5⟩ := h3 a ha
    exact ⟨⟨ys, e _ _ h4⟩, h5⟩
  | o d =>
    obtain ⟨a, rfl, h1, h2, h3⟩ := h
    refine ⟨a, rfl, n a rfl rfl h1, h2, ?_⟩
    cases d <;> first | exact h3.elim | skip
    · obtain ⟨xs, h4, h5⟩ := h3
      exact ⟨xs, k a _ rfl rfl h4, RpL.mono e _ _ h5⟩
    · obtain ⟨xs, h4, h5, h6⟩ := h3
      exact ⟨xs, k a _ rfl rfl h4, RpL.mono e _ _ h5, h6⟩
    · exact k a _ rfl rfl h3
  | u w m =>
    obtain ⟨p, x, y, z, rfl, h1, h2, h3, h4⟩ := h
    exact ⟨p, x, y, z, rfl, n p rfl rfl h1, h2, k p _ rfl rfl h3, h4⟩
theorem same_upd {H : Hp} {p : Addr} {o : HO} (h : H p = none) : Same H (upd H p o) := fun b x e => by
  rw [upd_ne (ne_of_none e h)]
  exact e
/-- a new object, frozen at once -/
theorem SD.new (S : SD K W F H σ δ) {p : Addr} {o : HO} (hp : H p = none) : SD K W (upd F p o) (upd H p o) σ δ where
  f0 := S.f0.trans (same_upd (S.freshF hp))
  h0 := fun a o' h1 h2 => by
    have := S.h0 a o' h1 h2
    rw [upd_ne (ne_of_none this hp)]
    exact this
  fh := fun a o' h => by
    by_cases e : a = p
    · subst e
      rw [upd_same] at h ⊢
      exact h
    · rw [upd_ne e] at h ⊢
      exact S.fh a o' h
  fr := fun a o' h => by
    by_cases e : a = p
    · subst e
      exact .inr (S.fresh0 hp)
    · rw [upd_ne e] at h
      exact S.fr a o' h
  fp := fun a h => by
    obtain ⟨h1, ⟨o', h2⟩, h3⟩ := S.fp a h
    have e := ne_of_none h2 hp
    rw [upd_ne e, upd_ne e]
    exact ⟨h1, ⟨o', h2⟩, h3⟩
  len := S.len
  get := fun i b h => by
    obtain ⟨v, h1, h2⟩ := S.get i b h
    refine ⟨v, h1, h2.keep (same_upd (S.freshF hp)) (fun a o' _ _ h3 => ?_) (fun a hv hb h3 => ?_)⟩
    · rw [upd_ne (ne_of_none h3 hp)]
      exact h3
    · obtain ⟨a', o', e1, h4, _⟩ := h2.there hb
      rw [hv] at e1
      cases e1
      rw [upd_ne (ne_of_none h4 hp)]
      exact h3
  sep := S.sep
/-- a new object of one's own: not frozen -/
theorem SD.newO (S : SD K W F H σ δ) {p : Addr} {o : HO} (hp : H p = none) : SD K W F (upd H p o) σ δ where
  f0 := S.f0
  h0 := fun a o' h1 h2 => by
    have := S.h0 a o' h1 h2
    rw [upd_ne (ne_of_none this hp)]
    exact this
  fh := S.fh.trans (same_upd hp)
  fr := S.fr
  fp := fun a h => by
    obtain ⟨h1, ⟨o', h2⟩, h3⟩ := S.fp a h
    rw [upd_ne (ne_of_none h2 hp)]
    exact ⟨h1, ⟨o', h2⟩, h3⟩
  len := S.len
  get := fun i b h => by
    obtain ⟨v, h1, h2⟩ := S.get i b h
    refine ⟨v, h1, h2.keep (Same.refl F) (fun a o' _ _ h3 => ?_) (fun a hv hb h3 => h3)⟩
    rw [upd_ne (ne_of_none h3 hp)]
    exact h3
  sep := S.sep
/-- an object that stands already, and that no slot owns, is frozen -/
theorem SD.freeze (S : SD K W F H σ δ) {a : Addr} {o : HO} (ha : H a = some o) (h0 : W.H0 a = none) (hF : F a = none) (hno : ∀ (j : Nat) (c : B), δ[j]? = some (some c) → c.own = true → σ[j]? ≠ some (some (.ref a))) : SD K W (upd F a o) H σ δ where
  f0 := S.f0.trans (same_upd hF)
  h0 := S.h0
  fh := fun b o' h => by
    by_cases e : b = a
    · subst e
      rw [upd_same] at h
      rw [ha]
      exact h
    · rw [upd_ne e] at h
      exact S.fh b o' h
  fr := fun b o' h => by
    by_cases e : b = a
    · subst e
      exact .inr h0
    · rw [upd_ne e] at h
      exact S.fr b o' h
  fp := fun b h => by
    obtain ⟨h1, h2, o', h3⟩ := S.fp b h
    refine ⟨?_, h2, o', h3⟩
    have e : b ≠ a := fun z => by
      rw [z, h0] at h3
      cases h3
    rw [upd_ne e]
    exact h1
  len := S.len
  get := fun i b h => by
    obtain ⟨v, h1, h2⟩ := S.get i b h
    refine ⟨v, h1, h2.keep (same_upd hF) (fun _ _ _ _ h3 => h3) (fun b' hv hb h3 => ?_)⟩
    by_cases e : b' = a
    · subst e
      subst hv
      exact absurd h1 (hno i b h hb)
    · rw [upd_ne e]
      exact h3
  sep := S.sep
end
end DD

set_option Elab.async false
set_option linter.all false
set_option maxRecDepth 100000
set_option maxHeartbeats 4000000
/-! DD2: defs that know that no repr is under way; expressions over data. -/
namespace DD
open PySem PySem.Spec PyProof.Rows L2

/-! ### defs, where no repr is under way around -/
structure GnOk (P : Program) (w : World) (K : PySem.W.Frag) (mg : Str → Option Value) (base : Heap) (k : Nat) (f : Addr) (fd : FuncData) (ps : List Str) (sp : Sp) : Prop where
  len : ∀ vs H Q E, sp vs H Q E → vs.length = ps.length
  run : ∀ (A : Around) (outer : List Env) (s : Shared) (H : Hp) (args : Args) (us : List Value) (vs : List V) (Q : VK) (E : XK),
    A.guards = some [] → Room k A → Env0 P w K mg base A outer s H → BindsTo s fd args (ps.zip us) → Vals vs us → sp vs H Q E →
    codeAny (model P w) A (.call (.ref f) args) (CR (L2.CX P w) outer P w H s Q E) s
theorem GnOk.mono {P : Program} {w : World} {K : PySem.W.Frag} {mg : Str → Option Value} {base : Heap} {j k : Nat} {f : Addr} {fd : FuncData} {ps : List Str} {sp : Sp}
    (G : GnOk P w K mg base j f fd ps sp) (h : j ≤ k) : GnOk P w K mg base k f fd ps sp :=
  ⟨G.len, fun A outer s H args us vs Q E hg hr => G.run A outer s H args us vs Q E hg (hr.mono h)⟩
theorem GnOk.of {P : Program} {w : World} {K : PySem.W.Frag} {mg : Str → Option Value} {base : Heap} {k : Nat} {f : Addr} {fd : FuncData} {ps : List Str} {sp : Sp}
    (G : FnOk P w K mg base (L2.CX P w) k f fd ps sp) : GnOk P w K mg base k f fd ps sp :=
  ⟨G.len, fun A outer s H args us vs Q E _ hr => G.run A outer s H args us vs Q E hr⟩
/-- a def of the text, by its body; what is known of A besides: no repr is under way -/
theorem gn_of {P : Program} {w : World} {K : PySem.W.Frag} {mg : Str → Option Value} {base : Heap} {x qual : Str} {st : Stmt} {f : Addr} {fd : FuncData} {N ps : List Str} {k : Nat} {sp : Sp}
    (F : Fun K x qual st f fd) (S : FnScope N ps (defScope st)) (len : ∀ vs H Q E, sp vs H Q E → vs.length = ps.length)
    (hbody : ∀ (cdv : Value) (A : Around) (outer : List Env) (s : Shared) (H : Hp) (vs : List V) (Q : VK) (E : XK), A.guards = some [] →
      Room k (A.deeper (envOfC qual (defScope st) s.heap.objs.size f cdv)) → sp vs H Q E →
      ∃ t, PSs (cxOf (L2.CX P w) P w K mg base N qual (defScope st) f cdv A outer s H E) (defBody st) t ∧ t { nx := fun _ H' => Q .non H', rt := Q } (start N vs) H) :
    GnOk P w K mg base (k + 1) f fd ps sp := by
  refine ⟨len, ?_⟩
  intro A outer s H args us vs Q E hg hr e0 hb r hsp
  obtain ⟨oc, od, kV, doc, pm, an, cdv, ct, osl, rfl, lk, hcd⟩ := F.ex
  have kin : K.In s.heap := e0.mod.kin.keeps fun b o e => (e0.bs b o e).1
  refine codeAny_call_function hr.depth (kin _ _ lk) rfl S.co S.gen rfl (PySem.W.codeRec_of kin hcd) (hb _ _ _ _ ?_)
  have hk : ∀ y ∈ ps.zip us, (defScope st).names.lookup y.1 = some .local ∨
      ((defScope st).names.lookup y.1 = some .cell ∧ ((cellsFrom (s.heap.objs.size + 1) (defScope st).names []).lookup y.1).isSome = true) := by
    rintro ⟨n, v⟩ hy
    rcases S.par n (List.of_mem_zip hy).1 with q | q
    · exact Or.inl q
    · exact Or.inr ⟨q, PySem.W.cellsFrom_some _ _ _ (Or.inl q)⟩
  refine wpAny_newFunctionEnv_cells S.kind hk ?_
  intro env he s1 x
  subst he
  refine ⟨(e0.mod.nolimit.keeps fun b o e => (e0.bs b o e).1).keeps x.toInCall.keep, codeAny_func ?_⟩
  obtain ⟨t, ht, hq⟩ := hbody cdv A outer s H vs Q E hg (hr.deeper _) hsp
  have I := inv_start (CX := L2.CX P w) (P := P) (w := w) (mg := mg) (base := base) (E := E) S hr.hd e0 (len _ _ _ _ hsp) r x
  refine wpAny_mono (ht.run [] s1 (start N vs) H _ I hq) ?_ (fun e s' hs => hs)
  intro fl s' hs
  cases fl with
  | ret u =>
    obtain ⟨v, σ', H', J, rv, q⟩ := hs
    exact ⟨v, H', J.os, J.bare, J.base, J.hok, rv, q⟩
  | next =>
    obtain ⟨σ', H', J, q⟩ := hs
    exact ⟨V.non, H', J.os, J.bare, J.base, J.hok, rfl, q⟩
  | brk =>
    obtain ⟨_, _, _, q⟩ := hs
    exact q.elim
  | cont =>
    obtain ⟨_, _, _, q⟩ := hs
    exact q.elim

/-! ### canonical readings -/
section
variable {X : Cx} {e : Expr}
def cE (X : Cx) (e : Expr) : TE := fun σ H Q => ∀ (pins : List (Addr × Obj)) (s : Shared), Inv X pins σ H s → wpAny (model X.prog X.w) X.A (eval e X.env) (EP X pins σ Q) X.xe s
def cT (X : Cx) (e : Expr) : TT := fun σ H Q => ∀ (pins : List (Addr × Obj)) (s : Shared), Inv X pins σ H s → wpAny (model X.prog X.w) X.A (isTrue e X.env (eval e X.env)) (TP X pins σ Q) X.xe s
def cW (X : Cx) (e : Expr) : TT := fun σ H Q => ∀ (whole : Sem Value) (pins : List (Addr × Obj)) (s : Shared), Inv X pins σ H s → wpAny (model X.prog X.w) X.A (isTrue e X.env whole) (TP X pins σ Q) X.xe s
def cA (X : Cx) (es : List Expr) : TA := fun σ H Q => ∀ (pos : Pos) (pins : List (Addr × Obj)) (s : Shared), Inv X pins σ H s → wpAny (model X.prog X.w) X.A (spliced (backTo pos (starEach es X.env))) (AP X pins σ Q) X.xe s
def cS (X : Cx) (st : Stmt) : TS := fun D σ H => ∀ (pins : List (Addr × Obj)) (s : Shared), Inv X pins σ H s → wpAny (model X.prog X.w) X.A (exec st X.env) (SP X pins D) X.xe s
def cSs (X : Cx) (st : List Stmt) : TS := fun D σ H => ∀ (pins : List (Addr × Obj)) (s : Shared), Inv X pins σ H s → wpAny (model X.prog X.w) X.A (execs st X.env) (SP X pins D) X.xe s
theorem cE_pe : PE X e (cE X e) := ⟨fun pins s _ _ _ I h => h pins s I⟩
theorem cT_pt : PT X e (cT X e) := ⟨fun pins s _ _ _ I h => h pins s I⟩
theorem cW_pw : PW X e (cW X e) := ⟨fun wh pins s _ _ _ I h => h wh pins s I⟩
theorem cA_pa {es : List Expr} : PA X es (cA X es) := ⟨fun pos pins s _ _ _ I h => h pos pins s I⟩
theorem cS_ps {st : Stmt} : PS X st (cS X st) := ⟨fun pins s _ _ _ I h => h pins s I⟩
theorem cSs_pss {st : List Stmt} : PSs X st (cSs X st) := ⟨fun pins s _ _ _ I h => h pins s I⟩
theorem cE_of {t : TE} {σ : L2.St} {H : Hp} {Q : VK} (h : PE X e t) (q : t σ H Q) : cE X e σ H Q := fun pins s I => h.run pins s σ H Q I q
theorem cT_of {t : TT} {σ : L2.St} {H : Hp} {Q : Bool → Hp → Prop} (h : PT X e t) (q : t σ H Q) : cT X e σ H Q := fun pins s I => h.run pins s σ H Q I q
theorem cE.imp {σ : L2.St} {H : Hp} {Q Q' : VK} (h : cE X e σ H Q) (i : ∀ v H', Q v H' → Q' v H') : cE X e σ H Q' := fun pins s I => thn (h pins s I) fun u s' q => by
  obtain ⟨v, H', I', r, q⟩ := q
  exact ⟨v, H', I', r, i v H' q⟩
theorem cT.imp {σ : L2.St} {H : Hp} {Q Q' : Bool → Hp → Prop} (h : cT X e σ H Q) (i : ∀ v H', Q v H' → Q' v H') : cT X e σ H Q' := fun pins s I => thn (h pins s I) fun u s' q => by
  obtain ⟨H', I', q⟩ := q
  exact ⟨H', I', i u H' q⟩
theorem cW.imp {σ : L2.St} {H : Hp} {Q Q' : Bool → Hp → Prop} (h : cW X e σ H Q) (i : ∀ v H', Q v H' → Q' v H') : cW X e σ H Q' := fun wh pins s I => thn (h wh pins s I) fun u s' q => by
  obtain ⟨H', I', q⟩ := q
  exact ⟨H', I', i u H' q⟩
theorem cA.imp {es : List Expr} {σ : L2.St} {H : Hp} {Q Q' : List V → Hp → Prop} (h : cA X es σ H Q) (i : ∀ v H', Q v H' → Q' v H') : cA X es σ H Q' := fun pos pins s I => thn (h pos pins s I) fun u s' q => by
  obtain ⟨v, H', I', r, q⟩ := q
  exact ⟨v, H', I', r, i v H' q⟩
theorem SP.imp {pins : List (Addr × Obj)} {D D' : Ends} {f : Flow} {s : Shared} (h : SP X pins D f s) (h1 : ∀ σ H, D.nx σ H → D'.nx σ H) (h2 : ∀ v H, D.rt v H → D'.rt v H) (h3 : ∀ σ H, D.bk σ H → D'.bk σ H) (h4 : ∀ σ H, D.ct σ H → D'.ct σ H) : SP X pins D' f s := by
  cases f with
  | next =>
    obtain ⟨σ', H', I, q⟩ := h
    exact ⟨σ', H', I, h1 _ _ q⟩
  | brk =>
    obtain ⟨σ', H', I, q⟩ := h
    exact ⟨σ', H', I, h3 _ _ q⟩
  | cont =>
    obtain ⟨σ', H', I, q⟩ := h
    exact ⟨σ', H', I, h4 _ _ q⟩
  | ret u =>
    obtain ⟨v, σ', H', I, r, q⟩ := h
    exact ⟨v, σ', H', I, r, h2 _ _ q⟩
end

/-! ### expressions over data -/
abbrev TD := Env' → (B → Env' → Prop) → Prop
abbrev TDT := Env' → (Bool → Env' → Prop) → Prop
abbrev TDA := Env' → (List D → Env' → Prop) → Prop
structure DE (X : Cx) (W : Fix) (e : Expr) (t : TD) : Prop where
  run : ∀ (F H : Hp) (σ : L2.St) (δ : Env') (Q : B → Env' → Prop), SD X.K W F H σ δ → t δ Q → cE X e σ H (DQ X.K W F σ Q)
def TQ (K : PySem.W.Frag) (W : Fix) (F : Hp) (σ : L2.St) (Q : Bool → Env' → Prop) : Bool → Hp → Prop := fun b H' =>
  ∃ (F' : Hp) (δ' : Env'), Same F F' ∧ SD K W F' H' σ δ' ∧ Q b δ'
def AQ (K : PySem.W.Frag) (W : Fix) (F : Hp) (σ : L2.St) (Q : List D → Env' → Prop) : List V → Hp → Prop := fun vs H' =>
  ∃ (F' : Hp) (ds : List D) (δ' : Env'), Same F F' ∧ SD K W F' H' σ δ' ∧ RpL K F' ds vs ∧ Q ds δ'
structure DT (X : Cx) (W : Fix) (e : Expr) (t : TDT) : Prop where
  run : ∀ (F H : Hp) (σ : L2.St) (δ : Env') (Q : Bool → Env' → Prop), SD X.K W F H σ δ → t δ Q → cT X e σ H (TQ X.K W F σ Q)
structure DW (X : Cx) (W : Fix) (e : Expr) (t : TDT) : Prop where
  run : ∀ (F H : Hp) (σ : L2.St) (δ : Env') (Q : Bool → Env' → Prop), SD X.K W F H σ δ → t δ Q → cW X e σ H (TQ X.K W F σ Q)
structure DA (X : Cx) (W : Fix) (es : List Expr) (t : TDA) : Prop where
  run : ∀ (F H : Hp) (σ : L2.St) (δ : Env') (Q : List D → Env' → Prop), SD X.K W F H σ δ → t δ Q → cA X es σ H (AQ X.K W F σ Q)
theorem DW.dt {X : Cx} {W : Fix} {e : Expr} {t : TDT} (h : DW X W e t) : DT X W e t := ⟨fun F H σ δ Q S q pins s I => h.run F H σ δ Q S q _ pins s I⟩

section
variable {K : PySem.W.Frag} {W : Fix} {F F1 H : Hp} {σ : L2.St} {δ : Env'}
theorem DQ.back {Q : B → Env' → Prop} {v : V} (e : Same F F1) (h : DQ K W F1 σ Q v H) : DQ K W F σ Q v H := by
  obtain ⟨F', b, δ', e1, h⟩ := h
  exact ⟨F', b, δ', e.trans e1, h⟩
theorem TQ.back {Q : Bool → Env' → Prop} {v : Bool} (e : Same F F1) (h : TQ K W F1 σ Q v H) : TQ K W F σ Q v H := by
  obtain ⟨F', δ', e1, h⟩ := h
  exact ⟨F', δ', e.trans e1, h⟩
theorem AQ.back {Q : List D → Env' → Prop} {v : List V} (e : Same F F1) (h : AQ K W F1 σ Q v H) : AQ K W F σ Q v H := by
  obtain ⟨F', b, δ', e1, h⟩ := h
  exact ⟨F', b, δ', e.trans e1, h⟩
theorem own_noU {b : B} (h : b.isU = false) (g : b.own = true) : ∃ d, b = .o d := by
  cases b with
  | p d => cases g
  | n ds => cases g
  | o d => exact ⟨d, rfl⟩
  | u w n => cases h
/-- what is frozen where it stood owned -/
theorem own_frozen {o : HO} {d : D} {a : Addr} (h : Own K F H d a) (ho : H a = some o) (hF : F a = none) : Rp K (upd F a o) d (.ref a) := by
  have e : Same F (upd F a o) := same_upd hF
  cases d <;> first | exact h.elim | skip
  · obtain ⟨xs, h1, h2⟩ := h
    rw [h1] at ho
    cases ho
    unfold Rp
    exact ⟨a, xs, rfl, upd_same, RpL.mono e _ _ h2⟩
  · obtain ⟨xs, h1, h2, h3⟩ := h
    rw [h1] at ho
    cases ho
    unfold Rp
    exact ⟨a, xs, rfl, upd_same, RpL.mono e _ _ h2, h3⟩
  · have h1 : H a = some (.set _ _) := h
    rw [h1] at ho
    cases ho
    unfold Rp
    exact ⟨a, rfl, upd_same⟩
/-- data as plain data -/
theorem DQ.plain {Q : B → Env' → Prop} {v : V} (h : DQ K W F σ (fun b δ' => b.isU = false ∧ Q b δ') v H) :
    ∃ (F' : Hp) (b : B) (δ' : Env'), Same F F' ∧ SD K W F' H σ δ' ∧ Rp K F' b.d v ∧ Q b δ' := by
  obtain ⟨F', b, δ', e1, S, r, hs, hu, q⟩ := h
  cases b with
  | p d => exact ⟨F', .p d, δ', e1, S, r, q⟩
  | n ds =>
    obtain ⟨t, xs, rfl, h1, h2, _⟩ := r
    refine ⟨F', .n ds, δ', e1, S, ?_, q⟩
    show Rp K F' (.tup ds) (.ref t)
    unfold Rp
    exact ⟨t, xs, rfl, h1, h2⟩
  | u w n => cases hu
  | o d =>
    obtain ⟨a, rfl, h1, h2, h3⟩ := r
    obtain ⟨o, ho⟩ := h3.some
    exact ⟨upd F' a o, .o d, δ', e1.trans (same_upd h1), S.freeze ho h2 h1 (hs rfl), own_frozen h3 ho h1, q⟩
/-- plain data as a result -/
theorem DQ.mk {Q : B → Env' → Prop} {v : V} {d : D} (S : SD K W F H σ δ) (r : Rp K F d v) (q : Q (.p d) δ) : DQ K W F σ Q v H :=
  ⟨F, .p d, δ, Same.refl F, S, r, (fun h => by cases h), q⟩
theorem DQ.mkN {Q : B → Env' → Prop} {p : Addr} {o : HO} {d : D} (S : SD K W F H σ δ) (hp : H p = none) (r : Rp K (upd F p o) d (.ref p)) (q : Q (.p d) δ) : DQ K W F σ Q (.ref p) (upd H p o) :=
  ⟨upd F p o, .p d, δ, same_upd (S.freshF hp), S.new hp, r, (fun h => by cases h), q⟩
/-- a new object of one's own as a result -/
theorem DQ.mkO {Q : B → Env' → Prop} {p : Addr} {o : HO} {d : D} (S : SD K W F H σ δ) (hp : H p = none) (r : Own K F (upd H p o) d p) (q : Q (.o d) δ) : DQ K W F σ Q (.ref p) (upd H p o) := by
  refine ⟨F, .o d, δ, Same.refl F, S.newO hp, ⟨p, rfl, S.freshF hp, S.fresh0 hp, r⟩, fun _ j c h1 h2 h3 => ?_, q⟩
  obtain ⟨v, e1, r1⟩ := S.get j c h1
  rw [h3] at e1
  cases e1
  obtain ⟨a, o', e2, h4, _⟩ := r1.there h2
  cases e2
  rw [hp] at h4
  cases h4
end

/-- a part whose value is taken as plain data -/
def dp (t : TD) : Env' → (D → Env' → Prop) → Prop := fun δ Q => t δ fun b δ' => b.isU = false ∧ Q b.d δ'
section
variable {X : Cx} {W : Fix} {e a b : Expr} {t ta tb : TD}
theorem DE.plain {F H : Hp} {σ : L2.St} {δ : Env'} {Q : D → Env' → Prop} (h : DE X W e t) (S : SD X.K W F H σ δ) (q : dp t δ Q) :
    cE X e σ H fun v H' => ∃ (F' : Hp) (d : D) (δ' : Env'), Same F F' ∧ SD X.K W F' H' σ δ' ∧ Rp X.K F' d v ∧ Q d δ' :=
  (h.run F H σ δ _ S q).imp fun v H' z => by
    obtain ⟨F', b, δ', e, S', r, q⟩ := DQ.plain (Q := fun b δ' => Q b.d δ') z
    exact ⟨F', b.d, δ', e, S', r, q⟩
theorem DE.of {te : TE} (h : PE X e te) (hh : ∀ (F H : Hp) (σ : L2.St) (δ : Env') (Q : B → Env' → Prop), SD X.K W F H σ δ → t δ Q → te σ H (DQ X.K W F σ Q)) : DE X W e t :=
  ⟨fun F H σ δ Q S q => cE_of h (hh F H σ δ Q S q)⟩

/-! ### names, constants -/
def dC (d : D) : TD := fun δ Q => Q (.p d) δ
/-- what a name holds once it was read -/
def B.rd : B → B
  | .n ds => .n ds
  | b => .p b.d
/-- a name: what was one's own is shared from then on -/
def dV (i : Nat) : TD := fun δ Q => ∃ b, δ[i]? = some (some b) ∧ b.isU = false ∧ Q (.p b.d) (δ.set i (some b.rd))
/-- a name whose value leaves it (returned, handed on): what was its own stays so -/
def dM (i : Nat) : TD := fun δ Q => ∃ b, δ[i]? = some (some b) ∧ b.isU = false ∧ Q b (δ.set i none)
theorem SD.put {K : PySem.W.Frag} {F H : Hp} {σ : L2.St} {δ : Env'} {i : Nat} {v : V} {b : B} (S : SD K W F H σ δ) (r : RB K W F H b v)
    (hs : b.own = true → ∀ (j : Nat) (c : B), δ[j]? = some (some c) → c.own = true → j ≠ i → σ[j]? ≠ some (some v)) : SD K W F H (σ.set i (some v)) (δ.set i (some b)) where
  f0 := S.f0
  h0 := S.h0
  fh := S.fh
  fr := S.fr
  fp := S.fp
  len := by rw [List.length_set, List.length_set, S.len]
  get := fun j c h => by
    by_cases e : j = i
    · subst e
      have hl : j < δ.length := by
        have := (List.getElem?_eq_some_iff.mp h).1
        rw [List.length_set] at this
        exact this
      rw [List.getElem?_set_self hl] at h
      cases h
      exact ⟨v, by rw [List.getElem?_set_self (by rw [S.len]; exact hl)], r⟩
    · rw [List.getElem?_set_ne (Ne.symm e)] at h
      rw [List.getElem?_set_ne (Ne.symm e)]
      exact S.get j c h
  sep := fun j k c d x ne h1 h2 h3 h4 h5 => by
    by_cases ej : j = i
    · subst ej
      have ek : k ≠ j := Ne.symm ne
      have hl : j < δ.length := by
        have := (List.getElem?_eq_some_iff.mp h1).1
        rw [List.length_set] at this
        exact this
      rw [List.getElem?_set_self hl] at h1
      cases h1
      rw [List.getElem?_set_self (by rw [S.len]; exact hl)] at h5
      cases h5
      rw [List.getElem?_set_ne ne] at h3 ⊢
      exact hs h2 k d h3 h4 ek
    · rw [List.getElem?_set_ne (Ne.symm ej)] at h1 h5
      by_cases ek : k = i
      · subst ek
        have hl : k < δ.length := by
          have := (List.getElem?_eq_some_iff.mp h3).1
          rw [List.length_set] at this
          exact this
        rw [List.getElem?_set_self hl] at h3
        cases h3
        rw [List.getElem?_set_self (by rw [S.len]; exact hl)]
        intro z
        cases z
        exact hs h4 j c h1 h2 ej h5
      · rw [List.getElem?_set_ne (Ne.symm ek)] at h3 ⊢
        exact S.sep j k c d x ne h1 h2 h3 h4 h5
/-- what a slot is known to hold is forgotten -/
theorem SD.drop {K : PySem.W.Frag} {F H : Hp} {σ : L2.St} {δ : Env'} {i : Nat} (S : SD K W F H σ δ) : SD K W F H σ (δ.set i none) where
  f0 := S.f0
  h0 := S.h0
  fh := S.fh
  fr := S.fr
  fp := S.fp
  len := by rw [List.length_set, S.len]
  get := fun j c h => by
    by_cases e : j = i
    · subst e
      have hl : j < δ.length := by
        have := (List.getElem?_eq_some_iff.mp h).1
        rw [List.length_set] at this
        exact this
      rw [List.getElem?_set_self hl] at h
      cases h
    · rw [List.getElem?_set_ne (Ne.symm e)] at h
      exact S.get j c h
  sep := fun j k c d x ne h1 h2 h3 h4 h5 => by
    have aux : ∀ (m : Nat) (c : B), (δ.set i none)[m]? = some (some c) → δ[m]? = some (some c) := fun m c h => by
      by_cases e : m = i
      · subst e
        have hl : m < δ.length := by
          have := (List.getElem?_eq_some_iff.mp h).1
          rw [List.length_set] at this
          exact this
        rw [List.getElem?_set_self hl] at h
        cases h
      · rw [List.getElem?_set_ne (Ne.symm e)] at h
        exact h
    exact S.sep j k c d x ne (aux j c h1) h2 (aux k d h3) h4 h5
theorem set_noop {α : Type} {l : List α} {i : Nat} {x : α} (h : l[i]? = some x) : l.set i x = l := by
  obtain ⟨h1, h2⟩ := List.getElem?_eq_some_iff.mp h
  rw [← h2]
  exact List.set_getElem_self h1
theorem de_var {i : Nat} {x : Str} {pos : Pos} (hN : X.N[i]? = some x) (hv : Vis X.env.scope x) (hd : (x == ("__debug__" : Str)) = false := by decide) (hcd : (x == ("__classdict__" : Str)) = false := by decide) :
    DE X W (.Name x pos) (dV i) := .of (pe_var (X := X) hN hv hd hcd) fun F H σ δ Q S q => by
  obtain ⟨b, h1, h2, q⟩ := q
  obtain ⟨v, h3, r⟩ := S.get i b h1
  refine ⟨v, h3, ?_⟩
  cases b with
  | u w n => cases h2
  | n ds =>
    have e : δ.set i (some (B.n ds).rd) = δ := set_noop h1
    rw [e] at q
    obtain ⟨t, xs, rfl, h4, h5, _⟩ := r
    refine .mk S (?_ : Rp X.K F (.tup ds) (.ref t)) q
    unfold Rp
    exact ⟨t, xs, rfl, h4, h5⟩
  | p d =>
    have e : δ.set i (some (.p d)) = δ := set_noop h1
    have q : Q (.p d) (δ.set i (some (.p d))) := q
    rw [e] at q
    exact .mk S r q
  | o d =>
    obtain ⟨a, rfl, hF, h0, hO⟩ := r
    obtain ⟨o, ho⟩ := hO.some
    have S1 := SD.drop (i := i) S
    have S2 : SD X.K W (upd F a o) H σ (δ.set i none) := S1.freeze ho h0 hF fun j c e1 e2 e3 => by
      by_cases ej : j = i
      · subst ej
        have hl : j < δ.length := (List.getElem?_eq_some_iff.mp h1).1
        rw [List.getElem?_set_self hl] at e1
        cases e1
      · rw [List.getElem?_set_ne (Ne.symm ej)] at e1
        exact S.sep i j (.o d) c (.ref a) (Ne.symm ej) h1 rfl e1 e2 h3 e3
    have r2 : RB X.K W (upd F a o) H (.p d) (.ref a) := own_frozen hO ho hF
    have S3 := S2.put (i := i) r2 (fun z => by cases z)
    rw [set_noop h3, List.set_set] at S3
    exact ⟨upd F a o, .p d, _, same_upd hF, S3, r2, (fun z => by cases z), q⟩
theorem de_move {i : Nat} {x : Str} {pos : Pos} (hN : X.N[i]? = some x) (hv : Vis X.env.scope x) (hd : (x == ("__debug__" : Str)) = false := by decide) (hcd : (x == ("__classdict__" : Str)) = false := by decide) :
    DE X W (.Name x pos) (dM i) := .of (pe_var (X := X) hN hv hd hcd) fun F H σ δ Q S q => by
  obtain ⟨b, h1, h2, q⟩ := q
  obtain ⟨v, h3, r⟩ := S.get i b h1
  refine ⟨v, h3, F, b, _, Same.refl F, S.drop, r, fun hb j c e1 e2 e3 => ?_, q⟩
  by_cases ej : j = i
  · subst ej
    have hl : j < δ.length := (List.getElem?_eq_some_iff.mp h1).1
    rw [List.getElem?_set_self hl] at e1
    cases e1
  · rw [List.getElem?_set_ne (Ne.symm ej)] at e1
    exact S.sep i j b c v (Ne.symm ej) h1 hb e1 e2 h3 e3
theorem de_int {i : Int} {j : Nat} {pos : Pos} : DE X W (.Constant (.int i) j pos) (dC (.int i)) := .of pe_int fun F H σ δ Q S q => .mk S (by unfold Rp; rfl) q
theorem de_bl {i : Bool} {j : Nat} {pos : Pos} : DE X W (.Constant (.bool i) j pos) (dC (.bl i)) := .of pe_bl fun F H σ δ Q S q => .mk S (by unfold Rp; rfl) q
theorem de_non {j : Nat} {pos : Pos} : DE X W (.Constant .none j pos) (dC .non) := .of pe_non fun F H σ δ Q S q => .mk S (by unfold Rp; rfl) q
theorem de_str {i : Str} {j : Nat} {pos : Pos} : DE X W (.Constant (.str i) j pos) (dC (.str i)) := .of pe_str fun F H σ δ Q S q => .mk S (by unfold Rp; rfl) q
/-- a constant of the module -/
theorem de_glob {x : Str} {d : D} {v : V} {u : Value} {pos : Pos} (hg : Gl X x) (hm : X.mg x = some u) (r : RelV v u) (hr : ∀ F, Rp X.K F d v) (hd : (x == ("__debug__" : Str)) = false := by decide) :
    DE X W (.Name x pos) (dC d) := .of (pe_glob hg hm r hd) fun F H σ δ Q S q => .mk S (hr F) q
theorem de_bltn {x : Str} {d : D} {v : V} {u : Value} {pos : Pos} (hg : Gl X x) (hm : X.mg x = none) (hv : bootBuiltins x = some u) (r : RelV v u) (hr : ∀ F, Rp X.K F d v) (hn : x ≠ "__name__" := by decide) (hd : (x == ("__debug__" : Str)) = false := by decide) :
    DE X W (.Name x pos) (dC d) := .of (pe_bltn hg hm hv r hn hd) fun F H σ δ Q S q => .mk S (hr F) q

/-! ### two operands -/
/-- what an operation on two values does over data -/
def RD (K : PySem.W.Frag) (r : R2) (g : D → D → (B → Prop) → Prop) : Prop :=
  ∀ (W : Fix) (F H : Hp) (σ : L2.St) (δ : Env') (x y : V) (c d : D) (Q : B → Prop) (Z : VK), SD K W F H σ δ → Rp K F c x → Rp K F d y → g c d Q →
    (∀ v H', DQ K W F σ (fun b δ' => δ' = δ ∧ Q b) v H' → Z v H') → r x y H Z
def dOp (g : D → D → (B → Prop) → Prop) (ta tb : TD) : TD := fun δ Q => dp ta δ fun x δ1 => dp tb δ1 fun y δ2 => g x y fun z => Q z δ2
theorem DQ.fix {K : PySem.W.Frag} {F F0 H : Hp} {σ : L2.St} {δ : Env'} {Q : B → Env' → Prop} {v : V} (e : Same F0 F) (h : DQ K W F σ (fun b δ' => δ' = δ ∧ Q b δ) v H) : DQ K W F0 σ Q v H := by
  obtain ⟨F', b, δ', e1, S, r, hs, rfl, q⟩ := h
  exact ⟨F', b, δ', e.trans e1, S, r, hs, q⟩
theorem two {F H : Hp} {σ : L2.St} {δ : Env'} {r : R2} {g : D → D → (B → Prop) → Prop} {Q : B → Env' → Prop} (ha : DE X W a ta) (hb : DE X W b tb) (hr : RD X.K r g) (S : SD X.K W F H σ δ) (q : dOp g ta tb δ Q) :
    tOp r (cE X a) (cE X b) σ H (DQ X.K W F σ Q) := by
  refine (ha.plain S q).imp fun x H1 h1 => ?_
  obtain ⟨F1, c, δ1, e1, S1, r1, q1⟩ := h1
  refine (hb.plain S1 q1).imp fun y H2 h2 => ?_
  obtain ⟨F2, d, δ2, e2, S2, r2, q2⟩ := h2
  exact hr W F2 H2 σ δ2 x y c d _ _ S2 (Rp.mono e2 c x r1) r2 q2 fun v H' h => h.fix (e1.trans e2)
theorem de_op {op : Operator} {pos : Pos} {r : R2} {g : D → D → (B → Prop) → Prop} (ho : OpR X (binaryOp op) r) (hr : RD X.K r g) (ha : DE X W a ta) (hb : DE X W b tb) : DE X W (.BinOp a op b pos) (dOp g ta tb) :=
  .of (pe_op ho cE_pe cE_pe) fun _ _ _ _ _ S q => two ha hb hr S q
theorem de_cmp {op : CmpOp} {pos : Pos} {r : R2} {g : D → D → (B → Prop) → Prop} (ho : OpR X (compareOp op) r) (hr : RD X.K r g) (ha : DE X W a ta) (hb : DE X W b tb) (hm : behindInMarks op b = false) : DE X W (.Compare a [op] [b] pos) (dOp g ta tb) :=
  .of (pe_cmpR ho cE_pe cE_pe hm) fun _ _ _ _ _ S q => two ha hb hr S q
/-- a test by its value, a bool -/
def dT (t : TD) : TDT := fun δ Q => t δ fun b δ' => ∃ k, b = .p (.bl k) ∧ Q k δ'
theorem dt_cmp {op : CmpOp} {pos : Pos} {r : R2} {g : D → D → (B → Prop) → Prop} (ho : OpR X (compareOp op) r) (hr : RD X.K r g) (ha : DE X W a ta) (hb : DE X W b tb) (hm : behindInMarks op b = false) : DT X W (.Compare a [op] [b] pos) (dT (dOp g ta tb)) := by
  refine ⟨fun F H σ δ Q S q => cT_of (pt_cmpR ho cE_pe cE_pe hm) ?_⟩
  have q : dp ta δ fun x δ1 => dp tb δ1 fun y δ2 => g x y fun z => ∃ k, z = .p (.bl k) ∧ Q k δ2 := q
  refine (ha.plain S q).imp fun x H1 h1 => ?_
  obtain ⟨F1, c, δ1, e1, S1, r1, q1⟩ := h1
  refine (hb.plain S1 q1).imp fun y H2 h2 => ?_
  obtain ⟨F2, d, δ2, e2, S2, r2, q2⟩ := h2
  refine hr W F2 H2 σ δ2 x y c d _ _ S2 (Rp.mono e2 c x r1) r2 q2 fun v H' h => ?_
  obtain ⟨F3, b, δ3, e3, S3, r3, _, rfl, k, rfl, q3⟩ := h
  exact ⟨k, r3, F3, δ3, (e1.trans e2).trans e3, S3, q3⟩
theorem dt_val {he : ∀ whole, isTrue e X.env whole = (do let v ← whole; standAt e.pos; holding [v] (truthy v))} (h : DE X W e t) : DT X W e (dT t) := by
  refine ⟨fun F H σ δ Q S q => cT_of (pt_val (t := cE X e) cE_pe he) ?_⟩
  refine (h.run F H σ δ _ S q).imp fun x H1 h1 => ?_
  obtain ⟨F3, b, δ3, e3, S3, r3, _, k, rfl, q3⟩ := h1
  exact ⟨k, r3, F3, δ3, e3, S3, q3⟩
end

/-! ### and, or, not; a if t else b -/
section
variable {X : Cx} {W : Fix} {a b c : Expr} {rest : List Expr} {t u : TDT} {ta tb : TD} {pos : Pos}
def dAnd (t u : TDT) : TDT := fun δ Q => t δ fun k δ1 => if k = true then u δ1 Q else Q false δ1
def dOr (t u : TDT) : TDT := fun δ Q => t δ fun k δ1 => if k = true then Q true δ1 else u δ1 Q
def dNot (t : TDT) : TDT := fun δ Q => t δ fun k δ1 => Q (!k) δ1
theorem dw_and1 (h : DT X W a t) : DW X W (.BoolOp .And [a] pos) t := ⟨fun F H σ δ Q S q wh pins s I => (pw_and1 (X := X) cT_pt).run wh pins s σ H _ I (h.run F H σ δ Q S q)⟩
theorem dw_or1 (h : DT X W a t) : DW X W (.BoolOp .Or [a] pos) t := ⟨fun F H σ δ Q S q wh pins s I => (pw_or1 (X := X) cT_pt).run wh pins s σ H _ I (h.run F H σ δ Q S q)⟩
theorem dw_and (h : DT X W a t) (g : DW X W (.BoolOp .And (b :: rest) pos) u) : DW X W (.BoolOp .And (a :: b :: rest) pos) (dAnd t u) := by
  refine ⟨fun F H σ δ Q S q wh pins s I => (pw_and (X := X) cT_pt cW_pw).run wh pins s σ H _ I ?_⟩
  refine (h.run F H σ δ _ S q).imp fun k H1 h1 => ?_
  obtain ⟨F1, δ1, e1, S1, q1⟩ := h1
  cases k with
  | true =>
    rw [if_pos rfl] at q1 ⊢
    exact (g.run F1 H1 σ δ1 Q S1 q1).imp fun k2 H2 h2 => h2.back e1
  | false =>
    rw [if_neg Bool.false_ne_true] at q1 ⊢
    exact ⟨F1, δ1, e1, S1, q1⟩
theorem dw_or (h : DT X W a t) (g : DW X W (.BoolOp .Or (b :: rest) pos) u) : DW X W (.BoolOp .Or (a :: b :: rest) pos) (dOr t u) := by
  refine ⟨fun F H σ δ Q S q wh pins s I => (pw_or (X := X) cT_pt cW_pw).run wh pins s σ H _ I ?_⟩
  refine (h.run F H σ δ _ S q).imp fun k H1 h1 => ?_
  obtain ⟨F1, δ1, e1, S1, q1⟩ := h1
  cases k with
  | false =>
    rw [if_neg Bool.false_ne_true] at q1 ⊢
    exact (g.run F1 H1 σ δ1 Q S1 q1).imp fun k2 H2 h2 => h2.back e1
  | true =>
    rw [if_pos rfl] at q1 ⊢
    exact ⟨F1, δ1, e1, S1, q1⟩
theorem dt_not (h : DT X W a t) : DT X W (.UnaryOp .Not a pos) (dNot t) := by
  refine ⟨fun F H σ δ Q S q => cT_of (pt_not (X := X) cT_pt) ?_⟩
  exact (h.run F H σ δ _ S q).imp fun k H1 h1 => h1
/-- and, or, not as values: all are bools -/
def dAndV (ta tb : TD) : TD := fun δ Q => ta δ fun x δ1 => ∃ k, x = .p (.bl k) ∧ if k = true then tb δ1 Q else Q (.p (.bl false)) δ1
def dOrV (ta tb : TD) : TD := fun δ Q => ta δ fun x δ1 => ∃ k, x = .p (.bl k) ∧ if k = true then Q (.p (.bl true)) δ1 else tb δ1 Q
def dNotV (ta : TD) : TD := fun δ Q => ta δ fun x δ1 => ∃ k, x = .p (.bl k) ∧ Q (.p (.bl (!k))) δ1
theorem de_one {op : BoolOp} (h : DE X W a ta) : DE X W (.BoolOp op [a] pos) ta := .of (pe_one (X := X) (t := cE X a) cE_pe) fun F H σ δ Q S q => h.run F H σ δ Q S q
theorem de_and (h : DE X W a ta) (g : DE X W (.BoolOp .And (b :: rest) pos) tb) : DE X W (.BoolOp .And (a :: b :: rest) pos) (dAndV ta tb) := .of (pe_and (X := X) cE_pe cE_pe) fun F H σ δ Q S q => by
  refine (h.run F H σ δ _ S q).imp fun x H1 h1 => ?_
  obtain ⟨F1, b1, δ1, e1, S1, r1, _, k, rfl, q1⟩ := h1
  refine ⟨k, r1, ?_⟩
  cases k with
  | true =>
    rw [if_pos rfl] at q1 ⊢
    exact (g.run F1 H1 σ δ1 Q S1 q1).imp fun k2 H2 h2 => h2.back e1
  | false =>
    rw [if_neg Bool.false_ne_true] at q1 ⊢
    exact (DQ.mk (Q := Q) S1 (by unfold Rp; rfl) q1).back e1
theorem de_or (h : DE X W a ta) (g : DE X W (.BoolOp .Or (b :: rest) pos) tb) : DE X W (.BoolOp .Or (a :: b :: rest) pos) (dOrV ta tb) := .of (pe_or (X := X) cE_pe cE_pe) fun F H σ δ Q S q => by
  refine (h.run F H σ δ _ S q).imp fun x H1 h1 => ?_
  obtain ⟨F1, b1, δ1, e1, S1, r1, _, k, rfl, q1⟩ := h1
  refine ⟨k, r1, ?_⟩
  cases k with
  | false =>
    rw [if_neg Bool.false_ne_true] at q1 ⊢
    exact (g.run F1 H1 σ δ1 Q S1 q1).imp fun k2 H2 h2 => h2.back e1
  | true =>
    rw [if_pos rfl] at q1 ⊢
    exact (DQ.mk (Q := Q) S1 (by unfold Rp; rfl) q1).back e1
theorem de_not (h : DE X W a ta) : DE X W (.UnaryOp .Not a pos) (dNotV ta) := .of (pe_not (X := X) cE_pe) fun F H σ δ Q S q => by
  refine (h.run F H σ δ _ S q).imp fun x H1 h1 => ?_
  obtain ⟨F1, b1, δ1, e1, S1, r1, _, k, rfl, q1⟩ := h1
  exact ⟨k, r1, (DQ.mk (Q := Q) S1 (d := .bl (!k)) (by unfold Rp; rfl) q1).back e1⟩
def dIf (t : TDT) (ta tb : TD) : TD := fun δ Q => t δ fun k δ1 => if k = true then ta δ1 Q else tb δ1 Q
theorem de_ifExp (hc : DT X W c t) (ha : DE X W a ta) (hb : DE X W b tb) : DE X W (.IfExp c a b pos) (dIf t ta tb) := .of (pe_ifExp (X := X) cT_pt cE_pe cE_pe) fun F H σ δ Q S q => by
  refine (hc.run F H σ δ _ S q).imp fun k H1 h1 => ?_
  obtain ⟨F1, δ1, e1, S1, q1⟩ := h1
  cases k with
  | true =>
    rw [if_pos rfl] at q1 ⊢
    exact (ha.run F1 H1 σ δ1 Q S1 q1).imp fun k2 H2 h2 => h2.back e1
  | false =>
    rw [if_neg Bool.false_ne_true] at q1 ⊢
    exact (hb.run F1 H1 σ δ1 Q S1 q1).imp fun k2 H2 h2 => h2.back e1
end

/-! ### rows of expressions; displays -/
section
variable {X : Cx} {W : Fix} {e : Expr} {es : List Expr} {te : TD} {t : TDA} {pos : Pos}
def dNil : TDA := fun δ Q => Q [] δ
def dCons (te : TD) (t : TDA) : TDA := fun δ Q => dp te δ fun x δ1 => t δ1 fun xs δ2 => Q (x :: xs) δ2
theorem da_nil : DA X W [] dNil := ⟨fun F H σ δ Q S q pos pins s I => (pa_nil (X := X)).run pos pins s σ H _ I ⟨F, [], δ, Same.refl F, S, .nil, q⟩⟩
theorem da_cons (h : DE X W e te) (g : DA X W es t) (hs : starEach (e :: es) X.env = (false, eval e X.env) :: starEach es X.env := by rfl) : DA X W (e :: es) (dCons te t) := by
  refine ⟨fun F H σ δ Q S q pos pins s I => (pa_cons (X := X) cE_pe cA_pa hs).run pos pins s σ H _ I ?_⟩
  refine (h.plain S q).imp fun x H1 h1 => ?_
  obtain ⟨F1, d, δ1, e1, S1, r1, q1⟩ := h1
  refine (g.run F1 H1 σ δ1 _ S1 q1).imp fun xs H2 h2 => ?_
  obtain ⟨F2, ds, δ2, e2, S2, r2, q2⟩ := h2
  exact ⟨F2, d :: ds, δ2, e1.trans e2, S2, .cons (Rp.mono e2 d x r1) r2, q2⟩
def dTup (t : TDA) : TD := fun δ Q => t δ fun ds δ1 => ds.length ≤ sizeLine ∧ Q (.p (.tup ds)) δ1
def dLst (t : TDA) : TD := fun δ Q => t δ fun ds δ1 => ds.length ≤ sizeLine ∧ Q (.o (.lst ds)) δ1
theorem de_tup {x1 : Nat} (h : DA X W es t) : DE X W (.Tuple es x1 pos) (dTup t) := .of (pe_tup (X := X) cA_pa) fun F H σ δ Q S q => by
  refine (h.run F H σ δ _ S q).imp fun xs H1 h1 => ?_
  obtain ⟨F1, ds, δ1, e1, S1, r1, hz, q1⟩ := h1
  refine ⟨by rw [r1.length]; exact hz, fun p hp => ?_⟩
  refine (DQ.mkN S1 hp ?_ q1).back e1
  unfold Rp
  exact ⟨p, xs, rfl, .inl (.inl upd_same), RpL.mono (same_upd (S1.freshF hp)) _ _ r1⟩
theorem de_lst (h : DA X W es t) : DE X W (.List es pos) (dLst t) := .of (pe_lst (X := X) cA_pa) fun F H σ δ Q S q => by
  refine (h.run F H σ δ _ S q).imp fun xs H1 h1 => ?_
  obtain ⟨F1, ds, δ1, e1, S1, r1, hz, q1⟩ := h1
  refine ⟨by rw [r1.length]; exact hz, fun p hp => ?_⟩
  exact (DQ.mkO (d := .lst ds) S1 hp ⟨xs, upd_same, r1⟩ q1).back e1
end
end DD

set_option Elab.async false
set_option linter.all false
set_option maxRecDepth 100000
set_option maxHeartbeats 4000000
/-! DD3: statements over data; loops by recursion on what they walk; comprehensions. -/
namespace DD
open PySem PySem.Spec PyProof.Rows L2

structure EndsD where
  nx : Env' → Prop
  rt : B → Env' → Prop
  bk : Env' → Prop := fun _ => False
  ct : Env' → Prop := fun _ => False
abbrev TSD := EndsD → Env' → Prop
def NQ (K : PySem.W.Frag) (W : Fix) (F : Hp) (N : Env' → Prop) : L2.St → Hp → Prop := fun σ' H' => ∃ (F' : Hp) (δ' : Env'), Same F F' ∧ SD K W F' H' σ' δ' ∧ N δ'
/-- behind a statement: what is frozen may have shrunk -/
def MQ (K : PySem.W.Frag) (W : Fix) (N : Env' → Prop) : L2.St → Hp → Prop := fun σ' H' => ∃ (F' : Hp) (δ' : Env'), SD K W F' H' σ' δ' ∧ N δ'
def UQ (K : PySem.W.Frag) (W : Fix) (R : B → Env' → Prop) : VK := fun v H' => ∃ F σ', DQ K W F σ' R v H'
def toE (K : PySem.W.Frag) (W : Fix) (D : EndsD) : Ends where
  nx := MQ K W D.nx
  rt := UQ K W D.rt
  bk := MQ K W D.bk
  ct := MQ K W D.ct
structure DS (X : Cx) (W : Fix) (st : Stmt) (t : TSD) : Prop where
  run : ∀ (F H : Hp) (σ : L2.St) (δ : Env') (D : EndsD), SD X.K W F H σ δ → t D δ → cS X st (toE X.K W D) σ H
structure DSs (X : Cx) (W : Fix) (st : List Stmt) (t : TSD) : Prop where
  run : ∀ (F H : Hp) (σ : L2.St) (δ : Env') (D : EndsD), SD X.K W F H σ δ → t D δ → cSs X st (toE X.K W D) σ H
theorem NQ.back {K : PySem.W.Frag} {W : Fix} {F F1 H : Hp} {σ : L2.St} {N : Env' → Prop} (e : Same F F1) (h : NQ K W F1 N σ H) : NQ K W F N σ H := by
  obtain ⟨F', δ', e1, h⟩ := h
  exact ⟨F', δ', e.trans e1, h⟩
theorem cS.imp {X : Cx} {st : Stmt} {D D' : Ends} {σ : L2.St} {H : Hp} (h : cS X st D σ H) (h1 : ∀ σ H, D.nx σ H → D'.nx σ H) (h2 : ∀ v H, D.rt v H → D'.rt v H) (h3 : ∀ σ H, D.bk σ H → D'.bk σ H) (h4 : ∀ σ H, D.ct σ H → D'.ct σ H) : cS X st D' σ H :=
  fun pins s I => thn (h pins s I) fun _ _ q => SP.imp q h1 h2 h3 h4
theorem cSs.imp {X : Cx} {st : List Stmt} {D D' : Ends} {σ : L2.St} {H : Hp} (h : cSs X st D σ H) (h1 : ∀ σ H, D.nx σ H → D'.nx σ H) (h2 : ∀ v H, D.rt v H → D'.rt v H) (h3 : ∀ σ H, D.bk σ H → D'.bk σ H) (h4 : ∀ σ H, D.ct σ H → D'.ct σ H) : cSs X st D' σ H :=
  fun pins s I => thn (h pins s I) fun _ _ q => SP.imp q h1 h2 h3 h4
section
variable {X : Cx} {W : Fix} {st : Stmt} {rest : List Stmt} {e c : Expr} {t u : TSD} {te : TD} {tc : TDT} {pos : Pos}
def dNext : TSD := fun D δ => D.nx δ
def dSeq (t u : TSD) : TSD := fun D δ => t { D with nx := u D } δ
theorem dss_nil : DSs X W [] dNext := ⟨fun F H σ δ D S q pins s I => (pss_nil (X := X)).run pins s σ H _ I ⟨F, δ, S, q⟩⟩
theorem dss_cons (h : DS X W st t) (g : DSs X W rest u) : DSs X W (st :: rest) (dSeq t u) := by
  refine ⟨fun F H σ δ D S q pins s I => (pss_cons (X := X) cS_ps cSs_pss).run pins s σ H _ I ?_⟩
  refine (h.run F H σ δ _ S q).imp (fun σ1 H1 h1 => ?_) (fun _ _ h => h) (fun _ _ h => h) (fun _ _ h => h)
  obtain ⟨F1, δ1, S1, q1⟩ := h1
  exact g.run F1 H1 σ1 δ1 D S1 q1
theorem dss_one (h : DS X W st t) : DSs X W [st] t := ⟨fun F H σ δ D S q pins s I => (pss_one (X := X) cS_ps).run pins s σ H _ I (h.run F H σ δ D S q)⟩
def dBreak : TSD := fun D δ => D.bk δ
def dCont : TSD := fun D δ => D.ct δ
theorem cS_of {t : TS} {D : Ends} {σ : L2.St} {H : Hp} (h : PS X st t) (q : t D σ H) : cS X st D σ H := fun pins s I => h.run pins s σ H D I q
theorem DS.of {ts : TS} (h : PS X st ts) (hh : ∀ (F H : Hp) (σ : L2.St) (δ : Env') (D : EndsD), SD X.K W F H σ δ → t D δ → ts (toE X.K W D) σ H) : DS X W st t :=
  ⟨fun F H σ δ D S q => cS_of h (hh F H σ δ D S q)⟩
theorem ds_pass : DS X W (.Pass pos) dNext := .of ps_pass fun F H σ δ D S q => ⟨F, δ, S, q⟩
theorem ds_break : DS X W (.Break pos) dBreak := .of ps_break fun F H σ δ D S q => ⟨F, δ, S, q⟩
theorem ds_continue : DS X W (.Continue pos) dCont := .of ps_continue fun F H σ δ D S q => ⟨F, δ, S, q⟩
def dDrop (te : TD) : TSD := fun D δ => te δ fun _ δ1 => D.nx δ1
theorem ds_expr (h : DE X W e te) (hs : swapsWith e none pos.line X.env = pure false := by rfl) : DS X W (.Expr e pos) (dDrop te) := .of (ps_expr (X := X) cE_pe hs) fun F H σ δ D S q => by
  refine (h.run F H σ δ _ S q).imp fun v H1 h1 => ?_
  obtain ⟨F1, b, δ1, e1, S1, _, _, q1⟩ := h1
  exact ⟨F1, δ1, S1, q1⟩
def dRet (te : TD) : TSD := fun D δ => te δ D.rt
theorem ds_ret (h : DE X W e te) : DS X W (.Return (some e) pos) (dRet te) := .of (ps_ret (X := X) cE_pe) fun F H σ δ D S q =>
  (h.run F H σ δ _ S q).imp fun v H1 h1 => ⟨F, σ, h1⟩
def dRetN : TSD := fun D δ => D.rt (.p .non) δ
theorem ds_retN : DS X W (.Return none pos) dRetN := .of ps_retN fun F H σ δ D S q => ⟨F, σ, .mk S (by unfold Rp; rfl) q⟩
def dIfS (tc : TDT) (t u : TSD) : TSD := fun D δ => tc δ fun k δ1 => if k = true then t D δ1 else u D δ1
theorem ds_if {a b : List Stmt} (hc : DT X W c tc) (ha : DSs X W a t) (hb : DSs X W b u) : DS X W (.If c a b pos) (dIfS tc t u) := .of (ps_if (X := X) cT_pt cSs_pss cSs_pss) fun F H σ δ D S q => by
  refine (hc.run F H σ δ _ S q).imp fun k H1 h1 => ?_
  obtain ⟨F1, δ1, e1, S1, q1⟩ := h1
  cases k with
  | true =>
    rw [if_pos rfl] at q1 ⊢
    exact ha.run F1 H1 σ δ1 D S1 q1
  | false =>
    rw [if_neg Bool.false_ne_true] at q1 ⊢
    exact hb.run F1 H1 σ δ1 D S1 q1
def dNever : TSD := fun _ _ => False
theorem ds_never : DS X W st dNever := ⟨fun _ _ _ _ _ _ h => h.elim⟩
theorem dss_never : DSs X W rest dNever := ⟨fun _ _ _ _ _ _ h => h.elim⟩
def dSet (i : Nat) (te : TD) : TSD := fun D δ => te δ fun b δ1 => D.nx (δ1.set i (some b))
theorem ds_set {i : Nat} {x : Str} {pos' : Pos} (hN : X.N.Nodup) (hi : X.N[i]? = some x) (hx : Loc X.env.scope x) (h : DE X W e te) (hs : swapsWith e (some (.Name x pos')) pos.line X.env = pure false := by rfl)
    (hf : X.fn x = true ∨ X.env.scope.names.lookup x = some .local := by first | exact .inl rfl | exact .inr rfl | assumption) : DS X W (.Assign [.Name x pos'] e pos) (dSet i te) := .of (ps_set (X := X) hN hi hx cE_pe hs hf) fun F H σ δ D S q => by
  refine (h.run F H σ δ _ S q).imp fun v H1 h1 => ?_
  obtain ⟨F1, b, δ1, e1, S1, r1, s1, q1⟩ := h1
  exact ⟨F1, δ1.set i (some b), S1.put r1 fun hb j c h1 h2 _ => s1 hb j c h1 h2, q1⟩

/-! ### targets -/
abbrev TGD := D → Env' → (Env' → Prop) → Prop
abbrev TGDs := List D → Env' → (Env' → Prop) → Prop
structure DG (X : Cx) (W : Fix) (tg : Expr) (g : TGD) : Prop where
  run : ∀ (F H : Hp) (σ : L2.St) (δ : Env') (d : D) (v : V) (Q : Env' → Prop), SD X.K W F H σ δ → Rp X.K F d v → g d δ Q →
    ∀ (pins : List (Addr × Obj)) (s : Shared) (u : Value), Inv X pins σ H s → RelV v u → wpAny (model X.prog X.w) X.A (assign tg X.env u) (fun _ s' => ∃ σ' H', Inv X pins σ' H' s' ∧ NQ X.K W F Q σ' H') X.xe s
structure DGs (X : Cx) (W : Fix) (tgs : List Expr) (g : TGDs) : Prop where
  run : ∀ (F H : Hp) (σ : L2.St) (δ : Env') (ds : List D) (vs : List V) (Q : Env' → Prop), SD X.K W F H σ δ → RpL X.K F ds vs → g ds δ Q →
    ∀ (pins : List (Addr × Obj)) (s : Shared) (us : List Value), Inv X pins σ H s → Vals vs us →
      wpAny (model X.prog X.w) X.A (assignInOrder ((assignEach tgs X.env).map (·.2)) us) (fun _ s' => ∃ σ' H', Inv X pins σ' H' s' ∧ NQ X.K W F Q σ' H') X.xe s
def cG (X : Cx) (tg : Expr) : TG := fun v σ H Q => ∀ (pins : List (Addr × Obj)) (s : Shared) (u : Value), Inv X pins σ H s → RelV v u → wpAny (model X.prog X.w) X.A (assign tg X.env u) (fun _ s' => ∃ σ' H', Inv X pins σ' H' s' ∧ Q σ' H') X.xe s
def cGs (X : Cx) (tgs : List Expr) : TGs := fun vs σ H Q => ∀ (pins : List (Addr × Obj)) (s : Shared) (us : List Value), Inv X pins σ H s → Vals vs us →
  wpAny (model X.prog X.w) X.A (assignInOrder ((assignEach tgs X.env).map (·.2)) us) (fun _ s' => ∃ σ' H', Inv X pins σ' H' s' ∧ Q σ' H') X.xe s
theorem cG_pg {tg : Expr} : PG X tg (cG X tg) := ⟨fun pins s _ _ _ u _ I r h => h pins s u I r⟩
theorem cGs_pgs {tgs : List Expr} : PGs X tgs (cGs X tgs) := ⟨fun pins s _ _ _ u _ I r h => h pins s u I r⟩
def gN (i : Nat) : TGD := fun d δ Q => Q (δ.set i (some (.p d)))
theorem dg_name {i : Nat} {x : Str} (hN : X.N.Nodup) (hi : X.N[i]? = some x) (hx : Loc X.env.scope x) (hf : X.fn x = true ∨ X.env.scope.names.lookup x = some .local := by first | exact .inl rfl | exact .inr rfl | assumption) : DG X W (.Name x pos) (gN i) :=
  ⟨fun F H σ δ d v Q S r q pins s u I ru => (pg_name (X := X) hN hi hx hf).run pins s σ H v u _ I ru ⟨F, δ.set i (some (.p d)), Same.refl F, S.put (b := .p d) r (fun z => by cases z), q⟩⟩
def gsNil : TGDs := fun ds δ Q => ds = [] ∧ Q δ
def gsCons (g : TGD) (gs : TGDs) : TGDs := fun ds δ Q => ∃ d r, ds = d :: r ∧ g d δ fun δ1 => gs r δ1 Q
theorem dgs_nil : DGs X W [] gsNil := ⟨fun F H σ δ ds vs Q S r q pins s us I ru => by
  obtain ⟨rfl, q⟩ := q
  unfold RpL at r
  exact (pgs_nil (X := X)).run pins s σ H vs us _ I ru ⟨r, F, δ, Same.refl F, S, q⟩⟩
theorem dgs_cons {tg : Expr} {tgs : List Expr} {g : TGD} {gs : TGDs} (h : DG X W tg g) (k : DGs X W tgs gs) (hs : (assignEach (tg :: tgs) X.env).map (·.2) = assign tg X.env :: (assignEach tgs X.env).map (·.2) := by rfl) : DGs X W (tg :: tgs) (gsCons g gs) :=
  ⟨fun F H σ δ ds vs Q S r q pins s us I ru => by
    obtain ⟨d, dr, rfl, q⟩ := q
    unfold RpL at r
    obtain ⟨x, xr, rfl, r1, r2⟩ := r
    refine (pgs_cons (X := X) cG_pg cGs_pgs hs).run pins s σ H _ us _ I ru ⟨x, xr, rfl, fun pins s u I ru => ?_⟩
    refine thn (h.run F H σ δ d x _ S r1 q pins s u I ru) fun _ s' h1 => ?_
    obtain ⟨σ', H', I', F1, δ1, e1, S1, q1⟩ := h1
    exact ⟨σ', H', I', fun pins s us I ru => thn (k.run F1 H' σ' δ1 dr xr Q S1 (RpL.mono e1 _ _ r2) q1 pins s us I ru) fun _ s2 ⟨σ2, H2, I2, h2⟩ => ⟨σ2, H2, I2, h2.back e1⟩⟩⟩
def gT (n : Nat) (gs : TGDs) : TGD := fun d δ Q => ∃ ds, d = .tup ds ∧ ds.length = n ∧ gs ds δ Q
theorem dg_tup {es : List Expr} {k n : Nat} {gs : TGDs} (hc : X.calm = true) (h : DGs X W es gs) (hn : (assignEach es X.env).length = n := by rfl) (hst : (assignEach es X.env).findIdx? (·.1) = none := by rfl) : DG X W (.Tuple es k pos) (gT n gs) :=
  ⟨fun F H σ δ d v Q S r q pins s u I ru => by
    obtain ⟨ds, rfl, hl, q⟩ := q
    unfold Rp at r
    obtain ⟨a, xs, rfl, h1, h2⟩ := r
    refine (pg_tup (X := X) hc cGs_pgs hn hst).run pins s σ H _ u _ I ru ⟨a, xs, rfl, sqT_mono S.fh h1, by rw [h2.length, hl], ?_⟩
    exact fun pins s us I ru => h.run F H σ δ ds xs Q S h2 q pins s us I ru⟩
/-- target = value; the value is shared -/
def dAsg (te : TD) (g : TGD) : TSD := fun D δ => dp te δ fun d δ1 => g d δ1 D.nx
theorem ds_asg {tg : Expr} {g : TGD} (h : DE X W e te) (hg : DG X W tg g) (hs : swapsWithSole [tg] e pos.line X.env = pure false := by rfl) (hw : swappedStores [tg] e X.env = pure none := by rfl)
    (h1 : (assignEach [tg] X.env).map (·.2) = [assign tg X.env] := by rfl) : DS X W (.Assign [tg] e pos) (dAsg te g) := .of (ps_asg (X := X) cE_pe cG_pg hs hw h1) fun F H σ δ D S q => by
  refine (h.plain S q).imp fun v H1 h1 => ?_
  obtain ⟨F1, d, δ1, e1, S1, r1, q1⟩ := h1
  exact fun pins s u I ru => thn (hg.run F1 H1 σ δ1 d v _ S1 r1 q1 pins s u I ru) fun _ s2 ⟨σ2, H2, I2, F2, δ2, _, S2, q2⟩ => ⟨σ2, H2, I2, F2, δ2, S2, q2⟩
end

/-! ### what a loop walks -/
/-- the iterator yields just these data, one after another, whatever new things come into being -/
def Yields (K : PySem.W.Frag) (F1 : Hp) (J : It) (ds : List D) : Prop :=
  ∀ (W : Fix) (F' H' : Hp) (σ : L2.St) (δ : Env') (i : Nat), SD K W F' H' σ δ → Same F1 F' →
    (∀ d, ds[i]? = some d → J.go i H' ∧ ∀ x H'', J.yld i H' x H'' → ∃ F'', Same F' F'' ∧ SD K W F'' H'' σ δ ∧ Rp K F'' d x ∧ ∀ b o, H' b = some o → H'' b = some o) ∧ (ds[i]? = none → J.stop i H')
abbrev TDI := Env' → (List D → Env' → Prop) → Prop
def cI (X : Cx) (tg iter : Expr) : TI := fun σ H R => ∀ (pins : List (Addr × Obj)) (s : Shared), Inv X pins σ H s →
  wpAny (model X.prog X.w) X.A (eval iter X.env) (fun v s1 => wpAny (model X.prog X.w) X.A (pyIter v) (PIE X pins σ tg R) X.xe s1) X.xe s
theorem cI_pi {X : Cx} {tg iter : Expr} : PI X tg iter (cI X tg iter) := ⟨fun pins s _ _ _ I h => h pins s I⟩
def IQ (K : PySem.W.Frag) (W : Fix) (F : Hp) (σ : L2.St) (Q : List D → Env' → Prop) : It → Hp → Prop := fun J H1 =>
  ∃ (F1 : Hp) (ds : List D) (δ1 : Env'), Same F F1 ∧ SD K W F1 H1 σ δ1 ∧ Yields K F1 J ds ∧ Q ds δ1
structure DI (X : Cx) (W : Fix) (tg iter : Expr) (wi : TDI) : Prop where
  run : ∀ (F H : Hp) (σ : L2.St) (δ : Env') (Q : List D → Env' → Prop), SD X.K W F H σ δ → wi δ Q → cI X tg iter σ H (IQ X.K W F σ Q)
/-- .. where it needs nothing frozen -/
def IQ0 (K : PySem.W.Frag) (W : Fix) (F : Hp) (σ : L2.St) (Q : List D → Env' → Prop) : It → Hp → Prop := fun J H1 =>
  ∃ (F1 : Hp) (ds : List D) (δ1 : Env'), Same F F1 ∧ SD K W F1 H1 σ δ1 ∧ Yields K (fun _ => none) J ds ∧ Q ds δ1
structure DI0 (X : Cx) (W : Fix) (tg iter : Expr) (wi : TDI) : Prop where
  run : ∀ (F H : Hp) (σ : L2.St) (δ : Env') (Q : List D → Env' → Prop), SD X.K W F H σ δ → wi δ Q → cI X tg iter σ H (IQ0 X.K W F σ Q)
theorem DI0.di {X : Cx} {W : Fix} {tg iter : Expr} {wi : TDI} (h : DI0 X W tg iter wi) : DI X W tg iter wi := by
  refine ⟨fun F H σ δ Q S q pins s I => thn (h.run F H σ δ Q S q pins s I) fun v s1 h1 => thn h1 fun itv s2 h2 => ?_⟩
  obtain ⟨it, fp, tn, J, H1, e1, I1, T1, n1, f1, F1, ds, δ1, eF, S1, Y, q1⟩ := h2
  exact ⟨it, fp, tn, J, H1, e1, I1, T1, n1, f1, F1, ds, δ1, eF, S1, fun W' F' H' σ' δ' i S' _ => Y W' F' H' σ' δ' i S' (fun _ _ z => by cases z), q1⟩
theorem PI.or {X : Cx} {tg iter : Expr} {w1 w2 : TI} (h1 : PI X tg iter w1) (h2 : PI X tg iter w2) : PI X tg iter (fun σ H R => w1 σ H R ∨ w2 σ H R) :=
  ⟨fun pins s σ H R I h => h.elim (h1.run pins s σ H R I) (h2.run pins s σ H R I)⟩
def signs (x : Str) : List D := x.cps.toList.map fun c => .str ⟨#[c]⟩
/-- what data are walked as -/
def walked : D → Option (List D)
  | .lst ds => some ds
  | .tup ds => some ds
  | .str x => some (signs x)
  | _ => none
def iAny (te : TD) : TDI := fun δ Q => dp te δ fun d δ1 => ∃ ds, walked d = some ds ∧ Q ds δ1
theorem yields_lst {K : PySem.W.Frag} {F : Hp} {a : Addr} {xs : List V} {ds : List D} (h : F a = some (.lst xs)) (r : RpL K F ds xs) : Yields K F (Itl K a) ds := by
  intro W F' H' σ δ i S e
  have h1 : SqL K H' a xs := SqL.of (S.fh _ _ (e _ _ h))
  refine ⟨fun d hd => ?_, fun hn => ?_⟩
  · obtain ⟨x, hx, rx⟩ := r.get hd
    refine ⟨⟨xs, x, h1, hx⟩, fun y H'' hy => ?_⟩
    obtain ⟨rfl, hy⟩ := hy
    have := hy xs h1
    rw [hx] at this
    cases this
    exact ⟨F', Same.refl F', S, Rp.mono e d x rx, fun _ _ h => h⟩
  · refine ⟨xs, h1, ?_⟩
    rw [r.length]
    exact List.getElem?_eq_none_iff.mp hn
theorem yields_tup {K : PySem.W.Frag} {F : Hp} {a : Addr} {xs : List V} {ds : List D} (h : SqT K F a xs) (r : RpL K F ds xs) : Yields K F (Itt K a) ds := by
  intro W F' H' σ δ i S e
  have h1 : SqT K H' a xs := sqT_mono (e.trans S.fh) h
  refine ⟨fun d hd => ?_, fun hn => ?_⟩
  · obtain ⟨x, hx, rx⟩ := r.get hd
    refine ⟨⟨xs, x, h1, hx⟩, fun y H'' hy => ?_⟩
    obtain ⟨rfl, hy⟩ := hy
    have := hy xs h1
    rw [hx] at this
    cases this
    exact ⟨F', Same.refl F', S, Rp.mono e d x rx, fun _ _ h => h⟩
  · refine ⟨xs, h1, ?_⟩
    rw [r.length]
    exact List.getElem?_eq_none_iff.mp hn
theorem yields_str {K : PySem.W.Frag} {F : Hp} {x : Str} : Yields K F (Its x) (signs x) := by
  intro W F' H' σ δ i S e
  refine ⟨fun d hd => ?_, fun hn => ?_⟩
  · unfold signs at hd
    rw [List.getElem?_map] at hd
    cases hc : x.cps.toList[i]? with
    | none =>
      rw [hc] at hd
      cases hd
    | some c =>
      rw [hc] at hd
      cases hd
      have hi : i < x.cps.size := by
        have := (List.getElem?_eq_some_iff.mp hc).1
        rw [Array.length_toList] at this
        exact this
      refine ⟨hi, fun y H'' hy => ?_⟩
      obtain ⟨rfl, c', hc', rfl⟩ := hy
      rw [← Array.getElem?_toList, hc] at hc'
      cases hc'
      exact ⟨F', Same.refl F', S, by unfold Rp; rfl, fun _ _ h => h⟩
  · unfold signs at hn
    have := List.getElem?_eq_none_iff.mp hn
    rw [List.length_map, Array.length_toList] at this
    exact this
/-- a fresh iterator is one's own -/
theorem fpNew {X : Cx} {pins : List (Addr × Obj)} {σ : L2.St} {H : Hp} {s : Shared} (I : Inv X pins σ H s) : ∀ b ∈ [s.heap.objs.size], FpOk X pins H b := fun b hb => by
  have e : b = s.heap.objs.size := by simpa using hb
  rw [e]
  exact I.fpOk (Nat.le_refl _) (I.hok.fresh (Nat.le_refl _))
theorem di_any {X : Cx} {W : Fix} {tg iter : Expr} {te : TD} (h : DE X W iter te) : DI X W tg iter (iAny te) := by
  refine ⟨fun F H σ δ Q S q pins s I => ?_⟩
  refine thn (h.plain S q pins s I) fun v s1 h1 => ?_
  obtain ⟨x, H1, I1, r1, F1, d, δ1, e1, S1, rp, ds, hw, q1⟩ := h1
  cases d <;> first | (cases hw; done) | skip
  all_goals cases hw
  · rename_i z
    unfold Rp at rp
    subst rp
    obtain ⟨t, rfl⟩ := r1
    have fin : IQ X.K W F σ Q (Its z) H1 := ⟨F1, _, δ1, e1, S1, yields_str, q1⟩
    by_cases ha : z.cps.all (· < 128) = true
    · exact wpAny_pyIter_ascii ha (pi_one (tk := s1.toks) I1 _ (turn_str _ z t "str_ascii_iterator" (.inl rfl)) ⟨_, Heap.get?_push_size _ rfl, rfl, rfl⟩ fin)
    · exact wpAny_pyIter_wide (Bool.eq_false_iff.mpr ha) (pi_one (tk := s1.toks) I1 _ (turn_str _ z t "str_iterator" (.inr rfl)) ⟨_, Heap.get?_push_size _ rfl, rfl, rfl⟩ fin)
  · unfold Rp at rp
    obtain ⟨a, xs, rfl, h2, h3⟩ := rp
    cases r1
    obtain ⟨its, rv, p, hz⟩ := I1.list (SqL.of (S1.fh _ _ h2))
    refine wpAny_pyIter_list p.isList ?_
    exact ⟨s1.heap.objs.size, [s1.heap.objs.size], _, _, H1, rfl, I1.kept (t' := s1.toks) (fun b o e => Heap.get?_push_of_some _ e), turn_list a _,
      ⟨_, Heap.get?_push_size _ rfl, rfl, rfl⟩, fpNew I1, F1, _, δ1, e1, S1, yields_lst h2 h3, q1⟩
  · unfold Rp at rp
    obtain ⟨a, xs, rfl, h2, h3⟩ := rp
    cases r1
    obtain ⟨its, rv, p, hz⟩ := I1.tuple (sqT_mono S1.fh h2)
    refine wpAny_pyIter_tuple (show s1.heap.IsTuple a its.toArray from p) ?_
    exact ⟨s1.heap.objs.size, [s1.heap.objs.size], _, _, H1, rfl, I1.kept (t' := s1.toks) (fun b o e => Heap.get?_push_of_some _ e), turn_tuple a _,
      ⟨_, Heap.get?_push_size _ rfl, rfl, rfl⟩, fpNew I1, F1, _, δ1, e1, S1, yields_tup h2 h3, q1⟩
/-- range(n) -/
def upto (lo : Int) (n : Nat) : List D := (List.range n).map fun i => .int (lo + (i : Nat))
theorem yields_rng {K : PySem.W.Frag} {F : Hp} {lo : Int} {n : Nat} : Yields K F (Itr lo n) (upto lo n) := by
  intro W F' H' σ δ i S e
  refine ⟨fun d hd => ?_, fun hn => ?_⟩
  · unfold upto at hd
    rw [List.getElem?_map] at hd
    by_cases hi : i < n
    · rw [List.getElem?_range hi] at hd
      cases hd
      refine ⟨hi, fun y H'' hy => ?_⟩
      obtain ⟨rfl, rfl⟩ := hy
      exact ⟨F', Same.refl F', S, by unfold Rp; rfl, fun _ _ h => h⟩
    · rw [List.getElem?_eq_none (by rw [List.length_range]; omega)] at hd
      cases hd
  · unfold upto at hn
    have := List.getElem?_eq_none_iff.mp hn
    rw [List.length_map, List.length_range] at this
    exact this
def iR1 (t : TDA) : TDI := fun δ Q => t δ fun ds δ1 => ∃ j : Int, ds = [.int j] ∧ -(2 ^ 62) ≤ j ∧ j < 2 ^ 62 ∧ Q (upto 0 j.toNat) δ1
def iR2 (t : TDA) : TDI := fun δ Q => t δ fun ds δ1 => ∃ i j : Int, ds = [.int i, .int j] ∧ (-(2 ^ 62) ≤ i ∧ i < 2 ^ 62 ∧ -(2 ^ 62) ≤ j ∧ j < 2 ^ 62) ∧ Q (upto i (j - i).toNat) δ1
theorem rpInt {K : PySem.W.Frag} {F : Hp} {i : Int} {v : V} (h : Rp K F (.int i) v) : v = .int i := by
  unfold Rp at h
  exact h
theorem rpL1 {K : PySem.W.Frag} {F : Hp} {d : D} {vs : List V} (h : RpL K F [d] vs) : ∃ v, vs = [v] ∧ Rp K F d v := by
  unfold RpL at h
  obtain ⟨x, r, rfl, h1, h2⟩ := h
  unfold RpL at h2
  rw [h2]
  exact ⟨x, rfl, h1⟩
theorem rpL2 {K : PySem.W.Frag} {F : Hp} {d e : D} {vs : List V} (h : RpL K F [d, e] vs) : ∃ v u, vs = [v, u] ∧ Rp K F d v ∧ Rp K F e u := by
  unfold RpL at h
  obtain ⟨x, r, rfl, h1, h2⟩ := h
  obtain ⟨u, rfl, h3⟩ := rpL1 h2
  exact ⟨x, u, rfl, h1, h3⟩
theorem di_range1 {X : Cx} {W : Fix} {tg a : Expr} {t : TDA} {p pos : Pos} (hg : Gl X "range") (hm : X.mg "range" = none) (h : DA X W [a] t) (hs : starEach [a] X.env = [(false, eval a X.env)] := by rfl) : DI0 X W tg (.Call (.Name "range" p) [a] [] pos) (iR1 t) := by
  refine ⟨fun F H σ δ Q S q pins s I => (pi_range1 (X := X) (ta := cA X [a]) hg hm cA_pa hs).run pins s σ H _ I ?_⟩
  refine (h.run F H σ δ _ S q).imp fun vs H1 h1 => ?_
  obtain ⟨F1, ds, δ1, e1, S1, r1, j, rfl, h2, h3, q1⟩ := h1
  obtain ⟨v, rfl, rv⟩ := rpL1 r1
  exact ⟨j, by rw [rpInt rv], h2, h3, F1, _, δ1, e1, S1, yields_rng, q1⟩
theorem di_range2 {X : Cx} {W : Fix} {tg a b : Expr} {t : TDA} {p pos : Pos} (hg : Gl X "range") (hm : X.mg "range" = none) (h : DA X W [a, b] t) (hs : starEach [a, b] X.env = [(false, eval a X.env), (false, eval b X.env)] := by rfl) (hs2 : starEach [b] X.env = [(false, eval b X.env)] := by rfl) :
    DI0 X W tg (.Call (.Name "range" p) [a, b] [] pos) (iR2 t) := by
  refine ⟨fun F H σ δ Q S q pins s I => (pi_range2 (X := X) (ta := cA X [a, b]) hg hm cA_pa hs hs2).run pins s σ H _ I ?_⟩
  refine (h.run F H σ δ _ S q).imp fun vs H1 h1 => ?_
  obtain ⟨F1, ds, δ1, e1, S1, r1, i, j, rfl, h2, q1⟩ := h1
  obtain ⟨v, u, rfl, rv, ru⟩ := rpL2 r1
  exact ⟨i, j, by rw [rpInt rv, rpInt ru], h2, F1, _, δ1, e1, S1, yields_rng, q1⟩

/-! ### another ground for the same state -/
section
variable {K : PySem.W.Frag} {W : Fix} {F F' H H' : Hp} {σ σ' : L2.St} {δ δ' : Env'}
theorem RB.re {W' : Fix} {b : B} {v : V} (h : RB K W F H b v) (e1 : W'.H0 = W.H0) (e2 : W'.P = W.P) : RB K W' F H b v := by
  cases b with
  | p d => exact h
  | n ds =>
    obtain ⟨t, xs, h1, h2, h3, h4⟩ := h
    exact ⟨t, xs, h1, h2, h3, fun a ha => ⟨(h4 a ha).1, by rw [e1]; exact (h4 a ha).2⟩⟩
  | o d =>
    obtain ⟨a, h1, h2, h3, h4⟩ := h
    exact ⟨a, h1, h2, by rw [e1]; exact h3, h4⟩
  | u w n =>
    obtain ⟨p, x, y, z, h1, h2, h3, h4⟩ := h
    refine ⟨p, x, y, z, h1, h2, ?_, h4⟩
    rw [e1, e2]
    exact h3
def Fix.at (W : Fix) (F : Hp) (E : Addr → List D → Env' → Prop) : Fix := { F0 := F, H0 := W.H0, P := W.P, E := E }
theorem SD.into (S : SD K W F H σ δ) (E : Addr → List D → Env' → Prop) : SD K (W.at F E) F H σ δ where
  f0 := Same.refl F
  h0 := S.h0
  fh := S.fh
  fr := fun _ _ h => .inl h
  fp := S.fp
  len := S.len
  get := fun i b h => by
    obtain ⟨v, h1, h2⟩ := S.get i b h
    exact ⟨v, h1, h2.re rfl rfl⟩
  sep := S.sep
theorem SD.outof {E : Addr → List D → Env' → Prop} (S : SD K W F H σ δ) (T : SD K (W.at F E) F' H' σ' δ') : SD K W F' H' σ' δ' where
  f0 := S.f0.trans T.f0
  h0 := T.h0
  fh := T.fh
  fr := fun a o h => by
    rcases T.fr a o h with z | z
    · exact S.fr a o z
    · exact .inr z
  fp := T.fp
  len := T.len
  get := fun i b h => by
    obtain ⟨v, h1, h2⟩ := T.get i b h
    exact ⟨v, h1, h2.re rfl rfl⟩
  sep := T.sep
theorem MQ.outof {E : Addr → List D → Env' → Prop} {N : Env' → Prop} (S : SD K W F H σ δ) (h : MQ K (W.at F E) N σ' H') : MQ K W N σ' H' := by
  obtain ⟨F', δ', T, q⟩ := h
  exact ⟨F', δ', S.outof T, q⟩
theorem UQ.outof {E : Addr → List D → Env' → Prop} {R : B → Env' → Prop} {v : V} (S : SD K W F H σ δ) (h : UQ K (W.at F E) R v H') : UQ K W R v H' := by
  obtain ⟨F0, σ', F', b, δ', e, T, r, sp, q⟩ := h
  exact ⟨F0, σ', F', b, δ', e, S.outof T, r.re rfl rfl, sp, q⟩
end

/-- an exception's class and what it holds -/
def ExcRep (K : PySem.W.Frag) (F : Hp) (C : Addr) (ds : List D) (cls : Value) (d : Option Addr) : Prop :=
  cls = .ref C ∧ ((ds = [] ∧ d = none) ∨ ∃ dd x dv, ds = [dv] ∧ d = some dd ∧ F dd = some (.xd [("value", x)]) ∧ Rp K F dv x)
theorem ExcRep.mono {K : PySem.W.Frag} {F F' : Hp} {C : Addr} {ds : List D} {cls : Value} {d : Option Addr} (e : Same F F') (h : ExcRep K F C ds cls d) : ExcRep K F' C ds cls d := by
  obtain ⟨h1, h⟩ := h
  refine ⟨h1, ?_⟩
  rcases h with h | ⟨dd, x, dv, h2, h3, h4, h5⟩
  · exact .inl h
  · exact .inr ⟨dd, x, dv, h2, h3, e _ _ h4, Rp.mono e _ _ h5⟩
def WXd (K : PySem.W.Frag) (W : Fix) : WX := fun cls d σ H => ∃ (F : Hp) (δ : Env') (C : Addr) (ds : List D), SD K W F H σ δ ∧ ExcRep K F C ds cls d ∧ W.E C ds δ

/-- what is wished of an exception, and that it is kept -/
structure TkE (X : Cx) (W : Fix) (E : Addr → List D → Env' → Prop) : Prop where
  eq : W.E = E
  tk : Takes X (WXd X.K W)
theorem TkE.at {X : Cx} {W : Fix} {E : Addr → List D → Env' → Prop} {F H : Hp} {σ : L2.St} {δ : Env'} (h : TkE X W E) (S : SD X.K W F H σ δ) : TkE X (W.at F W.E) E :=
  ⟨h.eq, h.tk.imp fun _ _ _ _ z => by
    obtain ⟨F', δ', C, ds, T, er, q⟩ := z
    exact ⟨F', δ', C, ds, S.outof T, er, q⟩⟩

/-! ### for, while -/
section
variable {X : Cx} {W : Fix} {E0 : Addr → List D → Env' → Prop} {tg iter c : Expr} {body : List Stmt} {wi : TDI} {g : TGD} {tb : TSD} {tc : TDT} {pos : Pos}
def forL (g : TGD) (tb : TSD) (Z : EndsD) : List D → Env' → Prop
  | [], δ => Z.nx δ
  | d :: ds, δ => g d δ fun δ1 => tb { Z with nx := forL g tb Z ds, ct := forL g tb Z ds, bk := Z.nx } δ1
def dFor (wi : TDI) (g : TGD) (tb : TSD) : TSD := fun Z δ => wi δ fun ds δ1 => forL g tb Z ds δ1
theorem ds_for (te : TkE X W E0) (hp : PassesOwn (model X.prog X.w) X.A X.env X.xe) (hc : X.calm = true) (hi : DI X W tg iter wi) (hg : ∀ W', DG X W' tg g) (hb : ∀ W', TkE X W' E0 → DSs X W' body tb)
    (hs : ∀ x, foldedSetIterable iter X.env x = pure x := by intro _; rfl) : DS X W (.For tg iter body [] pos) (dFor wi g tb) := by
  refine .of (ps_for (X := X) hp hc cI_pi cG_pg cSs_pss hs) fun F H σ δ D S q pins s I => ?_
  refine thn (hi.run F H σ δ _ S q pins s I) fun v s1 h1 => thn h1 fun itv s2 h2 => ?_
  obtain ⟨it, fp, tn, J, H1, e1, I1, T1, n1, f1, F1, ds, δ1, eF, S1, Y, q1⟩ := h2
  have te1 := te.at S1
  have St := S1.into W.E
  generalize hW : W.at F1 W.E = W1 at te1 St
  have hF : W1.F0 = F1 := by rw [← hW] <;> rfl
  have out : ∀ {F2 H2 : Hp} {σ2 : L2.St} {δ2 : Env'}, SD X.K W1 F2 H2 σ2 δ2 → SD X.K W F2 H2 σ2 δ2 := fun {F2 H2 σ2 δ2} T => S1.outof (E := W.E) (by rw [hW]; exact T)
  refine ⟨it, fp, tn, J, H1, e1, I1, T1, n1, f1, ?_⟩
  refine ⟨fun i m σ' H' => m = ds.length - i ∧ i ≤ ds.length ∧ ∃ F' δ', SD X.K W1 F' H' σ' δ' ∧ forL g tb D (ds.drop i) δ', ⟨_, rfl, Nat.zero_le _, F1, δ1, St, q1⟩, ?_⟩
  rintro i m σ' H' ⟨rfl, hi, F', δ', S', q'⟩
  have e' : Same F1 F' := by
    have := S'.f0
    rw [hF] at this
    exact this
  obtain ⟨y1, y2⟩ := Y W1 F' H' σ' δ' i S' e'
  by_cases hl : i < ds.length
  · have hd : ds[i]? = some ds[i] := List.getElem?_eq_getElem hl
    rw [List.drop_eq_getElem_cons hl] at q'
    obtain ⟨hgo, hy⟩ := y1 _ hd
    refine .inr ⟨hgo, MQ X.K W1 (forL g tb D (ds.drop (i + 1))), fun σ2 H2 h2 => ?_, fun x H2 hyl => ?_⟩
    · obtain ⟨F2, δ2, S2, q2⟩ := h2
      exact ⟨ds.length - (i + 1), by omega, rfl, hl, F2, δ2, S2, q2⟩
    · obtain ⟨F2, e2, S2, rx, _⟩ := hy x H2 hyl
      intro pins s u I ru
      refine thn ((hg W1).run F2 H2 σ' δ' _ x _ S2 rx q' pins s u I ru) fun _ s' h3 => ?_
      obtain ⟨σ3, H3, I3, F3, δ3, e3, S3, q3⟩ := h3
      refine ⟨σ3, H3, I3, ((hb W1 te1).run F3 H3 σ3 δ3 _ S3 q3).imp (fun _ _ h => h) (fun _ _ h => ?_) (fun _ _ h => ?_) fun _ _ h => h⟩
      · exact UQ.outof (E := W.E) S1 (by rw [hW]; exact h)
      · exact MQ.outof (E := W.E) S1 (by rw [hW]; exact h)
  · have e0 : i = ds.length := by omega
    subst e0
    rw [List.drop_length] at q'
    exact .inl ⟨y2 (List.getElem?_eq_none (Nat.le_refl _)), F', δ', out S', q'⟩
/-- for over a range: nothing frozen need stay -/
theorem ds_forR (hp : PassesOwn (model X.prog X.w) X.A X.env X.xe) (hc : X.calm = true) (hi : DI0 X W tg iter wi) (hg : DG X W tg g) (hb : DSs X W body tb)
    (hs : ∀ x, foldedSetIterable iter X.env x = pure x := by intro _; rfl) : DS X W (.For tg iter body [] pos) (dFor wi g tb) := by
  refine .of (ps_for (X := X) hp hc cI_pi cG_pg cSs_pss hs) fun F H σ δ D S q pins s I => ?_
  refine thn (hi.run F H σ δ _ S q pins s I) fun v s1 h1 => thn h1 fun itv s2 h2 => ?_
  obtain ⟨it, fp, tn, J, H1, e1, I1, T1, n1, f1, F1, ds, δ1, eF, S1, Y, q1⟩ := h2
  refine ⟨it, fp, tn, J, H1, e1, I1, T1, n1, f1, ?_⟩
  refine ⟨fun i m σ' H' => m = ds.length - i ∧ i ≤ ds.length ∧ ∃ F' δ', SD X.K W F' H' σ' δ' ∧ forL g tb D (ds.drop i) δ', ⟨_, rfl, Nat.zero_le _, F1, δ1, S1, q1⟩, ?_⟩
  rintro i m σ' H' ⟨rfl, hi, F', δ', S', q'⟩
  obtain ⟨y1, y2⟩ := Y W F' H' σ' δ' i S' (fun _ _ z => by cases z)
  by_cases hl : i < ds.length
  · have hd : ds[i]? = some ds[i] := List.getElem?_eq_getElem hl
    rw [List.drop_eq_getElem_cons hl] at q'
    obtain ⟨hgo, hy⟩ := y1 _ hd
    refine .inr ⟨hgo, MQ X.K W (forL g tb D (ds.drop (i + 1))), fun σ2 H2 h2 => ?_, fun x H2 hyl => ?_⟩
    · obtain ⟨F2, δ2, S2, q2⟩ := h2
      exact ⟨ds.length - (i + 1), by omega, rfl, hl, F2, δ2, S2, q2⟩
    · obtain ⟨F2, e2, S2, rx, _⟩ := hy x H2 hyl
      intro pins s u I ru
      refine thn (hg.run F2 H2 σ' δ' _ x _ S2 rx q' pins s u I ru) fun _ s' h3 => ?_
      obtain ⟨σ3, H3, I3, F3, δ3, e3, S3, q3⟩ := h3
      exact ⟨σ3, H3, I3, hb.run F3 H3 σ3 δ3 _ S3 q3⟩
  · have e0 : i = ds.length := by omega
    subst e0
    rw [List.drop_length] at q'
    exact .inl ⟨y2 (List.getElem?_eq_none (Nat.le_refl _)), F', δ', S', q'⟩
def whileN (tc : TDT) (tb : TSD) (Z : EndsD) : Nat → Env' → Prop
  | 0, _ => False
  | n + 1, δ => tc δ fun k δ1 => if k = true then tb { Z with nx := whileN tc tb Z n, ct := whileN tc tb Z n, bk := Z.nx } δ1 else Z.nx δ1
def dWhile (tc : TDT) (tb : TSD) : TSD := fun Z δ => ∃ n, whileN tc tb Z n δ
theorem ds_while (hp : PassesOwn (model X.prog X.w) X.A X.env X.xe) (hc : DT X W c tc) (hb : DSs X W body tb) : DS X W (.While c body [] pos) (dWhile tc tb) := by
  refine .of (ps_while (X := X) hp cT_pt cSs_pss) fun F H σ δ D S q => ?_
  obtain ⟨n, q⟩ := q
  refine ⟨fun m σ' H' => ∃ F' δ', SD X.K W F' H' σ' δ' ∧ whileN tc tb D m δ', ⟨n, F, δ, S, q⟩, ?_⟩
  rintro m σ' H' ⟨F', δ', S', q'⟩
  cases m with
  | zero => exact q'.elim
  | succ m =>
    refine (hc.run F' H' σ' δ' _ S' q').imp fun k H1 h1 => ?_
    obtain ⟨F1, δ1, e1, S1, q1⟩ := h1
    cases k with
    | true =>
      rw [if_pos rfl] at q1 ⊢
      refine ⟨MQ X.K W (whileN tc tb D m), fun σ2 H2 h2 => ?_, ?_⟩
      · obtain ⟨F2, δ2, S2, q2⟩ := h2
        exact ⟨m, Nat.lt_succ_self m, F2, δ2, S2, q2⟩
      · exact hb.run F1 H1 σ' δ1 _ S1 q1
    | false =>
      rw [if_neg Bool.false_ne_true] at q1 ⊢
      exact ⟨F1, δ1, S1, q1⟩
end
end DD

set_option Elab.async false
set_option linter.all false
set_option maxRecDepth 100000
set_option maxHeartbeats 4000000
/-! DD4: list comprehensions over data. -/
namespace DD
open PySem PySem.Spec PyProof.Rows L2

def wipeE (δ : Env') : List Nat → Env'
  | [] => δ
  | v :: vs => (wipeE δ vs).set v none
theorem wipeE_length (δ : Env') : ∀ vs : List Nat, (wipeE δ vs).length = δ.length
  | [] => rfl
  | v :: vs => by
    unfold wipeE
    rw [List.length_set, wipeE_length δ vs]
theorem wipeE_some {δ : Env'} {i : Nat} {b : B} : ∀ {vs : List Nat}, (wipeE δ vs)[i]? = some (some b) → δ[i]? = some (some b) ∧ i ∉ vs
  | [], h => ⟨h, by simp⟩
  | v :: vs, h => by
    unfold wipeE at h
    by_cases hi : v = i
    · subst hi
      by_cases hv : v < (wipeE δ vs).length
      · rw [List.getElem?_set_self hv] at h
        cases h
      · rw [List.getElem?_eq_none (by simpa using hv)] at h
        cases h
    · rw [List.getElem?_set_ne hi] at h
      obtain ⟨h1, h2⟩ := wipeE_some h
      refine ⟨h1, fun z => ?_⟩
      rcases List.mem_cons.mp z with z | z
      · exact hi z.symm
      · exact h2 z
theorem wipe_off {σ : L2.St} {i : Nat} : ∀ {vs : List Nat}, i ∉ vs → (wipe σ vs)[i]? = σ[i]?
  | [], _ => rfl
  | v :: vs, h => by
    unfold wipe
    have h1 : v ≠ i := fun z => h (by rw [z]; exact List.mem_cons_self)
    rw [List.getElem?_set_ne h1]
    exact wipe_off fun z => h (List.mem_cons_of_mem _ z)
theorem wipe_set {x : V} {i : Nat} : ∀ {vs : List Nat} {σ : L2.St}, i ∈ vs → wipe (σ.set i (some x)) vs = wipe σ vs
  | v :: vs, σ, h => by
    unfold wipe
    by_cases e : i ∈ vs
    · rw [wipe_set e]
    · rcases List.mem_cons.mp h with rfl | h
      · apply List.ext_getElem?
        intro j
        by_cases ej : j = i
        · subst ej
          by_cases hl : j < σ.length
          · rw [List.getElem?_set_self (by rw [wipe_length, List.length_set]; exact hl), List.getElem?_set_self (by rw [wipe_length]; exact hl)]
          · rw [List.getElem?_eq_none (by rw [List.length_set, wipe_length, List.length_set]; omega), List.getElem?_eq_none (by rw [List.length_set, wipe_length]; omega)]
        · rw [List.getElem?_set_ne (Ne.symm ej), List.getElem?_set_ne (Ne.symm ej)]
          by_cases em : j ∈ vs
          · -- both none or out of range
            have aux : ∀ τ : L2.St, τ.length = σ.length → (wipe τ vs)[j]? = (wipe σ vs)[j]? := fun τ ht => by
              have n1 : ∀ (ρ : L2.St) (x : V), (wipe ρ vs)[j]? ≠ some (some x) := fun ρ x z => (wipe_some z).2 em
              by_cases hl : j < σ.length
              · have h1 : j < (wipe τ vs).length := by rw [wipe_length, ht]; exact hl
                have h2 : j < (wipe σ vs).length := by rw [wipe_length]; exact hl
                rw [List.getElem?_eq_getElem h1, List.getElem?_eq_getElem h2]
                cases q1 : (wipe τ vs)[j] with
                | some x => exact absurd (by rw [List.getElem?_eq_getElem h1, q1]) (n1 τ x)
                | none =>
                  cases q2 : (wipe σ vs)[j] with
                  | some x => exact absurd (by rw [List.getElem?_eq_getElem h2, q2]) (n1 σ x)
                  | none => rfl
              · rw [List.getElem?_eq_none (by rw [wipe_length, ht]; omega), List.getElem?_eq_none (by rw [wipe_length]; omega)]
            exact aux _ (List.length_set)
          · rw [wipe_off em, wipe_off em, List.getElem?_set_ne (Ne.symm ej)]
      · exact absurd h e
section
variable {K : PySem.W.Frag} {W : Fix} {F H : Hp} {σ τ : L2.St} {δ : Env'} {vs : List Nat}
/-- the slots may be others where nothing is told of them -/
theorem SD.slots (S : SD K W F H σ δ) (hl : τ.length = σ.length) (h : ∀ (i : Nat) (b : B), δ[i]? = some (some b) → τ[i]? = σ[i]?) : SD K W F H τ δ where
  f0 := S.f0
  h0 := S.h0
  fh := S.fh
  fr := S.fr
  fp := S.fp
  len := by rw [hl, S.len]
  get := fun i b e => by
    rw [h i b e]
    exact S.get i b e
  sep := fun i j b c v ne h1 h2 h3 h4 h5 => by
    rw [h i b h1] at h5
    rw [h j c h3]
    exact S.sep i j b c v ne h1 h2 h3 h4 h5
theorem SD.wipeE (S : SD K W F H σ δ) : ∀ vs : List Nat, SD K W F H σ (wipeE δ vs)
  | [] => S
  | v :: vs => by
    unfold DD.wipeE
    exact (SD.wipeE S vs).drop
theorem SD.wiped (S : SD K W F H σ δ) : SD K W F H (wipe σ vs) (DD.wipeE δ vs) :=
  (S.wipeE vs).slots (wipe_length σ vs) fun i b e => wipe_off (wipeE_some e).2
/-- the ground with one more object that must stay -/
def Fix.hold (W : Fix) (a : Addr) (o : HO) : Fix := { W with H0 := upd W.H0 a o }
theorem SD.held {a : Addr} {o : HO} (S : SD K W F H σ δ) (ha : H a = some o) (h0 : W.H0 a = none) (hF : F a = none) (hP : W.P ≠ some a) (hn : ∀ (j : Nat) (c : B), δ[j]? = some (some c) → c.own = true → σ[j]? ≠ some (some (.ref a))) : SD K (W.hold a o) F H σ δ where
  f0 := S.f0
  h0 := fun b u e n => by
    by_cases q : b = a
    · subst q
      have e : upd W.H0 b o b = some u := e
      rw [upd_same] at e
      cases e
      exact ha
    · have e : upd W.H0 a o b = some u := e
      rw [upd_ne q] at e
      exact S.h0 b u e n
  fh := S.fh
  fr := fun b u e => by
    rcases S.fr b u e with h | h
    · exact .inl h
    · refine .inr ?_
      have q : b ≠ a := fun z => by
        rw [z, hF] at e
        cases e
      show upd W.H0 a o b = none
      rw [upd_ne q]
      exact h
  fp := fun b h => by
    obtain ⟨h1, h2, u, h3⟩ := S.fp b h
    refine ⟨h1, h2, u, ?_⟩
    have q : b ≠ a := fun z => by
      rw [z, h0] at h3
      cases h3
    show upd W.H0 a o b = some u
    rw [upd_ne q]
    exact h3
  len := S.len
  get := fun i b e => by
    obtain ⟨v, h1, h2⟩ := S.get i b e
    refine ⟨v, h1, ?_⟩
    cases b with
    | p d => exact h2
    | n ds =>
      obtain ⟨t, xs, rfl, h3, h4, h5⟩ := h2
      refine ⟨t, xs, rfl, h3, h4, fun c hc => ?_⟩
      obtain ⟨⟨ys, h6⟩, h7⟩ := h5 c hc
      have q : c ≠ a := fun z => by
        rw [z, hF] at h6
        cases h6
      exact ⟨⟨ys, h6⟩, by show upd W.H0 a o c = none; rw [upd_ne q]; exact h7⟩
    | o d =>
      obtain ⟨c, rfl, h3, h4, h5⟩ := h2
      have q : c ≠ a := fun z => hn i _ e rfl (by rw [h1, z])
      exact ⟨c, rfl, h3, by show upd W.H0 a o c = none; rw [upd_ne q]; exact h4, h5⟩
    | u w n =>
      obtain ⟨c, x, y, z, rfl, h3, h4, h5⟩ := h2
      have q : c ≠ a := fun z => hn i _ e rfl (by rw [h1, z])
      exact ⟨c, x, y, z, rfl, h3, by show if w = true then _ else upd W.H0 a o c = none; rw [upd_ne q]; exact h4, h5⟩
  sep := S.sep
theorem SD.unheld {a : Addr} {o : HO} (S : SD K (W.hold a o) F H σ δ) (h0 : W.H0 a = none) (hF : W.F0 a = none) (hP : W.P ≠ some a) :
    SD K W F H σ δ ∧ H a = some o ∧ F a = none ∧ ∀ (j : Nat) (c : B), δ[j]? = some (some c) → c.own = true → σ[j]? ≠ some (some (.ref a)) := by
  have e0 : (W.hold a o).H0 a = some o := upd_same
  have ge : ∀ b, b ≠ a → (W.hold a o).H0 b = W.H0 b := fun b q => upd_ne q
  have back : ∀ b, (W.hold a o).H0 b = none → b ≠ a ∧ W.H0 b = none := fun b h => by
    have q : b ≠ a := fun z => by
      rw [z, e0] at h
      cases h
    rw [ge b q] at h
    exact ⟨q, h⟩
  have hFa : F a = none := by
    cases q : F a with
    | none => rfl
    | some u =>
      rcases S.fr a u q with h | h
      · have h : W.F0 a = some u := h
        rw [hF] at h
        cases h
      · exact absurd rfl (back a h).1
  refine ⟨⟨S.f0, fun b u e n => ?_, S.fh, fun b u e => ?_, fun b h => ?_, S.len, fun i b e => ?_, S.sep⟩, S.h0 a o e0 hP, hFa, fun j c e1 e2 e3 => ?_⟩
  · have q : b ≠ a := fun z => by
      rw [z, h0] at e
      cases e
    exact S.h0 b u (by rw [ge b q]; exact e) n
  · rcases S.fr b u e with h | h
    · exact .inl h
    · exact .inr (back b h).2
  · obtain ⟨h1, h2, u, h3⟩ := S.fp b h
    have q : b ≠ a := fun z => by
      subst z
      exact hP h
    rw [ge b q] at h3
    exact ⟨h1, h2, u, h3⟩
  · obtain ⟨v, h1, h2⟩ := S.get i b e
    refine ⟨v, h1, ?_⟩
    cases b with
    | p d => exact h2
    | n ds =>
      obtain ⟨t, xs, rfl, h3, h4, h5⟩ := h2
      exact ⟨t, xs, rfl, h3, h4, fun c hc => ⟨(h5 c hc).1, (back c (h5 c hc).2).2⟩⟩
    | o d =>
      obtain ⟨c, rfl, h3, h4, h5⟩ := h2
      exact ⟨c, rfl, h3, (back c h4).2, h5⟩
    | u w n =>
      obtain ⟨c, x, y, z, rfl, h3, h4, h5⟩ := h2
      refine ⟨c, x, y, z, rfl, h3, ?_, h5⟩
      cases w with
      | true => exact h4
      | false =>
        simp only [Bool.false_eq_true, if_false] at h4 ⊢
        exact (back c h4).2
  · obtain ⟨v, h1, h2⟩ := S.get j c e1
    rw [e3] at h1
    cases h1
    cases c with
    | p d => cases e2
    | n ds => cases e2
    | o d =>
      obtain ⟨c, e, h3, h4, h5⟩ := h2
      cases e
      exact (back a h4).1 rfl
    | u w n =>
      obtain ⟨c, x, y, z, e, h3, h4, h5⟩ := h2
      cases e
      cases w with
      | true => exact hP h4
      | false =>
        simp only [Bool.false_eq_true, if_false] at h4
        exact (back a h4).1 rfl
end

section
/-- an object that no slot owns may turn -/
theorem SD.turn {K : PySem.W.Frag} {W : Fix} {F H : Hp} {σ : L2.St} {δ : Env'} {a : Addr} {o : HO} (S : SD K W F H σ δ) (h0 : W.H0 a = none) (hF : F a = none) (hn : ∀ (j : Nat) (c : B), δ[j]? = some (some c) → c.own = true → σ[j]? ≠ some (some (.ref a))) :
    SD K W F (upd H a o) σ δ where
  f0 := S.f0
  h0 := fun b u e n => by
    have q : b ≠ a := fun z => by
      rw [z, h0] at e
      cases e
    rw [upd_ne q]
    exact S.h0 b u e n
  fh := fun b u e => by
    have q : b ≠ a := fun z => by
      rw [z, hF] at e
      cases e
    rw [upd_ne q]
    exact S.fh b u e
  fr := S.fr
  fp := fun b h => by
    obtain ⟨h1, ⟨u, h2⟩, v, h3⟩ := S.fp b h
    have q : b ≠ a := fun z => by
      rw [z, h0] at h3
      cases h3
    rw [upd_ne q]
    exact ⟨h1, ⟨u, h2⟩, v, h3⟩
  len := S.len
  get := fun i b e => by
    obtain ⟨v, h1, h2⟩ := S.get i b e
    refine ⟨v, h1, h2.keep (Same.refl F) (fun c u hv hb h3 => ?_) (fun _ _ _ h => h)⟩
    have q : c ≠ a := fun z => hn i b e hb (by rw [h1, hv, z])
    rw [upd_ne q]
    exact h3
  sep := S.sep
end
/-- a comprehension's target: only its own slots change -/
structure DGc (X : Cx) (W : Fix) (tg : Expr) (vs : List Nat) (g : TGD) : Prop where
  run : ∀ (F H : Hp) (σ : L2.St) (δ : Env') (d : D) (v : V) (Q : Env' → Prop), SD X.K W F H σ δ → Rp X.K F d v → g d δ Q →
    ∀ (pins : List (Addr × Obj)) (s : Shared) (u : Value), Inv X pins σ H s → RelV v u → wpAny (model X.prog X.w) X.A (assign tg X.env u) (fun _ s' => ∃ σ' H', Inv X pins σ' H' s' ∧ wipe σ' vs = wipe σ vs ∧ NQ X.K W F Q σ' H') X.xe s
structure DGcs (X : Cx) (W : Fix) (tgs : List Expr) (vs : List Nat) (g : TGDs) : Prop where
  run : ∀ (F H : Hp) (σ : L2.St) (δ : Env') (ds : List D) (xs : List V) (Q : Env' → Prop), SD X.K W F H σ δ → RpL X.K F ds xs → g ds δ Q →
    ∀ (pins : List (Addr × Obj)) (s : Shared) (us : List Value), Inv X pins σ H s → Vals xs us →
      wpAny (model X.prog X.w) X.A (assignInOrder ((assignEach tgs X.env).map (·.2)) us) (fun _ s' => ∃ σ' H', Inv X pins σ' H' s' ∧ wipe σ' vs = wipe σ vs ∧ NQ X.K W F Q σ' H') X.xe s
section
variable {X : Cx} {W : Fix} {vs : List Nat} {pos : Pos}
theorem dgc_name {i : Nat} {x : Str} (hv : i ∈ vs) (hN : X.N.Nodup) (hi : X.N[i]? = some x) (hx : Loc X.env.scope x) (hf : X.fn x = true ∨ X.env.scope.names.lookup x = some .local := by first | exact .inl rfl | exact .inr rfl | assumption) : DGc X W (.Name x pos) vs (gN i) :=
  ⟨fun F H σ δ d v Q S r q pins s u I ru => (pg_name (X := X) hN hi hx hf).run pins s σ H v u (fun σ' H' => wipe σ' vs = wipe σ vs ∧ NQ X.K W F Q σ' H') I ru ⟨wipe_set hv, F, δ.set i (some (.p d)), Same.refl F, S.put (b := .p d) r (fun z => by cases z), q⟩⟩
theorem dgcs_nil : DGcs X W [] vs gsNil := ⟨fun F H σ δ ds xs Q S r q pins s us I ru => by
  obtain ⟨rfl, q⟩ := q
  unfold RpL at r
  exact (pgs_nil (X := X)).run pins s σ H xs us (fun σ' H' => wipe σ' vs = wipe σ vs ∧ NQ X.K W F Q σ' H') I ru ⟨r, rfl, F, δ, Same.refl F, S, q⟩⟩
theorem dgcs_cons {tg : Expr} {tgs : List Expr} {g : TGD} {gs : TGDs} (h : DGc X W tg vs g) (k : DGcs X W tgs vs gs) (hs : (assignEach (tg :: tgs) X.env).map (·.2) = assign tg X.env :: (assignEach tgs X.env).map (·.2) := by rfl) : DGcs X W (tg :: tgs) vs (gsCons g gs) :=
  ⟨fun F H σ δ ds xs Q S r q pins s us I ru => by
    obtain ⟨d, dr, rfl, q⟩ := q
    unfold RpL at r
    obtain ⟨x, xr, rfl, r1, r2⟩ := r
    refine (pgs_cons (X := X) cG_pg cGs_pgs hs).run pins s σ H _ us (fun σ' H' => wipe σ' vs = wipe σ vs ∧ NQ X.K W F Q σ' H') I ru ⟨x, xr, rfl, fun pins s u I ru => ?_⟩
    refine thn (h.run F H σ δ d x _ S r1 q pins s u I ru) fun _ s' h1 => ?_
    obtain ⟨σ', H', I', w1, F1, δ1, e1, S1, q1⟩ := h1
    exact ⟨σ', H', I', fun pins s us I ru => thn (k.run F1 H' σ' δ1 dr xr Q S1 (RpL.mono e1 _ _ r2) q1 pins s us I ru) fun _ s2 ⟨σ2, H2, I2, w2, h2⟩ => ⟨σ2, H2, I2, w2.trans w1, h2.back e1⟩⟩⟩
theorem dgc_tup {es : List Expr} {k n : Nat} {gs : TGDs} (hc : X.calm = true) (h : DGcs X W es vs gs) (hn : (assignEach es X.env).length = n := by rfl) (hst : (assignEach es X.env).findIdx? (·.1) = none := by rfl) : DGc X W (.Tuple es k pos) vs (gT n gs) :=
  ⟨fun F H σ δ d v Q S r q pins s u I ru => by
    obtain ⟨ds, rfl, hl, q⟩ := q
    unfold Rp at r
    obtain ⟨a, xs, rfl, h1, h2⟩ := r
    refine (pg_tup (X := X) hc cGs_pgs hn hst).run pins s σ H _ u (fun σ' H' => wipe σ' vs = wipe σ vs ∧ NQ X.K W F Q σ' H') I ru ⟨a, xs, rfl, sqT_mono S.fh h1, by rw [h2.length, hl], ?_⟩
    exact fun pins s us I ru => h.run F H σ δ ds xs Q S h2 q pins s us I ru⟩

/-- a clause's tests -/
structure DTs (X : Cx) (W : Fix) (ifs : List Expr) (t : TDT) : Prop where
  run : ∀ (F H : Hp) (σ : L2.St) (δ : Env') (Q : Bool → Env' → Prop), SD X.K W F H σ δ → t δ Q → ∀ (pins : List (Addr × Obj)) (s : Shared), Inv X pins σ H s →
    wpAny (model X.prog X.w) X.A (forIn ifs true fun c r => if r = true then do let ok ← isTrue c X.env (eval c X.env); pure (ForInStep.yield ok) else pure (ForInStep.yield r)) (TP X pins σ (TQ X.K W F σ Q)) X.xe s
def dYes : TDT := fun δ Q => Q true δ
theorem dts_nil : DTs X W [] dYes := ⟨fun F H σ δ Q S q pins s I => (pts_nil (X := X)).run pins s σ H _ I ⟨F, δ, Same.refl F, S, q⟩⟩
theorem dts_one {c : Expr} {t : TDT} (h : DT X W c t) : DTs X W [c] t := ⟨fun F H σ δ Q S q pins s I => (pts_one (X := X) cT_pt).run pins s σ H _ I (h.run F H σ δ Q S q)⟩
end

def lcL (g : TGD) (tt : TDT) (te : TD) (vs : List Nat) (Q : List D → Env' → Prop) : List D → List D → Env' → Prop
  | [], acc, δ => Q acc δ
  | d :: ds, acc, δ => g d δ fun δ1 => tt δ1 fun k δ2 => if k = true then dp te δ2 fun y δ3 => acc.length < sizeLine ∧ lcL g tt te vs Q ds (acc ++ [y]) (wipeE δ3 vs) else lcL g tt te vs Q ds acc (wipeE δ2 vs)
def dLc (wi : TDI) (g : TGD) (tt : TDT) (te : TD) (vs : List Nat) : TD := fun δ Q => wi δ fun ds δ1 => lcL g tt te vs (fun acc δ2 => Q (.o (.lst acc)) δ2) ds [] (wipeE δ1 vs)

section
variable {X : Cx} {W : Fix} {elt tg iter : Expr} {ifs : List Expr} {scope : Scope} {own : List (Str × Nat)} {pos : Pos} {wi : TDI} {g : TGD} {tt : TDT} {te : TD} {σ : L2.St} {F H : Hp} {δ : Env'} {Q : B → Env' → Prop}
abbrev blkX (X : Cx) (scope : Scope) (s : Shared) (H : Hp) (C : Addr) (cl : List (Str × Addr)) (fp : List Addr) : Cx := X.blk s H scope (compEnvC scope cl C X.env) fp
/-- the canonical readings of a block -/
def bE (X : Cx) (scope : Scope) (e : Expr) : TE := fun σ H Q => ∀ (s0 : Shared) (H0 : Hp) (C : Addr) (cl : List (Str × Addr)) (fp : List Addr), cE (blkX X scope s0 H0 C cl fp) e σ H Q
def bG (X : Cx) (scope : Scope) (tg : Expr) : TG := fun v σ H Q => ∀ (s0 : Shared) (H0 : Hp) (C : Addr) (cl : List (Str × Addr)) (fp : List Addr), cG (blkX X scope s0 H0 C cl fp) tg v σ H Q
def bTs (X : Cx) (scope : Scope) (ifs : List Expr) : TT := fun σ H Q => ∀ (s0 : Shared) (H0 : Hp) (C : Addr) (cl : List (Str × Addr)) (fp : List Addr) (pins : List (Addr × Obj)) (s : Shared), Inv (blkX X scope s0 H0 C cl fp) pins σ H s →
  wpAny (model X.prog X.w) X.A (forIn ifs true fun c r => if r = true then do let ok ← isTrue c (blkX X scope s0 H0 C cl fp).env (eval c (blkX X scope s0 H0 C cl fp).env); pure (ForInStep.yield ok) else pure (ForInStep.yield r)) (TP (blkX X scope s0 H0 C cl fp) pins σ Q) (blkX X scope s0 H0 C cl fp).xe s
theorem lc_run (hg : ∀ (s : Shared) (H : Hp) (C : Addr) (cl : List (Str × Addr)) (fp : List Addr) (W' : Fix), DGc (blkX X scope s H C cl fp) W' tg (own.map (·.2)) g)
    (ht : ∀ (s : Shared) (H : Hp) (C : Addr) (cl : List (Str × Addr)) (fp : List Addr) (W' : Fix), DTs (blkX X scope s H C cl fp) W' ifs tt)
    (he : ∀ (s : Shared) (H : Hp) (C : Addr) (cl : List (Str × Addr)) (fp : List Addr) (W' : Fix), DE (blkX X scope s H C cl fp) W' elt te)
    (hi : DI X W tg iter wi) (S : SD X.K W F H σ δ) (q : dLc wi g tt te (own.map (·.2)) δ Q) {Z : VK} (hZ : ∀ v H', DQ X.K W F σ Q v H' → Z v H') :
    tLc (cI X tg iter) (bG X scope tg) (bTs X scope ifs) (bE X scope elt) (own.map (·.2)) σ H Z := by
  intro pins s I
  refine thn (hi.run F H σ δ _ S q pins s I) fun v s1 h1 => thn h1 fun itv s2 h2 => ?_
  obtain ⟨it, fp, tn, J, H1, e1, I1, T1, n1, f1, F1, ds, δ1, eF, S1, Y, q1⟩ := h2
  refine ⟨it, fp, tn, J, H1, e1, I1, T1, n1, f1, fun Dl hD => ?_⟩
  have hF1 : F1 Dl = none := S1.freshF hD
  have h0D : W.H0 Dl = none := S1.fresh0 hD
  have hF0 : W.F0 Dl = none := S1.f0.free hF1
  have hPD : W.P ≠ some Dl := fun z => by
    obtain ⟨_, ⟨o, ho⟩, _⟩ := S1.fp Dl z
    rw [hD] at ho
    cases ho
  refine ⟨fun i m H' => m = ds.length - i ∧ i ≤ ds.length ∧ ∃ F' δ' acc xs, Same F1 F' ∧ SD X.K (W.hold Dl (.lst xs)) F' H' (wipe σ (own.map (·.2))) δ' ∧ RpL X.K F' acc xs ∧ (∀ (j : Nat) (b : B), δ'[j]? = some (some b) → j ∉ own.map (·.2)) ∧
      lcL g tt te (own.map (·.2)) (fun acc δ2 => Q (.o (.lst acc)) δ2) (ds.drop i) acc δ', ⟨_, rfl, Nat.zero_le _, F1, wipeE δ1 (own.map (·.2)), [], [], Same.refl F1, ?_, .nil, fun j b h => (wipeE_some h).2, q1⟩, ?_⟩
  · refine (SD.newO (S1.wiped (vs := own.map (·.2))) hD).held upd_same h0D hF1 hPD fun j c e1 e2 e3 => ?_
    obtain ⟨v, h1, h2⟩ := (S1.wiped (vs := own.map (·.2))).get j c e1
    rw [e3] at h1
    cases h1
    obtain ⟨a, o, e, h4, _⟩ := h2.there e2
    cases e
    rw [hD] at h4
    cases h4
  rintro i m H' ⟨rfl, hil, F', δ', acc, xs, e', S', ra, hv, q'⟩
  obtain ⟨y1, y2⟩ := Y _ F' H' _ δ' i S' e'
  by_cases hl : i < ds.length
  · have hd : ds[i]? = some ds[i] := List.getElem?_eq_getElem hl
    rw [List.drop_eq_getElem_cons hl] at q'
    obtain ⟨hgo, hy⟩ := y1 _ hd
    refine .inr ⟨hgo, fun H2 => ∃ F' δ' acc xs, Same F1 F' ∧ SD X.K (W.hold Dl (.lst xs)) F' H2 (wipe σ (own.map (·.2))) δ' ∧ RpL X.K F' acc xs ∧ (∀ (j : Nat) (b : B), δ'[j]? = some (some b) → j ∉ own.map (·.2)) ∧
      lcL g tt te (own.map (·.2)) (fun acc δ2 => Q (.o (.lst acc)) δ2) (ds.drop (i + 1)) acc δ', fun H2 h2 => ⟨_, by omega, rfl, hl, h2⟩, fun x H2 hyl => ?_⟩
    obtain ⟨F2, e2, S2, rx, _⟩ := hy x H2 hyl
    intro s0 H0 C cl fp pins s u I ru
    refine thn ((hg s0 H0 C cl fp _).run F2 H2 _ δ' _ x _ S2 rx q' pins s u I ru) fun _ s' h3 => ?_
    obtain ⟨σ3, H3, I3, w3, F3, δ3, e3, S3, q3⟩ := h3
    refine ⟨σ3, H3, I3, ?_, fun s0 H0 C cl fp pins s I => ?_⟩
    · rw [w3]
      apply List.ext_getElem?
      intro j
      by_cases em : j ∈ own.map (·.2)
      · have n1 : ∀ (ρ : L2.St) (x : V), (wipe ρ (own.map (·.2)))[j]? ≠ some (some x) := fun ρ x z => (wipe_some z).2 em
        have l1 : (wipe (wipe σ (own.map (·.2))) (own.map (·.2))).length = (wipe σ (own.map (·.2))).length := wipe_length _ _
        by_cases hj : j < (wipe σ (own.map (·.2))).length
        · rw [List.getElem?_eq_getElem hj, List.getElem?_eq_getElem (by rw [l1]; exact hj)]
          cases z1 : (wipe (wipe σ (own.map (·.2))) (own.map (·.2)))[j]'(by rw [l1]; exact hj) with
          | some x => exact absurd (by rw [List.getElem?_eq_getElem (by rw [l1]; exact hj), z1]) (n1 _ x)
          | none =>
            cases z2 : (wipe σ (own.map (·.2)))[j]'hj with
            | some x => exact absurd (by rw [List.getElem?_eq_getElem hj, z2]) (n1 _ x)
            | none => rfl
        · rw [List.getElem?_eq_none (by omega), List.getElem?_eq_none (by omega)]
      · rw [wipe_off em]
    refine thn ((ht s0 H0 C cl fp _).run F3 H3 σ3 δ3 _ S3 q3 pins s I) fun b s4 h4 => ?_
    obtain ⟨H4, I4, F4, δ4, e4, S4, q4⟩ := h4
    refine ⟨H4, I4, ?_⟩
    have back : ∀ {F5 H5 : Hp} {δ5 : Env'} {o : HO}, SD X.K (W.hold Dl o) F5 H5 σ3 δ5 → SD X.K (W.hold Dl o) F5 H5 (wipe σ (own.map (·.2))) (wipeE δ5 (own.map (·.2))) := fun {F5 H5 δ5 o} S5 => by
      have z := S5.wiped (vs := own.map (·.2))
      rw [w3] at z
      refine z.slots ?_ fun j b h => ?_
      · rw [wipe_length, wipe_length, wipe_length]
      · rw [wipe_off (wipeE_some h).2, wipe_off (wipeE_some h).2, wipe_off (wipeE_some h).2]
    cases b with
    | false =>
      simp only [Bool.false_eq_true, if_false] at q4 ⊢
      exact ⟨F4, _, acc, xs, ((e'.trans e2).trans e3).trans e4, back S4, RpL.mono ((e2.trans e3).trans e4) _ _ ra, fun j b h => (wipeE_some h).2, q4⟩
    | true =>
      simp only [if_true] at q4 ⊢
      intro s0 H0 C cl fp pins s I
      refine thn ((he s0 H0 C cl fp _).plain S4 q4 pins s I) fun u s5 h5 => ?_
      obtain ⟨y, H5, I5, ry, F5, d5, δ5, e5, S5, r5, hz, q5⟩ := h5
      obtain ⟨S6, hD5, hF5, hn5⟩ := S5.unheld h0D hF0 hPD
      have S7 : SD X.K (W.hold Dl (.lst (xs ++ [y]))) F5 (upd H5 Dl (.lst (xs ++ [y]))) σ3 δ5 := (S6.turn h0D hF5 hn5).held upd_same h0D hF5 hPD hn5
      exact ⟨y, H5, I5, ry, xs, hD5, by rw [ra.length]; exact hz, F5, _, acc ++ [d5], xs ++ [y], (((e'.trans e2).trans e3).trans e4).trans e5, back S7, .append (RpL.mono (((e2.trans e3).trans e4).trans e5) _ _ ra) (.cons r5 .nil), fun j b h => (wipeE_some h).2, q5⟩
  · have e0 : i = ds.length := by omega
    subst e0
    rw [List.drop_length] at q'
    refine .inl ⟨y2 (List.getElem?_eq_none (Nat.le_refl _)), hZ _ _ ?_⟩
    obtain ⟨S6, hD6, hF6, hn6⟩ := S'.unheld h0D hF0 hPD
    have S7 : SD X.K W F' H' σ δ' := S6.slots (wipe_length σ _).symm fun j b h => (wipe_off (hv j b h)).symm
    refine ⟨F', .o (.lst acc), δ', eF.trans e', S7, ⟨Dl, rfl, hF6, h0D, xs, hD6, ra⟩, fun _ j c h1 h2 => ?_, q'⟩
    rw [← wipe_off (σ := σ) (hv j c h1)]
    exact hn6 j c h1 h2
theorem de_lc (hc : X.calm = true) (hN : X.N.Nodup) (hi : DI X W tg iter wi) (ok : BlkOk X.N X.env.scope scope own)
    (hg : ∀ (s : Shared) (H : Hp) (C : Addr) (cl : List (Str × Addr)) (fp : List Addr) (W' : Fix), DGc (blkX X scope s H C cl fp) W' tg (own.map (·.2)) g)
    (ht : ∀ (s : Shared) (H : Hp) (C : Addr) (cl : List (Str × Addr)) (fp : List Addr) (W' : Fix), DTs (blkX X scope s H C cl fp) W' ifs tt)
    (he : ∀ (s : Shared) (H : Hp) (C : Addr) (cl : List (Str × Addr)) (fp : List Addr) (W' : Fix), DE (blkX X scope s H C cl fp) W' elt te) (hs : ∀ x, foldedSetIterable iter X.env x = pure x := by intro _; rfl) :
    DE X W (.ListComp elt [⟨tg, iter, ifs, 0⟩] scope pos) (dLc wi g tt te (own.map (·.2))) :=
  .of (pe_lc (X := X) hc hN cI_pi ok (fun s H C cl fp => ⟨fun pins s' _ _ _ u _ I r h => h s H C cl fp pins s' u I r⟩) (fun s H C cl fp => ⟨fun pins s' _ _ _ I h => h s H C cl fp pins s' I⟩) (fun s H C cl fp => ⟨fun pins s' _ _ _ I h => h s H C cl fp pins s' I⟩) hs)
    fun F H σ δ Q S q => lc_run hg ht he hi S q fun _ _ h => h
/-- name = [..] on one line, the name a local -/
theorem ds_setLc {i : Nat} {y : Str} {py spos : Pos} (hc : X.calm = true) (hN : X.N.Nodup) (hy : X.N[i]? = some y) (hyl : X.env.scope.names.lookup y = some .local)
    (hsw : swapsWith (.ListComp elt [⟨tg, iter, ifs, 0⟩] scope pos) (some (.Name y py)) spos.line X.env = pure true) (hi : DI X W tg iter wi) (ok : BlkOk X.N X.env.scope scope own)
    (hg : ∀ (s : Shared) (H : Hp) (C : Addr) (cl : List (Str × Addr)) (fp : List Addr) (W' : Fix), DGc (blkX X scope s H C cl fp) W' tg (own.map (·.2)) g)
    (ht : ∀ (s : Shared) (H : Hp) (C : Addr) (cl : List (Str × Addr)) (fp : List Addr) (W' : Fix), DTs (blkX X scope s H C cl fp) W' ifs tt)
    (he : ∀ (s : Shared) (H : Hp) (C : Addr) (cl : List (Str × Addr)) (fp : List Addr) (W' : Fix), DE (blkX X scope s H C cl fp) W' elt te) (hs : ∀ x, foldedSetIterable iter X.env x = pure x := by intro _; rfl) :
    DS X W (.Assign [.Name y py] (.ListComp elt [⟨tg, iter, ifs, 0⟩] scope pos) spos) (dSet i (dLc wi g tt te (own.map (·.2)))) :=
  .of (ps_setLc (X := X) hc hN hy hyl hsw cI_pi ok (fun s H C cl fp => ⟨fun pins s' _ _ _ u _ I r h => h s H C cl fp pins s' u I r⟩) (fun s H C cl fp => ⟨fun pins s' _ _ _ I h => h s H C cl fp pins s' I⟩) (fun s H C cl fp => ⟨fun pins s' _ _ _ I h => h s H C cl fp pins s' I⟩) hs)
    fun F H σ δ D S q => lc_run (Q := fun b δ1 => D.nx (δ1.set i (some b))) hg ht he hi S q fun v H' h => by
      obtain ⟨F1, b, δ1, e1, S1, r1, s1, q1⟩ := h
      exact ⟨F1, δ1.set i (some b), S1.put r1 (fun hb j c h1 h2 _ => s1 hb j c h1 h2), q1⟩
end
end DD

set_option Elab.async false
set_option linter.all false
set_option maxRecDepth 100000
set_option maxHeartbeats 4000000
/-! DD5: what a def promises over data; calls. -/
namespace DD
open PySem PySem.Spec PyProof.Rows L2

/-- a promise: the arguments, the wish for the answer and the purse, the wish for an exception -/
abbrev Spd := List B → (B → Nat → Prop) → (Addr → List D → Nat → Prop) → Prop
structure Aft (F H : Hp) (P : Option Addr) (m : Nat) (F' H' : Hp) : Prop where
  ff : Same F F'
  fh : Same F' H'
  keep : ∀ a o, H a = some o → P ≠ some a → H' a = some o
  new : ∀ a o, F' a = some o → F a = some o ∨ H a = none
  pur : ∀ p, P = some p → F' p = none ∧ ∃ x y z, H' p = some (.lst [.int x, .int y, .int z]) ∧ PWF m x y z
def Res (K : PySem.W.Frag) (H F' H' : Hp) : B → V → Prop
  | .p d, v => Rp K F' d v
  | .o d, v => ∃ a, v = .ref a ∧ F' a = none ∧ H a = none ∧ Own K F' H' d a
  | .u _ _, _ => False
  | .n ds, v => ∃ t xs, v = .ref t ∧ SqT K F' t xs ∧ RpL K F' ds xs ∧ ∀ a, V.ref a ∈ xs → (∃ ys, F' a = some (.lst ys)) ∧ H a = none
def Arg (K : PySem.W.Frag) (F H : Hp) (P : Option Addr) : B → V → Prop
  | .p d, v => Rp K F d v
  | .o _, _ => False
  | .u w n, v => w = true ∧ ∃ p x y z, v = .ref p ∧ P = some p ∧ F p = none ∧ H p = some (.lst [.int x, .int y, .int z]) ∧ PWF n x y z
  | .n _, _ => False
/-- at most one purse, and where it stands -/
def PurK (i : Option Nat) (bs : List B) : Prop := ∀ (j : Nat) (b : B), bs[j]? = some b → b.own = true → i = some j
def toSp (K : PySem.W.Frag) (spd : Spd) : Sp := fun vs H Q E => ∃ (F : Hp) (P : Option Addr) (bs : List B) (R : B → Nat → Prop) (ED : Addr → List D → Nat → Prop),
  Same F H ∧ Paired (Arg K F H P) bs vs ∧ (∀ p, P = some p → (F p = none ∧ ∃ o, H p = some o) ∧ ∃ b ∈ bs, b.own = true) ∧ spd bs R ED ∧
  (∀ v H' F' b m, Aft F H P m F' H' → Res K H F' H' b v → R b m → Q v H') ∧
  (∀ cls d H' F' C ds m, Aft F H P m F' H' → ExcRep K F' C ds cls d → ED C ds m → E cls d H')

def startD (N : List Str) (bs : List B) : Env' := bs.map some ++ List.replicate (N.length - bs.length) none
/-- the purse's turns at the end -/
def PC (i : Option Nat) (δ : Env') (m : Nat) : Prop := match i with
  | none => True
  | some j => δ[j]? = some (some (.u true m))
section
variable {K : PySem.W.Frag} {F H : Hp} {P : Option Addr}
theorem paired_get {α β : Type} {G : α → β → Prop} : ∀ {l : List α} {m : List β} {i : Nat} {a : α}, Paired G l m → l[i]? = some a → ∃ b, m[i]? = some b ∧ G a b
  | _, _, _, _, .nil, e => by simp at e
  | _, _, 0, _, .cons r _, e => by
    simp at e
    subst e
    exact ⟨_, rfl, r⟩
  | _, _, i + 1, a, .cons _ t, e => by
    obtain ⟨b, h1, h2⟩ := paired_get (i := i) t (by simpa using e)
    exact ⟨b, by simpa using h1, h2⟩
theorem startD_get {N : List Str} {bs : List B} {i : Nat} {b : B} (h : (startD N bs)[i]? = some (some b)) : bs[i]? = some b := by
  unfold startD at h
  by_cases hi : i < bs.length
  · rw [List.getElem?_append_left (by simpa using hi), List.getElem?_map] at h
    cases e : bs[i]? with
    | none =>
      rw [e] at h
      cases h
    | some c =>
      rw [e] at h
      cases h
      rfl
  · rw [List.getElem?_append_right (by simpa using hi), List.getElem?_replicate] at h
    split at h <;> cases h
theorem start_get {N : List Str} {vs : List V} {i : Nat} {v : V} (h : vs[i]? = some v) : (L2.start N vs)[i]? = some (some v) := by
  have hi : i < vs.length := (List.getElem?_eq_some_iff.mp h).1
  unfold L2.start
  rw [List.getElem?_append_left (by simpa using hi), List.getElem?_map, h]
  rfl
theorem SD.start {N : List Str} {bs : List B} {vs : List V} {E : Addr → List D → Env' → Prop} {pi : Option Nat} (fh : Same F H) (ra : Paired (Arg K F H P) bs vs) (hP : ∀ p, P = some p → F p = none ∧ ∃ o, H p = some o) (hk : PurK pi bs) :
    SD K ⟨F, H, P, E⟩ F H (L2.start N vs) (startD N bs) where
  f0 := Same.refl F
  h0 := fun _ _ h _ => h
  fh := fh
  fr := fun _ _ h => .inl h
  fp := fun p h => ⟨(hP p h).1, (hP p h).2, (hP p h).2⟩
  len := by
    have := Paired.length ra
    unfold L2.start startD
    rw [List.length_append, List.length_append, List.length_map, List.length_map, List.length_replicate, List.length_replicate, this]
  get := fun i b h => by
    obtain ⟨v, h1, h2⟩ := paired_get ra (startD_get h)
    refine ⟨v, start_get h1, ?_⟩
    cases b with
    | p d => exact h2
    | n ds => exact h2.elim
    | o d => exact h2.elim
    | u w n =>
      obtain ⟨rfl, p, x, y, z, rfl, h3, h4, h5, h6⟩ := h2
      exact ⟨p, x, y, z, rfl, h4, by rw [if_pos rfl]; exact h3, h5, h6⟩
  sep := fun i j b c v ne h1 h2 h3 h4 _ => by
    have e1 := hk i b (startD_get h1) h2
    have e2 := hk j c (startD_get h3) h4
    rw [e1] at e2
    exact absurd (Option.some.inj e2) ne
theorem SD.aft {E : Addr → List D → Env' → Prop} {F' H' : Hp} {σ : L2.St} {δ : Env'} {pi : Option Nat} {m : Nat} (S : SD K ⟨F, H, P, E⟩ F' H' σ δ) (hp : P = none ∨ pi ≠ none) (hm : PC pi δ m) : Aft F H P m F' H' where
  ff := S.f0
  fh := S.fh
  keep := S.h0
  new := S.fr
  pur := fun p e => by
    refine ⟨(S.fp p e).1, ?_⟩
    cases pi with
    | none =>
      rcases hp with h | h
      · rw [h] at e
        cases e
      · exact absurd rfl h
    | some j =>
      obtain ⟨v, h1, q, x, y, z, rfl, h2, h3, h4, h5⟩ := S.get j _ hm
      have h3 : P = some q := by
        rw [if_pos rfl] at h3
        exact h3
      rw [e] at h3
      cases h3
      exact ⟨x, y, z, h4, h5⟩
end

/-- THE RULE: a def of the text keeps its promise over data -/
theorem gd_of {P : Program} {w : World} {K : PySem.W.Frag} {mg : Str → Option Value} {base : Heap} {x qual : Str} {st : Stmt} {f : Addr} {fd : FuncData} {N ps : List Str} {k : Nat} {spd : Spd} (pi : Option Nat)
    (F : Fun K x qual st f fd) (S : FnScope N ps (defScope st)) (len : ∀ bs R E, spd bs R E → bs.length = ps.length) (hpk : ∀ bs R E, spd bs R E → PurK pi bs ∧ (pi = none → ∀ b ∈ bs, b.own = false))
    (hbody : ∀ (cdv : Value) (A : Around) (outer : List Env) (s : Shared) (H : Hp) (E : XK) (W : Fix) (bs : List B) (R : B → Nat → Prop) (ED : Addr → List D → Nat → Prop), A.guards = some [] →
      Room k (A.deeper (envOfC qual (defScope st) s.heap.objs.size f cdv)) → TkE (cxOf (L2.CX P w) P w K mg base N qual (defScope st) f cdv A outer s H E) W (fun C ds δ => ∃ m, PC pi δ m ∧ ED C ds m) → spd bs R ED → Same W.F0 W.H0 →
      ∃ t, DSs (cxOf (L2.CX P w) P w K mg base N qual (defScope st) f cdv A outer s H E) W (defBody st) t ∧
        t { nx := fun δ => ∃ m, PC pi δ m ∧ R (.p .non) m, rt := fun b δ => b.isU = false ∧ ∃ m, PC pi δ m ∧ R b m } (startD N bs)) :
    GnOk P w K mg base (k + 1) f fd ps (toSp K spd) := by
  refine gn_of F S (fun vs H Q E h => ?_) fun cdv A outer s H vs Q E hg hr h => ?_
  · obtain ⟨F0, P0, bs, R, ED, _, ra, _, h, _⟩ := h
    rw [← Paired.length ra, len bs R ED h]
  · obtain ⟨F0, P0, bs, R, ED, fh, ra, hP, h, hQ, hE⟩ := h
    obtain ⟨h1, h2⟩ := hpk bs R ED h
    have hnp : P0 = none ∨ pi ≠ none := by
      cases e : P0 with
      | none => exact .inl rfl
      | some p =>
        refine .inr fun z => ?_
        obtain ⟨_, b, hb, ho⟩ := hP p e
        rw [h2 z b hb] at ho
        cases ho
    have S0 : SD K ⟨F0, H, P0, fun C ds δ => ∃ m, PC pi δ m ∧ ED C ds m⟩ F0 H (L2.start N vs) (startD N bs) := .start fh ra (fun p e => (hP p e).1) h1
    have tk : Takes (cxOf (L2.CX P w) P w K mg base N qual (defScope st) f cdv A outer s H E) (WXd K ⟨F0, H, P0, fun C ds δ => ∃ m, PC pi δ m ∧ ED C ds m⟩) := by
      refine (takes_of rfl rfl rfl rfl).imp fun cls d σ H' z => ?_
      obtain ⟨F', δ', C, ds, S', er, m, hm, he⟩ := z
      exact hE cls d H' F' C ds m (S'.aft hnp hm) er he
    obtain ⟨t, ht, q⟩ := hbody cdv A outer s H E _ bs R ED hg hr ⟨rfl, tk⟩ h fh
    refine ⟨_, cSs_pss, (fun pins s I => thn (ht.run F0 H _ _ _ S0 q pins s I) fun fl s' q => SP.imp q (fun σ' H' z => ?_) (fun v H' z => ?_) (fun σ' H' z => ?_) fun σ' H' z => ?_)⟩
    · obtain ⟨F', δ', S', m, hm, r⟩ := z
      exact hQ .non H' F' (.p .non) m (S'.aft hnp hm) (by unfold Res Rp; rfl) r
    · obtain ⟨_, σ', F', b, δ', e', S', rb, _, hu, m, hm, r⟩ := z
      refine hQ v H' F' b m (S'.aft hnp hm) ?_ r
      cases b with
      | p d => exact rb
      | n ds => exact rb
      | o d => exact rb
      | u w n => cases hu
    · obtain ⟨F', δ', S', z⟩ := z
      exact z.elim
    · obtain ⟨F', δ', S', z⟩ := z
      exact z.elim

/-! ### the call of a def -/
section
variable {X : Cx} {W : Fix} {k : Nat} {f : Addr} {fd : FuncData} {ps : List Str} {spd : Spd} {sp : Sp} {dvs : List V} {dfs : List Value} {dds : List D} {E : XK} {x : Str} {p pos : Pos} {e : Expr} {es : List Expr} {t : TDA}
theorem run_g {pins : List (Addr × Obj)} {σ : L2.St} {H : Hp} {s : Shared} {Q : VK} {us : List Value} {vs : List V} (G : GnOk X.prog X.w X.K X.mg X.base k f fd ps sp) (gu : X.A.guards = some []) (hr : Room k X.A)
    (hb : Binds X.K fd ps dfs) (hd : Vals dvs dfs) (hx : ∀ (e : Value) (s' : Shared), L2.CX X.prog X.w X.stack H s E e s' → X.xe e s') (I : Inv X pins σ H s) (r : Vals vs us) (h : sp (vs ++ dvs) H Q E) :
    wpAny (model X.prog X.w) X.A (call (.ref f) us) (EP X pins σ Q) X.xe s := by
  have r2 : Vals (vs ++ dvs) (us ++ dfs) := r.append hd
  have hl : (us ++ dfs).length = ps.length := by
    rw [← r2.length]
    exact G.len _ _ _ _ h
  refine wpAny_call (codeAny_mono (G.run X.A X.stack s H ⟨us, []⟩ _ _ Q E gu hr I.env0 (hb s us I.kIn hl) r2 h) ?_)
  intro r s' hq
  cases r with
  | error e => exact hx e s' hq
  | ok fl =>
    cases fl with
    | ret u => exact I.after hq
    | next => exact hq.elim
    | brk => exact hq.elim
    | cont => exact hq.elim
/-- f(e, ..): the reading knows the slots -/
def tCallG (sp : Sp) (dvs : List V) (E : L2.St → XK) (t : TA) : TE := fun σ H Q => t σ H fun vs H1 => sp (vs ++ dvs) H1 Q (E σ)
theorem pe_callG {ta : TA} {Es : L2.St → XK} (G : GnOk X.prog X.w X.K X.mg X.base k f fd ps sp) (gu : X.A.guards = some []) (hr : Room k X.A) (hg : Gl X x) (hm : X.mg x = some (.ref f)) (hk : PySem.W.keepIn X.K (.ref f) = true)
    (hb : Binds X.K fd ps dfs) (hd : Vals dvs dfs) (hx : ∀ σ, PassesAt (L2.CX X.prog X.w) X σ (Es σ)) (ha : PA X (e :: es) ta) (hdb : (x == ("__debug__" : Str)) = false := by decide)
    (he : starEach (e :: es) X.env = (false, eval e X.env) :: starEach es X.env := by rfl) (hpl : (backTo pos (starEach es X.env)).any (·.1) = false := by rfl) :
    PE X (.Call (.Name x p) (e :: es) [] pos) (tCallG sp dvs Es ta) := by
  refine ⟨fun pins s σ H Q I h => wpAny_Call_Name_kw (ld_glob I hg hm ?_ hdb)⟩
  refine PySem.W.callWith_K (h₀ := X.base) I.ok.mod.kin hk (thn (ha.run pos pins s σ H _ I h) ?_) he hpl
  rintro us s1 ⟨vs, H1, I1, r, q⟩
  exact ⟨I1.kIn, run_g G gu hr hb hd (fun e s' c => hx σ pins H1 s1 e s' I1 c) I1 r q⟩
theorem pe_callG0 {Es : L2.St → XK} (G : GnOk X.prog X.w X.K X.mg X.base k f fd ps sp) (gu : X.A.guards = some []) (hr : Room k X.A) (hg : Gl X x) (hm : X.mg x = some (.ref f)) (hk : PySem.W.keepIn X.K (.ref f) = true)
    (hb : Binds X.K fd ps dfs) (hd : Vals dvs dfs) (hx : ∀ σ, PassesAt (L2.CX X.prog X.w) X σ (Es σ)) (hdb : (x == ("__debug__" : Str)) = false := by decide) :
    PE X (.Call (.Name x p) [] [] pos) (tCallG sp dvs Es tNil) := by
  refine ⟨fun pins s σ H Q I h => wpAny_Call_Name_kw (ld_glob I hg hm ?_ hdb)⟩
  exact PySem.W.callWith_K0 I.kIn hk (run_g (us := []) G gu hr hb hd (fun e s' c => hx σ pins H s e s' I c) I .nil h)
/-- no exception is wished for -/
theorem pass_none {X : Cx} {σ : L2.St} : PassesAt (L2.CX X.prog X.w) X σ (fun _ _ _ => False) := fun _ _ _ _ _ _ c => by
  obtain ⟨_, _, _, _, _, _, _, _, _, _, _, _, z⟩ := c
  exact z.elim

/-- behind a call, the caller's state -/
theorem SD.after {K : PySem.W.Frag} {F H F' H' : Hp} {σ : L2.St} {δ : Env'} {m : Nat} (S : SD K W F H σ δ) (a : Aft F H none m F' H') : SD K W F' H' σ δ where
  f0 := S.f0.trans a.ff
  h0 := fun b o h n => a.keep b o (S.h0 b o h n) (fun z => by cases z)
  fh := a.fh
  fr := fun b o h => by
    rcases a.new b o h with h1 | h1
    · exact S.fr b o h1
    · exact .inr (S.fresh0 h1)
  fp := fun b h => by
    obtain ⟨h1, ⟨o, h2⟩, h3⟩ := S.fp b h
    refine ⟨?_, ⟨o, a.keep b o h2 (fun z => by cases z)⟩, h3⟩
    cases q : F' b with
    | none => rfl
    | some u =>
      rcases a.new b u q with h4 | h4
      · rw [h1] at h4
        cases h4
      · rw [h2] at h4
        cases h4
  len := S.len
  get := fun i b h => by
    obtain ⟨v, h1, h2⟩ := S.get i b h
    refine ⟨v, h1, h2.keep a.ff (fun c o _ _ h3 => a.keep c o h3 (fun z => by cases z)) fun c hv hb h3 => ?_⟩
    obtain ⟨c', o, e1, h4, _⟩ := h2.there hb
    rw [hv] at e1
    cases e1
    cases q : F' c with
    | none => rfl
    | some u =>
      rcases a.new c u q with h5 | h5
      · rw [h3] at h5
        cases h5
      · rw [h4] at h5
        cases h5
  sep := S.sep
/-- .. the purse in slot i has turned -/
theorem SD.afterP {K : PySem.W.Frag} {F H F' H' : Hp} {σ : L2.St} {δ : Env'} {i : Nat} {w : Bool} {n m : Nat} {q : Addr} (S : SD K W F H σ δ) (hi : δ[i]? = some (some (.u w n))) (hq : σ[i]? = some (some (.ref q))) (a : Aft F H (some q) m F' H') :
    SD K W F' H' σ (δ.set i (some (.u w m))) := by
  obtain ⟨v, e1, q', x, y, z, rfl, hF, hw, hH, hp⟩ := S.get i _ hi
  rw [hq] at e1
  cases e1
  have hli : i < δ.length := (List.getElem?_eq_some_iff.mp hi).1
  have nF : ∀ b o, H b = some o → F b = none → F' b = none := fun b o h1 h2 => by
    cases z : F' b with
    | none => rfl
    | some u =>
      rcases a.new b u z with h5 | h5
      · rw [h2] at h5
        cases h5
      · rw [h1] at h5
        cases h5
  have hneP : ∀ b o, W.H0 b = some o → W.P ≠ some b → b ≠ q := fun b o h1 h2 z => by
    subst z
    cases w with
    | true =>
      rw [if_pos rfl] at hw
      exact h2 hw
    | false =>
      rw [if_neg Bool.false_ne_true] at hw
      rw [h1] at hw
      cases hw
  have aux : ∀ (j : Nat) (c : B), (δ.set i (some (.u w m)))[j]? = some (some c) → (j = i ∧ c = .u w m) ∨ (j ≠ i ∧ δ[j]? = some (some c)) := fun j c h => by
    by_cases e : j = i
    · subst e
      rw [List.getElem?_set_self hli] at h
      cases h
      exact .inl ⟨rfl, rfl⟩
    · rw [List.getElem?_set_ne (Ne.symm e)] at h
      exact .inr ⟨e, h⟩
  refine ⟨S.f0.trans a.ff, fun b o h n => a.keep b o (S.h0 b o h n) fun z => hneP b o h n (Option.some.inj z).symm, a.fh, fun b o h => ?_, fun b h => ?_, by rw [List.length_set]; exact S.len, fun j c h => ?_, fun j k c d v ne h1 h2 h3 h4 h5 => ?_⟩
  · rcases a.new b o h with h1 | h1
    · exact S.fr b o h1
    · exact .inr (S.fresh0 h1)
  · obtain ⟨h1, ⟨o, h2⟩, h3⟩ := S.fp b h
    refine ⟨nF b o h2 h1, ?_, h3⟩
    by_cases e : b = q
    · subst e
      obtain ⟨_, x', y', z', h5, _⟩ := a.pur b rfl
      exact ⟨_, h5⟩
    · exact ⟨o, a.keep b o h2 fun z => e (Option.some.inj z).symm⟩
  · rcases aux j c h with ⟨rfl, rfl⟩ | ⟨hj, h⟩
    · obtain ⟨h4, x', y', z', h5, h6⟩ := a.pur q rfl
      exact ⟨.ref q, hq, q, x', y', z', rfl, h4, hw, h5, h6⟩
    · obtain ⟨v, h1, h2⟩ := S.get j c h
      refine ⟨v, h1, h2.keep a.ff (fun b o hv hb h3 => a.keep b o h3 fun z => ?_) fun b hv hb h3 => ?_⟩
      · have e := Option.some.inj z
        subst e
        rw [hv] at h1
        exact S.sep i j _ c (.ref q) (Ne.symm hj) hi rfl h hb hq h1
      · obtain ⟨b', o, e1, h4, _⟩ := h2.there hb
        rw [hv] at e1
        cases e1
        exact nF b o h4 h3
  · have g1 : ∃ c', δ[j]? = some (some c') ∧ c'.own = true := by
      rcases aux j c h1 with ⟨rfl, rfl⟩ | ⟨_, h⟩
      · exact ⟨_, hi, rfl⟩
      · exact ⟨c, h, h2⟩
    have g2 : ∃ c', δ[k]? = some (some c') ∧ c'.own = true := by
      rcases aux k d h3 with ⟨rfl, rfl⟩ | ⟨_, h⟩
      · exact ⟨_, hi, rfl⟩
      · exact ⟨d, h, h4⟩
    obtain ⟨c', g1, g1'⟩ := g1
    obtain ⟨d', g2, g2'⟩ := g2
    exact S.sep j k c' d' v ne g1 g1' g2 g2' h5

def dCall (spd : Spd) (dds : List D) (Ew : Addr → List D → Env' → Prop) (t : TDA) : TD := fun δ Q => t δ fun ds δ1 => spd ((ds ++ dds).map .p) (fun b _ => b.isU = false ∧ Q b δ1) fun C es _ => Ew C es δ1
def dCallP (i : Nat) (spd : Spd) (dds : List D) (Ew : Addr → List D → Env' → Prop) (t : TDA) : TD := fun δ Q => (∃ w n, δ[i]? = some (some (.u w n))) ∧ t δ fun ds δ1 => ∃ w n, δ1[i]? = some (some (.u w n)) ∧
  spd (.u true n :: (ds ++ dds).map .p) (fun b m => b.isU = false ∧ Q b (δ1.set i (some (.u w m)))) fun C es m => Ew C es (δ1.set i (some (.u w m)))
theorem paired_p {K : PySem.W.Frag} {F H : Hp} {P : Option Addr} : ∀ {ds : List D} {vs : List V}, RpL K F ds vs → Paired (Arg K F H P) (ds.map B.p) vs
  | [], _, h => by
    unfold RpL at h
    rw [h]
    exact .nil
  | d :: ds, vs, h => by
    unfold RpL at h
    obtain ⟨x, r, rfl, h1, h2⟩ := h
    exact .cons h1 (paired_p h2)
theorem RB.of_res {K : PySem.W.Frag} {F H F' H' : Hp} {σ : L2.St} {δ : Env'} {b : B} {v : V} (S : SD K W F H σ δ) (r : Res K H F' H' b v) : RB K W F' H' b v ∧ (b.own = true → ∀ (j : Nat) (c : B), δ[j]? = some (some c) → c.own = true → σ[j]? ≠ some (some v)) := by
  cases b with
  | p d => exact ⟨r, fun h => by cases h⟩
  | n ds =>
    obtain ⟨t, xs, e, h1, h2, h3⟩ := r
    exact ⟨⟨t, xs, e, h1, h2, fun c hc => ⟨(h3 c hc).1, S.fresh0 (h3 c hc).2⟩⟩, fun h => by cases h⟩
  | u w n => exact r.elim
  | o d =>
    obtain ⟨a, rfl, h1, h2, h3⟩ := r
    refine ⟨⟨a, rfl, h1, S.fresh0 h2, h3⟩, fun _ j c e1 e2 e3 => ?_⟩
    obtain ⟨u, h4, h5⟩ := S.get j c e1
    rw [e3] at h4
    cases h4
    obtain ⟨a', o, e, h6, _⟩ := h5.there e2
    cases e
    rw [h2] at h6
    cases h6
/-- f(e, ..) that raises nothing -/
theorem de_call (G : GnOk X.prog X.w X.K X.mg X.base k f fd ps (toSp X.K spd)) (gu : X.A.guards = some []) (hr : Room k X.A) (hg : Gl X x) (hm : X.mg x = some (.ref f)) (hk : PySem.W.keepIn X.K (.ref f) = true)
    (hb : Binds X.K fd ps dfs) (hd : Vals dvs dfs) (hdd : ∀ F, RpL X.K F dds dvs) (h : DA X W (e :: es) t) (hdb : (x == ("__debug__" : Str)) = false := by decide)
    (he : starEach (e :: es) X.env = (false, eval e X.env) :: starEach es X.env := by rfl) (hpl : (backTo pos (starEach es X.env)).any (·.1) = false := by rfl) :
    DE X W (.Call (.Name x p) (e :: es) [] pos) (dCall spd dds (fun _ _ _ => False) t) :=
  .of (pe_callG (Es := fun _ _ _ _ => False) G gu hr hg hm hk hb hd (fun σ => pass_none) cA_pa hdb he hpl) fun F H σ δ Q S q => by
    refine (h.run F H σ δ _ S q).imp fun vs H1 h1 => ?_
    obtain ⟨F1, ds, δ1, e1, S1, r1, q1⟩ := h1
    refine ⟨F1, none, _, _, _, S1.fh, paired_p (r1.append (hdd F1)), (fun p e => by cases e), q1, fun v H' F' b m a r z => ?_, fun cls d H' F' C ds m a er z => z.elim⟩
    obtain ⟨r2, r3⟩ := RB.of_res S1 r
    exact ⟨F', b, δ1, e1.trans a.ff, S1.after a, r2, r3, z.2⟩
/-- f(e, ..) that may raise -/
theorem de_callX {E0 : Addr → List D → Env' → Prop} (te : TkE X W E0) (G : GnOk X.prog X.w X.K X.mg X.base k f fd ps (toSp X.K spd)) (gu : X.A.guards = some []) (hr : Room k X.A) (hg : Gl X x) (hm : X.mg x = some (.ref f)) (hk : PySem.W.keepIn X.K (.ref f) = true)
    (hb : Binds X.K fd ps dfs) (hd : Vals dvs dfs) (hdd : ∀ F, RpL X.K F dds dvs) (h : DA X W (e :: es) t) (hdb : (x == ("__debug__" : Str)) = false := by decide)
    (he : starEach (e :: es) X.env = (false, eval e X.env) :: starEach es X.env := by rfl) (hpl : (backTo pos (starEach es X.env)).any (·.1) = false := by rfl) :
    DE X W (.Call (.Name x p) (e :: es) [] pos) (dCall spd dds E0 t) :=
  .of (pe_callG (Es := WE (WXd X.K W)) G gu hr hg hm hk hb hd (fun σ => passAt te.tk σ) cA_pa hdb he hpl) fun F H σ δ Q S q => by
    refine (h.run F H σ δ _ S q).imp fun vs H1 h1 => ?_
    obtain ⟨F1, ds, δ1, e1, S1, r1, q1⟩ := h1
    refine ⟨F1, none, _, _, _, S1.fh, paired_p (r1.append (hdd F1)), (fun p e => by cases e), q1, fun v H' F' b m a r z => ?_, fun cls d H' F' C ds m a er z => ?_⟩
    · obtain ⟨r2, r3⟩ := RB.of_res S1 r
      exact ⟨F', b, δ1, e1.trans a.ff, S1.after a, r2, r3, z.2⟩
    · exact ⟨F', δ1, C, ds, S1.after a, er, by rw [te.eq]; exact z⟩
/-- f(purse, e, ..), the purse in slot i -/
theorem de_callP {i : Nat} {xp : Str} {pp : Pos} (G : GnOk X.prog X.w X.K X.mg X.base k f fd ps (toSp X.K spd)) (gu : X.A.guards = some []) (hr : Room k X.A) (hg : Gl X x) (hm : X.mg x = some (.ref f)) (hk : PySem.W.keepIn X.K (.ref f) = true)
    (hN : X.N[i]? = some xp) (hv : Vis X.env.scope xp)
    (hb : Binds X.K fd ps dfs) (hd : Vals dvs dfs) (hdd : ∀ F, RpL X.K F dds dvs) (h : DA X W es t) (hdb : (x == ("__debug__" : Str)) = false := by decide) (hd1 : (xp == ("__debug__" : Str)) = false := by decide) (hcd : (xp == ("__classdict__" : Str)) = false := by decide)
    (he : starEach (.Name xp pp :: es) X.env = (false, eval (.Name xp pp) X.env) :: starEach es X.env := by rfl) (hpl : (backTo pos (starEach es X.env)).any (·.1) = false := by rfl) :
    DE X W (.Call (.Name x p) (.Name xp pp :: es) [] pos) (dCallP i spd dds (fun _ _ _ => False) t) :=
  .of (pe_callG (Es := fun _ _ _ _ => False) (e := .Name xp pp) G gu hr hg hm hk hb hd (fun σ => pass_none) (pa_cons (pe_var (X := X) hN hv hd1 hcd) cA_pa he) hdb he hpl) fun F H σ δ Q S q => by
    obtain ⟨⟨w0, n0, h0⟩, q⟩ := q
    obtain ⟨v0, hv0, q0, _, _, _, rfl, _⟩ := S.get i _ h0
    refine ⟨.ref q0, hv0, ?_⟩
    refine (h.run F H σ δ _ S q).imp fun vs H1 h1 => ?_
    obtain ⟨F1, ds, δ1, e1, S1, r1, w, n, hi, q1⟩ := h1
    obtain ⟨v1, hv1, q2, x, y, z, rfl, hF, hw, hH, hp⟩ := S1.get i _ hi
    rw [hv0] at hv1
    cases hv1
    refine ⟨F1, some q0, _, _, _, S1.fh, .cons (show Arg X.K F1 H1 (some q0) (.u true n) (.ref q0) from ⟨rfl, q0, x, y, z, rfl, rfl, hF, hH, hp⟩) (paired_p (r1.append (hdd F1))), (fun p e => by cases e; exact ⟨⟨hF, _, hH⟩, _, List.mem_cons_self, rfl⟩), q1, fun v H' F' b m a r z => ?_, fun cls d H' F' C ds m a er z => z.elim⟩
    have S2 := S1.afterP hi hv0 a
    refine ⟨F', b, _, e1.trans a.ff, S2, ?_⟩
    cases b with
    | p d => exact ⟨r, (fun h => by cases h), z.2⟩
    | n ds =>
      obtain ⟨t, xs, e, h1, h2, h3⟩ := r
      exact ⟨⟨t, xs, e, h1, h2, fun c hc => ⟨(h3 c hc).1, S1.fresh0 (h3 c hc).2⟩⟩, (fun h => by cases h), z.2⟩
    | u w n => exact r.elim
    | o d =>
      obtain ⟨c, rfl, h1, h2, h3⟩ := r
      refine ⟨⟨c, rfl, h1, S1.fresh0 h2, h3⟩, fun _ j b' e1 e2 e3 => ?_, z.2⟩
      have hb' : ∃ b'', δ1[j]? = some (some b'') ∧ b''.own = true := by
        by_cases ej : j = i
        · subst ej
          exact ⟨_, hi, rfl⟩
        · rw [List.getElem?_set_ne (Ne.symm ej)] at e1
          exact ⟨b', e1, e2⟩
      obtain ⟨b'', e1, e2⟩ := hb'
      obtain ⟨u, h4, h5⟩ := S1.get j b'' e1
      rw [e3] at h4
      cases h4
      obtain ⟨a', o, e, h6, _⟩ := h5.there e2
      cases e
      rw [h2] at h6
      cases h6
end
end DD

set_option Elab.async false
set_option linter.all false
set_option maxRecDepth 100000
set_option maxHeartbeats 4000000
/-! DD6: operators over data. -/
namespace DD
open PySem PySem.Spec PyProof.Rows L2

mutual
def toPy : D → Option PyData
  | .non => some .none
  | .bl b => some (.bool b)
  | .int i => some (.int i)
  | .str s => some (.str s)
  | .lst ds => (toPyL ds).map .list
  | .tup ds => (toPyL ds).map .tuple
  | _ => none
def toPyL : List D → Option (List PyData)
  | [] => some []
  | d :: ds => (toPy d).bind fun x => (toPyL ds).map fun xs => x :: xs
end
section
variable {K : PySem.W.Frag} {F H : Hp}
theorem rpNon {v : V} (h : Rp K F .non v) : v = .non := by
  unfold Rp at h
  exact h
theorem rpBl {b : Bool} {v : V} (h : Rp K F (.bl b) v) : v = .bl b := by
  unfold Rp at h
  exact h
theorem rpStr {x : Str} {v : V} (h : Rp K F (.str x) v) : v = .str x := by
  unfold Rp at h
  exact h
theorem rpTy {x : String} {v : V} (h : Rp K F (.ty x) v) : v = .ty x := by
  unfold Rp at h
  exact h
theorem rpLst {ds : List D} {v : V} (h : Rp K F (.lst ds) v) : ∃ a xs, v = .ref a ∧ F a = some (.lst xs) ∧ RpL K F ds xs := by
  unfold Rp at h
  exact h
theorem rpTup {ds : List D} {v : V} (h : Rp K F (.tup ds) v) : ∃ a xs, v = .ref a ∧ SqT K F a xs ∧ RpL K F ds xs := by
  unfold Rp at h
  exact h
mutual
theorem Rp.dp (e : Same F H) : ∀ (d : D) (v : V) (c : PyData), Rp K F d v → toPy d = some c → Dp K H v c
  | .non, v, c, h, t => by
    rw [rpNon h]
    cases t
    exact .non
  | .bl b, v, c, h, t => by
    rw [rpBl h]
    cases t
    exact .bl b
  | .int i, v, c, h, t => by
    rw [rpInt h]
    cases t
    exact .int i
  | .str x, v, c, h, t => by
    rw [rpStr h]
    cases t
    exact .str x
  | .lst ds, v, c, h, t => by
    obtain ⟨a, xs, rfl, h1, h2⟩ := rpLst h
    unfold toPy at t
    cases q : toPyL ds with
    | none =>
      rw [q] at t
      cases t
    | some cs =>
      rw [q] at t
      cases t
      exact .lst (SqL.of (e _ _ h1)) (RpL.dp e ds xs cs h2 q)
  | .tup ds, v, c, h, t => by
    obtain ⟨a, xs, rfl, h1, h2⟩ := rpTup h
    unfold toPy at t
    cases q : toPyL ds with
    | none =>
      rw [q] at t
      cases t
    | some cs =>
      rw [q] at t
      cases t
      exact .tup (sqT_mono e h1) (RpL.dp e ds xs cs h2 q)
  | .ty _, _, _, _, t => by cases t
  | .ref _, _, _, _, t => by cases t
  | .dct _ _, _, _, _, t => by cases t
  | .ins _ _ _, _, _, _, t => by cases t
  | .iset _ _, _, _, _, t => by cases t
  | .exc _ _, _, _, _, t => by cases t
  | .scr _, _, _, _, t => by cases t
theorem RpL.dp (e : Same F H) : ∀ (ds : List D) (vs : List V) (cs : List PyData), RpL K F ds vs → toPyL ds = some cs → DpAll K H vs cs
  | [], vs, cs, h, t => by
    unfold RpL at h
    rw [h]
    cases t
    exact .nil
  | d :: ds, vs, cs, h, t => by
    unfold RpL at h
    obtain ⟨x, r, rfl, h1, h2⟩ := h
    unfold toPyL at t
    cases q1 : toPy d with
    | none =>
      rw [q1] at t
      cases t
    | some c =>
      cases q2 : toPyL ds with
      | none =>
        rw [q1, q2] at t
        cases t
      | some cs' =>
        rw [q1, q2] at t
        cases t
        exact .cons (Rp.dp e d x c h1 q1) (RpL.dp e ds r cs' h2 q2)
end
end

/-! ### + -/
def rAddI : R2 := rI0 fun i j => .int (i + j)
def rAddS' : R2 := fun x y H Q => ∃ i j, x = .str i ∧ y = .str j ∧ i.length + j.length ≤ sizeLine ∧ Q (.str (i ++ j)) H
def rAddAll (K : PySem.W.Frag) : R2 := fun x y H Q => rAddI x y H Q ∨ rAddS' x y H Q ∨ rCat x y H Q ∨ rCatT K x y H Q
theorem op_addAll {X : Cx} : OpR X (binaryOp .Add) (rAddAll X.K) := by
  intro pins s σ H x y v u Q I rx ry h
  rcases h with h | h | h | h
  · exact op_add pins s σ H x y v u Q I rx ry h
  · exact op_add_str pins s σ H x y v u Q I rx ry h
  · exact op_cat pins s σ H x y v u Q I rx ry h
  · exact op_catT pins s σ H x y v u Q I rx ry h
def addG : D → D → (B → Prop) → Prop
  | .int i, .int j, Q => Q (.p (.int (i + j)))
  | .str a, .str b, Q => a.length + b.length ≤ sizeLine ∧ Q (.p (.str (a ++ b)))
  | .lst a, .lst b, Q => a.length + b.length ≤ sizeLine ∧ Q (.o (.lst (a ++ b)))
  | .tup a, .tup b, Q => a ≠ [] ∧ a.length + b.length ≤ sizeLine ∧ Q (.p (.tup (a ++ b)))
  | _, _, _ => False
theorem mkP {K : PySem.W.Frag} {W : Fix} {F H : Hp} {σ : L2.St} {δ : Env'} {Q : B → Prop} {d : D} {v : V} (S : SD K W F H σ δ) (r : Rp K F d v) (q : Q (.p d)) : DQ K W F σ (fun b δ' => δ' = δ ∧ Q b) v H := .mk S r ⟨rfl, q⟩
theorem rp_int {K : PySem.W.Frag} {F : Hp} {i : Int} : Rp K F (.int i) (.int i) := by
  unfold Rp
  rfl
theorem rp_bl {K : PySem.W.Frag} {F : Hp} {i : Bool} : Rp K F (.bl i) (.bl i) := by
  unfold Rp
  rfl
theorem rp_str {K : PySem.W.Frag} {F : Hp} {i : Str} : Rp K F (.str i) (.str i) := by
  unfold Rp
  rfl
theorem rp_non {K : PySem.W.Frag} {F : Hp} : Rp K F .non .non := by
  unfold Rp
  rfl
theorem rp_tupN {K : PySem.W.Frag} {F : Hp} {p : Addr} {xs : List V} {ds : List D} (r : RpL K F ds xs) (hp : F p = none) : Rp K (upd F p (.tup xs)) (.tup ds) (.ref p) := by
  unfold Rp
  exact ⟨p, xs, rfl, .inl (.inl upd_same), RpL.mono (same_upd hp) _ _ r⟩
theorem rd_add {K : PySem.W.Frag} : RD K (rAddAll K) addG := by
  intro W F H σ δ x y c d Q Z S rc rd g hZ
  cases c with
  | int i =>
    cases d <;> first | exact g.elim | skip
    rename_i j
    exact .inl ⟨i, j, rpInt rc, rpInt rd, hZ _ _ (mkP S rp_int g)⟩
  | str a =>
    cases d <;> first | exact g.elim | skip
    rename_i b
    exact .inr (.inl ⟨a, b, rpStr rc, rpStr rd, g.1, hZ _ _ (mkP S rp_str g.2)⟩)
  | lst a =>
    cases d <;> first | exact g.elim | skip
    rename_i b
    obtain ⟨p, xs, rfl, h1, h2⟩ := rpLst rc
    obtain ⟨q, ys, rfl, h3, h4⟩ := rpLst rd
    refine .inr (.inr (.inl ⟨p, q, xs, ys, rfl, rfl, S.fh _ _ h1, S.fh _ _ h3, by rw [h2.length, h4.length]; exact g.1, fun r hr => hZ _ _ ?_⟩))
    exact DQ.mkO (Q := fun b δ' => δ' = δ ∧ Q b) (d := .lst (a ++ b)) S hr ⟨_, upd_same, h2.append h4⟩ ⟨rfl, g.2⟩
  | tup a =>
    cases d <;> first | exact g.elim | skip
    rename_i b
    obtain ⟨p, xs, rfl, h1, h2⟩ := rpTup rc
    obtain ⟨q, ys, rfl, h3, h4⟩ := rpTup rd
    obtain ⟨g1, g2, g3⟩ := g
    have n1 : xs ≠ [] := fun z => g1 (List.length_eq_zero_iff.mp (by rw [← h2.length, z]; rfl))
    refine .inr (.inr (.inr ⟨p, q, xs, ys, rfl, rfl, sqT_mono S.fh h1, sqT_mono S.fh h3, n1, by rw [h2.length, h4.length]; exact g2, fun z => hZ _ _ ?_, fun z r hr => hZ _ _ ?_⟩))
    · have e : b = [] := List.length_eq_zero_iff.mp (by rw [← h4.length, z]; rfl)
      subst e
      rw [List.append_nil] at g3
      exact mkP S rc g3
    · exact DQ.mkN (Q := fun b δ' => δ' = δ ∧ Q b) S hr (rp_tupN (h2.append h4) (S.freshF hr)) ⟨rfl, g3⟩
  | _ => exact g.elim

/-! ### -, *, //, %, ** of ints -/
def intG (C : Int → Int → Prop) (f : Int → Int → D) : D → D → (B → Prop) → Prop
  | .int i, .int j, Q => C i j ∧ Q (.p (f i j))
  | _, _, _ => False
theorem rd_intI {K : PySem.W.Frag} {C : Int → Int → Prop} {f : Int → Int → Int} : RD K (rI C fun i j => .int (f i j)) (intG C fun i j => .int (f i j)) := by
  intro W F H σ δ x y c d Q Z S rc rd g hZ
  cases c <;> first | exact g.elim | skip
  cases d <;> first | exact g.elim | skip
  rename_i i j
  exact ⟨i, j, rpInt rc, rpInt rd, g.1, hZ _ _ (mkP S rp_int g.2)⟩
def intG0 (f : Int → Int → D) : D → D → (B → Prop) → Prop
  | .int i, .int j, Q => Q (.p (f i j))
  | _, _, _ => False
theorem rd_intI0 {K : PySem.W.Frag} {f : Int → Int → Int} : RD K (rI0 fun i j => .int (f i j)) (intG0 fun i j => .int (f i j)) := by
  intro W F H σ δ x y c d Q Z S rc rd g hZ
  cases c <;> first | exact g.elim | skip
  cases d <;> first | exact g.elim | skip
  rename_i i j
  exact ⟨i, j, rpInt rc, rpInt rd, hZ _ _ (mkP S rp_int g)⟩
theorem rd_intB0 {K : PySem.W.Frag} {f : Int → Int → Bool} : RD K (rI0 fun i j => .bl (f i j)) (intG0 fun i j => .bl (f i j)) := by
  intro W F H σ δ x y c d Q Z S rc rd g hZ
  cases c <;> first | exact g.elim | skip
  cases d <;> first | exact g.elim | skip
  rename_i i j
  exact ⟨i, j, rpInt rc, rpInt rd, hZ _ _ (mkP S rp_bl g)⟩
abbrev subG := intG0 fun i j => .int (i - j)
abbrev fdivG := intG CDivW fun i j => .int (i / j)
abbrev modG := intG (fun _ j => 0 < j) fun i j => .int (i % j)
def CPowW (i j : Int) : Prop := 0 ≤ j ∧ (Builtin.Int.intBits i : Int) * j ≤ 2 ^ 27
theorem op_powW {X : Cx} : OpR X (binaryOp .Pow) (rI CPowW fun i j => .int (i ^ j.toNat)) := opI fun i j t u s Q E hc q => PyProof.Rows.pow_int hc.1 hc.2 q
abbrev powG := intG CPowW fun i j => .int (i ^ j.toNat)
abbrev ltG := intG0 fun i j => .bl (decide (i < j))
abbrev leG := intG0 fun i j => .bl (decide (i ≤ j))
abbrev gtG := intG0 fun i j => .bl (decide (j < i))
abbrev geG := intG0 fun i j => .bl (decide (j ≤ i))
/-- * : ints, a text or a list so many times -/
def rMulS : R2 := fun x y H Q => ∃ (a : Str) (n : Int), x = .str a ∧ y = .int n ∧ MulOk a n ∧ Q (.str (Txt.mul a n)) H
theorem op_mulS {X : Cx} : OpR X (binaryOp .Mult) rMulS := by
  intro pins s σ H x y v u Q I rx ry h
  obtain ⟨a, n, rfl, rfl, hok, q⟩ := h
  obtain ⟨t, rfl⟩ := rx
  obtain ⟨t', rfl⟩ := ry
  exact SB.mul hok fun t2 k => ⟨.str _, H, I.tok k, ⟨t2, rfl⟩, q⟩
def rMulAll : R2 := fun x y H Q => rI CMulW (fun i j => .int (i * j)) x y H Q ∨ rMulS x y H Q ∨ rRep x y H Q
theorem op_mulAll {X : Cx} : OpR X (binaryOp .Mult) rMulAll := by
  intro pins s σ H x y v u Q I rx ry h
  rcases h with h | h | h
  · exact op_mulW pins s σ H x y v u Q I rx ry h
  · exact op_mulS pins s σ H x y v u Q I rx ry h
  · exact op_rep pins s σ H x y v u Q I rx ry h
def repeatL (k : Nat) (ds : List D) : List D := (List.replicate k ds).flatten
def mulG : D → D → (B → Prop) → Prop
  | .int i, .int j, Q => CMulW i j ∧ Q (.p (.int (i * j)))
  | .str a, .int n, Q => MulOk a n ∧ Q (.p (.str (Txt.mul a n)))
  | .lst a, .int n, Q => (-(2 ^ 63) ≤ n ∧ n < 2 ^ 63 ∧ a.length * n.toNat ≤ sizeLine) ∧ Q (.o (.lst (repeatL n.toNat a)))
  | _, _, _ => False
theorem RpL.rep {K : PySem.W.Frag} {F : Hp} {ds : List D} {xs : List V} (h : RpL K F ds xs) : ∀ n : Nat, RpL K F (repeatL n ds) (List.replicate n xs).flatten
  | 0 => by
    unfold repeatL
    exact .nil
  | n + 1 => by
    unfold repeatL
    rw [List.replicate_succ, List.replicate_succ, List.flatten_cons, List.flatten_cons]
    exact h.append (RpL.rep h n)
theorem rd_mul {K : PySem.W.Frag} : RD K rMulAll mulG := by
  intro W F H σ δ x y c d Q Z S rc rd g hZ
  cases c with
  | int i =>
    cases d <;> first | exact g.elim | skip
    rename_i j
    exact .inl ⟨i, j, rpInt rc, rpInt rd, g.1, hZ _ _ (mkP S rp_int g.2)⟩
  | str a =>
    cases d <;> first | exact g.elim | skip
    rename_i n
    exact .inr (.inl ⟨a, n, rpStr rc, rpInt rd, g.1, hZ _ _ (mkP S rp_str g.2)⟩)
  | lst a =>
    cases d <;> first | exact g.elim | skip
    rename_i n
    obtain ⟨p, xs, rfl, h1, h2⟩ := rpLst rc
    obtain ⟨⟨g1, g2, g3⟩, g4⟩ := g
    refine .inr (.inr ⟨p, n, xs, rfl, rpInt rd, S.fh _ _ h1, g1, g2, by rw [h2.length]; exact g3, fun r hr => hZ _ _ ?_⟩)
    exact DQ.mkO (Q := fun b δ' => δ' = δ ∧ Q b) (d := .lst (repeatL n.toNat a)) S hr ⟨_, upd_same, h2.rep _⟩ ⟨rfl, g4⟩
  | _ => exact g.elim

/-! ### ==, != -/
/-- flat data -/
def flatD : D → Bool
  | .non => true
  | .bl _ => true
  | .int _ => true
  | .str _ => true
  | _ => false
def flatV' : D → V
  | .non => .non
  | .bl b => .bl b
  | .int i => .int i
  | .str s => .str s
  | _ => .non
theorem rpFlat {K : PySem.W.Frag} {F : Hp} {d : D} {v : V} (h : Rp K F d v) (f : flatD d = true) : v = flatV' d ∧ flatV v = true := by
  cases d <;> first | cases f | skip
  · rw [rpNon h]
    exact ⟨rfl, rfl⟩
  · rw [rpBl h]
    exact ⟨rfl, rfl⟩
  · rw [rpInt h]
    exact ⟨rfl, rfl⟩
  · rw [rpStr h]
    exact ⟨rfl, rfl⟩
/-- == of data: none where it isn't told -/
def eqD (x y : D) : Option Bool := if (flatD x && flatD y && scal (flatV' x) (flatV' y)) = true then some (decide (flatV' x = flatV' y)) else
  (toPy x).bind fun c => (toPy y).bind fun d => if (SeqAt.shaped c && SeqAt.shaped d) = true then some (PyData.eqv c d) else none
def rEqAll (K : PySem.W.Frag) : R2 := fun x y H Q => rEq x y H Q ∨ rEqD K x y H Q
def rNeAll (K : PySem.W.Frag) : R2 := fun x y H Q => rNe x y H Q ∨ rNeD K x y H Q
theorem op_eqAll {X : Cx} (hu : X.A.units + 64 < cLine) : OpR X (compareOp .Eq) (rEqAll X.K) := by
  intro pins s σ H x y v u Q I rx ry h
  rcases h with h | h
  · exact op_eq pins s σ H x y v u Q I rx ry h
  · exact op_eqD hu pins s σ H x y v u Q I rx ry h
theorem op_neAll {X : Cx} (hu : X.A.units + 64 < cLine) : OpR X (compareOp .NotEq) (rNeAll X.K) := by
  intro pins s σ H x y v u Q I rx ry h
  rcases h with h | h
  · exact op_ne pins s σ H x y v u Q I rx ry h
  · exact op_neD hu pins s σ H x y v u Q I rx ry h
def eqG : D → D → (B → Prop) → Prop := fun x y Q => ∃ b, eqD x y = some b ∧ Q (.p (.bl b))
def neG : D → D → (B → Prop) → Prop := fun x y Q => ∃ b, eqD x y = some b ∧ Q (.p (.bl (!b)))
theorem eqD_cases {x y : D} {b : Bool} (h : eqD x y = some b) : (flatD x = true ∧ flatD y = true ∧ scal (flatV' x) (flatV' y) = true ∧ b = decide (flatV' x = flatV' y)) ∨
    ∃ c d, toPy x = some c ∧ toPy y = some d ∧ SeqAt.shaped c = true ∧ SeqAt.shaped d = true ∧ b = PyData.eqv c d := by
  unfold eqD at h
  split at h
  · rename_i z
    rw [Bool.and_eq_true, Bool.and_eq_true] at z
    exact .inl ⟨z.1.1, z.1.2, z.2, (Option.some.inj h).symm⟩
  · cases q1 : toPy x with
    | none =>
      rw [q1] at h
      cases h
    | some c =>
      cases q2 : toPy y with
      | none =>
        rw [q1, q2] at h
        cases h
      | some d =>
        rw [q1, q2] at h
        simp only [Option.bind_some] at h
        split at h
        · rename_i z
          rw [Bool.and_eq_true] at z
          exact .inr ⟨c, d, rfl, rfl, z.1, z.2, (Option.some.inj h).symm⟩
        · cases h
theorem rd_eq {K : PySem.W.Frag} : RD K (rEqAll K) eqG := by
  intro W F H σ δ x y c d Q Z S rc rd g hZ
  obtain ⟨b, hb, q⟩ := g
  rcases eqD_cases hb with ⟨f1, f2, sc, rfl⟩ | ⟨c', d', t1, t2, s1, s2, rfl⟩
  · obtain ⟨e1, _⟩ := rpFlat rc f1
    obtain ⟨e2, _⟩ := rpFlat rd f2
    rw [e1, e2]
    exact .inl ⟨sc, hZ _ _ (mkP S rp_bl q)⟩
  · exact .inr ⟨c', d', Rp.dp S.fh c x c' rc t1, Rp.dp S.fh d y d' rd t2, s1, s2, hZ _ _ (mkP S rp_bl q)⟩
theorem rd_ne {K : PySem.W.Frag} : RD K (rNeAll K) neG := by
  intro W F H σ δ x y c d Q Z S rc rd g hZ
  obtain ⟨b, hb, q⟩ := g
  rcases eqD_cases hb with ⟨f1, f2, sc, rfl⟩ | ⟨c', d', t1, t2, s1, s2, rfl⟩
  · obtain ⟨e1, _⟩ := rpFlat rc f1
    obtain ⟨e2, _⟩ := rpFlat rd f2
    rw [e1, e2]
    exact .inl ⟨sc, hZ _ _ (mkP S rp_bl q)⟩
  · exact .inr ⟨c', d', Rp.dp S.fh c x c' rc t1, Rp.dp S.fh d y d' rd t2, s1, s2, hZ _ _ (mkP S rp_bl q)⟩

/-! ### is None, is not None -/
def isNon : D → Bool
  | .non => true
  | _ => false
theorem rp_isNon {K : PySem.W.Frag} {F : Hp} {d : D} {v : V} (h : Rp K F d v) : decide (v = .non) = isNon d := by
  cases d with
  | non => rw [rpNon h]; rfl
  | bl b => rw [rpBl h]; rfl
  | int b => rw [rpInt h]; rfl
  | str b => rw [rpStr h]; rfl
  | ty b => rw [rpTy h]; rfl
  | ref b =>
    unfold Rp at h
    rw [h]
    rfl
  | lst ds => obtain ⟨a, _, rfl, _⟩ := rpLst h; rfl
  | tup ds => obtain ⟨a, _, rfl, _⟩ := rpTup h; rfl
  | dct ks ds =>
    unfold Rp at h
    obtain ⟨a, _, rfl, _⟩ := h
    rfl
  | ins C ns ds =>
    unfold Rp at h
    obtain ⟨a, _, _, rfl, _⟩ := h
    rfl
  | iset S n =>
    unfold Rp at h
    obtain ⟨a, rfl, _⟩ := h
    rfl
  | exc C ds =>
    unfold Rp at h
    obtain ⟨a, _, _, _, rfl, _⟩ := h
    rfl
  | scr ns =>
    unfold Rp at h
    obtain ⟨a, rfl, _⟩ := h
    rfl
def isNG : D → D → (B → Prop) → Prop
  | x, .non, Q => Q (.p (.bl (isNon x)))
  | _, _, _ => False
def notNG : D → D → (B → Prop) → Prop
  | x, .non, Q => Q (.p (.bl (!isNon x)))
  | _, _, _ => False
theorem rd_isN {K : PySem.W.Frag} : RD K (fun x y H Q => y = .non ∧ Q (.bl (decide (x = .non))) H) isNG := by
  intro W F H σ δ x y c d Q Z S rc rd g hZ
  cases d <;> first | exact g.elim | skip
  rw [rp_isNon rc]
  exact ⟨rpNon rd, hZ _ _ (mkP S rp_bl g)⟩
theorem rd_notN {K : PySem.W.Frag} : RD K (fun x y H Q => y = .non ∧ Q (.bl (!decide (x = .non))) H) notNG := by
  intro W F H σ δ x y c d Q Z S rc rd g hZ
  cases d <;> first | exact g.elim | skip
  rw [rp_isNon rc]
  exact ⟨rpNon rd, hZ _ _ (mkP S rp_bl g)⟩

/-! ### in, not in -/
def inD (x : D) (ds : List D) : Bool := inV (flatV' x) (ds.map flatV')
/-- a sign in a text -/
def signOf : D → Option Nat
  | .str s => if s.cps.size = 1 then s.cps[0]? else none
  | _ => none
def isIn (x : D) : D → Option Bool
  | .lst ds => if (flatD x && ds.all flatD) = true then some (inD x ds) else none
  | .tup ds => if (flatD x && ds.all flatD) = true then some (inD x ds) else none
  | .str z => (signOf x).map fun c => decide (c ∈ z.cps.toList)
  | .iset S _ => match x with
    | .int i => some (S i)
    | _ => none
  | _ => none
def rInSg (neg : Bool) : R2 := fun x y H Q => ∃ (c : Nat) (z : Str), x = .str ⟨#[c]⟩ ∧ y = .str z ∧ Q (.bl (if neg then !decide (c ∈ z.cps.toList) else decide (c ∈ z.cps.toList))) H
def rInSet (neg : Bool) : R2 := fun x y H Q => ∃ (i : Int) (a : Addr) (S : Int → Bool) (n : Nat), x = .int i ∧ y = .ref a ∧ H a = some (.set S n) ∧ Q (.bl (if neg then !S i else S i)) H
def rInAll (K : PySem.W.Frag) (neg : Bool) : R2 := fun x y H Q => rIn K neg x y H Q ∨ rInSg neg x y H Q ∨ rInSet neg x y H Q
def inG (neg : Bool) : D → D → (B → Prop) → Prop := fun x y Q => ∃ b, isIn x y = some b ∧ Q (.p (.bl (if neg then !b else b)))
theorem rpL_flat {K : PySem.W.Frag} {F : Hp} : ∀ {ds : List D} {xs : List V}, RpL K F ds xs → ds.all flatD = true → xs = ds.map flatV' ∧ xs.all flatV = true
  | [], xs, h, _ => by
    unfold RpL at h
    rw [h]
    exact ⟨rfl, rfl⟩
  | d :: ds, xs, h, f => by
    unfold RpL at h
    obtain ⟨x, r, rfl, h1, h2⟩ := h
    rw [List.all_cons, Bool.and_eq_true] at f
    obtain ⟨e1, e2⟩ := rpFlat h1 f.1
    obtain ⟨e3, e4⟩ := rpL_flat h2 f.2
    rw [List.map_cons, ← e1, ← e3, List.all_cons, e2, e4]
    exact ⟨rfl, rfl⟩
theorem sign_of {d : D} {c : Nat} (h : signOf d = some c) : d = .str ⟨#[c]⟩ := by
  cases d <;> first | (cases h; done) | skip
  rename_i s
  change (if s.cps.size = 1 then s.cps[0]? else none) = some c at h
  by_cases h1 : s.cps.size = 1
  · rw [if_pos h1] at h
    cases s with
    | mk cps =>
      have h1 : cps.size = 1 := h1
      have h : cps[0]? = some c := h
      have e : cps = #[c] := by
        apply Array.ext
        · rw [h1]; rfl
        · intro i i1 i2
          have : i = 0 := by omega
          subst this
          rw [Array.getElem?_eq_getElem i1] at h
          exact Option.some.inj h
      rw [e]
  · rw [if_neg h1] at h
    cases h
theorem rd_in {K : PySem.W.Frag} {neg : Bool} : RD K (rInAll K neg) (inG neg) := by
  intro W F H σ δ x y c d Q Z S rc rd g hZ
  obtain ⟨b, hb, q⟩ := g
  cases d <;> first | (cases hb; done) | skip
  · rename_i z
    change (signOf c).map (fun c => decide (c ∈ z.cps.toList)) = some b at hb
    cases hs : signOf c with
    | none =>
      rw [hs] at hb
      cases hb
    | some n =>
      rw [hs] at hb
      cases hb
      have rc' := rpStr (sign_of hs ▸ rc)
      exact .inr (.inl ⟨n, z, rc', rpStr rd, hZ _ _ (mkP S rp_bl q)⟩)
  · rename_i ds
    change (if (flatD c && ds.all flatD) = true then some (inD c ds) else none) = some b at hb
    by_cases h1 : (flatD c && ds.all flatD) = true
    · rw [if_pos h1] at hb
      cases hb
      rw [Bool.and_eq_true] at h1
      obtain ⟨p, xs, rfl, h2, h3⟩ := rpLst rd
      obtain ⟨e1, e2⟩ := rpFlat rc h1.1
      obtain ⟨e3, e4⟩ := rpL_flat h3 h1.2
      refine .inl ⟨p, xs, rfl, .inl (SqL.of (S.fh _ _ h2)), e2, e4, hZ _ _ (mkP (d := .bl _) S rp_bl ?_)⟩
      rw [e1, e3]
      exact q
    · rw [if_neg h1] at hb
      cases hb
  · rename_i ds
    change (if (flatD c && ds.all flatD) = true then some (inD c ds) else none) = some b at hb
    by_cases h1 : (flatD c && ds.all flatD) = true
    · rw [if_pos h1] at hb
      cases hb
      rw [Bool.and_eq_true] at h1
      obtain ⟨p, xs, rfl, h2, h3⟩ := rpTup rd
      obtain ⟨e1, e2⟩ := rpFlat rc h1.1
      obtain ⟨e3, e4⟩ := rpL_flat h3 h1.2
      refine .inl ⟨p, xs, rfl, .inr (sqT_mono S.fh h2), e2, e4, hZ _ _ (mkP (d := .bl _) S rp_bl ?_)⟩
      rw [e1, e3]
      exact q
    · rw [if_neg h1] at hb
      cases hb
  · rename_i Sx n
    cases c <;> first | (cases hb; done) | skip
    cases hb
    unfold Rp at rd
    obtain ⟨a, rfl, h1⟩ := rd
    exact .inr (.inr ⟨_, a, _, _, rpInt rc, rfl, S.fh _ _ h1, hZ _ _ (mkP S rp_bl q)⟩)
theorem op_inAll {X : Cx} : OpR X (compareOp .In) (rInAll X.K false) := by
  intro pins s σ H x y v u Q I rx ry h
  rcases h with h | h | h
  · exact op_in_seq pins s σ H x y v u Q I rx ry h
  · exact op_in_sign pins s σ H x y v u Q I rx ry h
  · obtain ⟨i, a, S, n, rfl, rfl, h1, q⟩ := h
    obtain ⟨t, rfl⟩ := rx
    cases ry
    exact wpAny_inSet_of (intKind_is _ _ _ _) rfl (show s.heap.SetOf (intKind X.prog X.w) a S n from I.hok a _ h1) ⟨.bl (S i), H, I.tok _, rfl, q⟩
theorem op_notInAll {X : Cx} : OpR X (compareOp .NotIn) (rInAll X.K true) := by
  intro pins s σ H x y v u Q I rx ry h
  rcases h with h | h | h
  · exact op_notIn_seq pins s σ H x y v u Q I rx ry h
  · exact op_notIn_sign pins s σ H x y v u Q I rx ry h
  · obtain ⟨i, a, S, n, rfl, rfl, h1, q⟩ := h
    obtain ⟨t, rfl⟩ := rx
    cases ry
    exact wpAny_notInSet_of (intKind_is _ _ _ _) rfl (show s.heap.SetOf (intKind X.prog X.w) a S n from I.hok a _ h1) ⟨.bl (!S i), H, I.tok _, rfl, q⟩
end DD

set_option Elab.async false
set_option linter.all false
set_option maxRecDepth 100000
set_option maxHeartbeats 4000000
/-! DD7: built-in functions, subscripts, slices, methods of texts and lists, over data. -/
namespace DD
open PySem PySem.Spec PyProof.Rows L2

/-! ### calls of built-ins -/
def RC (K : PySem.W.Frag) (r : List V → Hp → VK → Prop) (g : List D → (B → Prop) → Prop) : Prop :=
  ∀ (W : Fix) (F H : Hp) (σ : L2.St) (δ : Env') (xs : List V) (ds : List D) (Q : B → Prop) (Z : VK), SD K W F H σ δ → RpL K F ds xs → g ds Q →
    (∀ v H', DQ K W F σ (fun b δ' => δ' = δ ∧ Q b) v H' → Z v H') → r xs H Z
def dCB (g : List D → (B → Prop) → Prop) (t : TDA) : TD := fun δ Q => t δ fun ds δ1 => g ds fun b => Q b δ1
section
variable {X : Cx} {W : Fix} {x : Str} {p pos : Pos} {e : Expr} {es : List Expr} {t : TDA} {id T : String} {r : List V → Hp → VK → Prop} {g : List D → (B → Prop) → Prop}
theorem de_callB (hc : CallR X (.builtin id) r) (hr : RC X.K r g) (hg : Gl X x) (hm : X.mg x = none) (hv : bootBuiltins x = some (.builtin id)) (h : DA X W (e :: es) t) (hn : x ≠ "__name__" := by decide) (hdb : (x == ("__debug__" : Str)) = false := by decide)
    (he : starEach (e :: es) X.env = (false, eval e X.env) :: starEach es X.env := by rfl) (hpl : (backTo pos (starEach es X.env)).any (·.1) = false := by rfl) : DE X W (.Call (.Name x p) (e :: es) [] pos) (dCB g t) :=
  .of (pe_callB (X := X) hc hg hm hv cA_pa hn hdb he hpl) fun F H σ δ Q S q => by
    refine (h.run F H σ δ _ S q).imp fun vs H1 h1 => ?_
    obtain ⟨F1, ds, δ1, e1, S1, r1, q1⟩ := h1
    exact hr W F1 H1 σ δ1 vs ds _ _ S1 r1 q1 fun v H' h => h.fix e1
theorem de_callTy (hc : CallR X (.type T) r) (hr : RC X.K r g) (hg : Gl X x) (hm : X.mg x = none) (hv : bootBuiltins x = some (.type T)) (h : DA X W (e :: es) t) (hn : x ≠ "__name__" := by decide) (hdb : (x == ("__debug__" : Str)) = false := by decide)
    (he : starEach (e :: es) X.env = (false, eval e X.env) :: starEach es X.env := by rfl) (hpl : (backTo pos (starEach es X.env)).any (·.1) = false := by rfl) : DE X W (.Call (.Name x p) (e :: es) [] pos) (dCB g t) :=
  .of (pe_callTy (X := X) hc hg hm hv cA_pa hn hdb he hpl) fun F H σ δ Q S q => by
    refine (h.run F H σ δ _ S q).imp fun vs H1 h1 => ?_
    obtain ⟨F1, ds, δ1, e1, S1, r1, q1⟩ := h1
    exact hr W F1 H1 σ δ1 vs ds _ _ S1 r1 q1 fun v H' h => h.fix e1
end

/-! ### len -/
def lenD : D → Option Nat
  | .lst ds => some ds.length
  | .tup ds => some ds.length
  | .str s => if s.length ≤ sizeLine then some s.length else none
  | .scr ns => some ns.length
  | _ => none
def rLenAll (K : PySem.W.Frag) : List V → Hp → VK → Prop := fun xs H Q => (∃ p ys, xs = [.ref p] ∧ (SqL K H p ys ∨ SqT K H p ys) ∧ Q (.int ys.length) H) ∨ ∃ z, xs = [.str z] ∧ z.length ≤ sizeLine ∧ Q (.int z.length) H
theorem cr_lenAll {X : Cx} : CallR X (.builtin "len") (rLenAll X.K) := by
  intro pins s σ H xs us Q I r h
  rcases h with h | h
  · exact call_len_seq pins s σ H xs us Q I r h
  · exact call_len_str pins s σ H xs us Q I r h
def lenG : List D → (B → Prop) → Prop := fun ds Q => ∃ d n, ds = [d] ∧ lenD d = some n ∧ Q (.p (.int (n : Nat)))
theorem rc_len {K : PySem.W.Frag} : RC K (rLenAll K) lenG := by
  intro W F H σ δ xs ds Q Z S r g hZ
  obtain ⟨d, n, rfl, hn, q⟩ := g
  obtain ⟨v, rfl, rv⟩ := rpL1 r
  cases d <;> first | (cases hn; done) | skip
  · rename_i s
    change (if s.length ≤ sizeLine then some s.length else none) = some n at hn
    by_cases hz : s.length ≤ sizeLine
    · rw [if_pos hz] at hn
      cases hn
      exact .inr ⟨s, by rw [rpStr rv], hz, hZ _ _ (mkP S rp_int q)⟩
    · rw [if_neg hz] at hn
      cases hn
  · cases hn
    obtain ⟨a, ys, rfl, h1, h2⟩ := rpLst rv
    refine .inl ⟨a, ys, rfl, .inl (SqL.of (S.fh _ _ h1)), hZ _ _ (mkP (d := .int _) S rp_int ?_)⟩
    rw [h2.length]
    exact q
  · cases hn
    obtain ⟨a, ys, rfl, h1, h2⟩ := rpTup rv
    refine .inl ⟨a, ys, rfl, .inr (sqT_mono S.fh h1), hZ _ _ (mkP (d := .int _) S rp_int ?_)⟩
    rw [h2.length]
    exact q
  · cases hn
    unfold Rp at rv
    obtain ⟨a, rfl, h1⟩ := rv
    refine .inl ⟨a, _, rfl, .inl (S.fh.seq h1.seq), hZ _ _ (mkP (d := .int _) S rp_int ?_)⟩
    rw [List.length_map]
    exact q

/-! ### isinstance(x, T), T one class -/
def tyD : D → Option String
  | .non => some "NoneType"
  | .bl _ => some "bool"
  | .int _ => some "int"
  | .str _ => some "str"
  | .lst _ => some "list"
  | .tup _ => some "tuple"
  | .dct _ _ => some "dict"
  | .iset _ _ => some "set"
  | _ => none
def clsD : D → Option Value
  | .ty n => some (.type n)
  | .ref a => some (.ref a)
  | _ => none
def isiG (K : PySem.W.Frag) : List D → (B → Prop) → Prop := fun ds Q => ∃ x c t u b, ds = [x, c] ∧ tyD x = some t ∧ clsD c = some u ∧ PySem.W.kitOne K (.type t) u = some b ∧ Q (.p (.bl b))
theorem rp_tyX {K : PySem.W.Frag} {F H : Hp} (e : Same F H) {d : D} {v : V} {t : String} (r : Rp K F d v) (h : tyD d = some t) : TyX K H v (.type t) := by
  cases d <;> first | (cases h; done) | skip
  · cases h
    rw [rpNon r]
    exact .base .non
  · cases h
    rw [rpBl r]
    exact .base (.bl _)
  · cases h
    rw [rpInt r]
    exact .base (.int _)
  · cases h
    rw [rpStr r]
    exact .base (.str _)
  · cases h
    obtain ⟨a, xs, rfl, h1, _⟩ := rpLst r
    exact .base (.lst (e _ _ h1))
  · cases h
    obtain ⟨a, xs, rfl, h1, _⟩ := rpTup r
    rcases sqT_mono e h1 with (h2 | ⟨o, h2⟩) | ⟨o, its, n, h2, h3, _⟩
    · exact .base (.tup h2)
    · exact .fTuple h2
    · exact .kTuple h2 h3
  · cases h
    unfold Rp at r
    obtain ⟨a, xs, rfl, h1, _⟩ := r
    exact .base (.dK (e _ _ h1))
  · cases h
    unfold Rp at r
    obtain ⟨a, rfl, h1⟩ := r
    exact .set (e _ _ h1)
theorem rc_isi {K : PySem.W.Frag} : RC K (rIsi K) (isiG K) := by
  intro W F H σ δ xs ds Q Z S r g hZ
  obtain ⟨x, c, t, u, b, rfl, h1, h2, h3, q⟩ := g
  obtain ⟨v, w, rfl, rv, rw'⟩ := rpL2 r
  have hc : ClsV w u := by
    cases c <;> first | (cases h2; done) | skip
    · cases h2
      rw [rpTy rw']
      exact .ty _
    · cases h2
      unfold Rp at rw'
      rw [rw']
      exact .own _
  exact ⟨v, w, _, u, b, rfl, hc, rp_tyX S.fh rv h1, h3, hZ _ _ (mkP S rp_bl q)⟩

/-! ### int(x), max(a, b), str(text), list(x), tuple(x) -/
def intOf : D → Option Int
  | .int i => some i
  | .bl k => some (if k then 1 else 0)
  | _ => none
def intCG : List D → (B → Prop) → Prop := fun ds Q => ∃ d i, ds = [d] ∧ intOf d = some i ∧ Q (.p (.int i))
theorem rc_int {K : PySem.W.Frag} : RC K (fun xs H Q => (∃ i, xs = [.int i] ∧ Q (.int i) H) ∨ ∃ k, xs = [.bl k] ∧ Q (.int (if k then 1 else 0)) H) intCG := by
  intro W F H σ δ xs ds Q Z S r g hZ
  obtain ⟨d, i, rfl, h1, q⟩ := g
  obtain ⟨v, rfl, rv⟩ := rpL1 r
  cases d <;> first | (cases h1; done) | skip
  · cases h1
    exact .inr ⟨_, by rw [rpBl rv], hZ _ _ (mkP S rp_int q)⟩
  · cases h1
    exact .inl ⟨_, by rw [rpInt rv], hZ _ _ (mkP S rp_int q)⟩
def maxG : List D → (B → Prop) → Prop := fun ds Q => ∃ i j : Int, ds = [.int i, .int j] ∧ Q (.p (.int (if j > i then j else i)))
theorem rc_max {K : PySem.W.Frag} : RC K (fun xs H Q => ∃ i j, xs = [.int i, .int j] ∧ Q (.int (if j > i then j else i)) H) maxG := by
  intro W F H σ δ xs ds Q Z S r g hZ
  obtain ⟨i, j, rfl, q⟩ := g
  obtain ⟨v, w, rfl, rv, rw'⟩ := rpL2 r
  exact ⟨i, j, by rw [rpInt rv, rpInt rw'], hZ _ _ (mkP S rp_int q)⟩
def strG : List D → (B → Prop) → Prop := fun ds Q => ∃ s : Str, ds = [.str s] ∧ Q (.p (.str s))
theorem rc_str {K : PySem.W.Frag} : RC K (fun xs H Q => ∃ a, xs = [.str a] ∧ Q (.str a) H) strG := by
  intro W F H σ δ xs ds Q Z S r g hZ
  obtain ⟨s, rfl, q⟩ := g
  obtain ⟨v, rfl, rv⟩ := rpL1 r
  exact ⟨s, by rw [rpStr rv], hZ _ _ (mkP S rp_str q)⟩
def seqD : D → Option (List D)
  | .lst ds => some ds
  | .tup ds => some ds
  | _ => none
theorem rp_seq {K : PySem.W.Frag} {F H : Hp} (e : Same F H) {d : D} {ds : List D} {v : V} (r : Rp K F d v) (h : seqD d = some ds) : ∃ a xs, v = .ref a ∧ (SqL K H a xs ∨ SqT K H a xs) ∧ RpL K F ds xs := by
  cases d <;> first | (cases h; done) | skip
  · cases h
    obtain ⟨a, xs, rfl, h1, h2⟩ := rpLst r
    exact ⟨a, xs, rfl, .inl (SqL.of (e _ _ h1)), h2⟩
  · cases h
    obtain ⟨a, xs, rfl, h1, h2⟩ := rpTup r
    exact ⟨a, xs, rfl, .inr (sqT_mono e h1), h2⟩
def listG : List D → (B → Prop) → Prop := fun ds Q => ∃ d es, ds = [d] ∧ seqD d = some es ∧ Q (.o (.lst es))
theorem rc_list {K : PySem.W.Frag} : RC K (fun xs H Q => ∃ p ys, xs = [.ref p] ∧ (SqL K H p ys ∨ SqT K H p ys) ∧ ∀ l, H l = none → Q (.ref l) (upd H l (.lst ys))) listG := by
  intro W F H σ δ xs ds Q Z S r g hZ
  obtain ⟨d, es, rfl, h1, q⟩ := g
  obtain ⟨v, rfl, rv⟩ := rpL1 r
  obtain ⟨a, ys, rfl, h2, h3⟩ := rp_seq S.fh rv h1
  exact ⟨a, ys, rfl, h2, fun l hl => hZ _ _ (DQ.mkO (Q := fun b δ' => δ' = δ ∧ Q b) (d := .lst es) S hl ⟨ys, upd_same, h3⟩ ⟨rfl, q⟩)⟩
def tupleG : List D → (B → Prop) → Prop := fun ds Q => ∃ d es, ds = [d] ∧ seqD d = some es ∧ Q (.p (.tup es))
theorem rc_tuple {K : PySem.W.Frag} : RC K (fun xs H Q => ∃ p ys, xs = [.ref p] ∧ ((SqL K H p ys ∧ ∀ l, H l = none → Q (.ref l) (upd H l (.tup ys))) ∨ (SqT K H p ys ∧ Q (.ref p) H))) tupleG := by
  intro W F H σ δ xs ds Q Z S r g hZ
  obtain ⟨d, es, rfl, h1, q⟩ := g
  obtain ⟨v, rfl, rv⟩ := rpL1 r
  cases d <;> first | (cases h1; done) | skip
  · cases h1
    obtain ⟨a, ys, rfl, h2, h3⟩ := rpLst rv
    exact ⟨a, ys, rfl, .inl ⟨SqL.of (S.fh _ _ h2), fun l hl => hZ _ _ (DQ.mkN (Q := fun b δ' => δ' = δ ∧ Q b) S hl (rp_tupN h3 (S.freshF hl)) ⟨rfl, q⟩)⟩⟩
  · cases h1
    obtain ⟨a, ys, rfl, h2, h3⟩ := rpTup rv
    exact ⟨a, ys, rfl, .inr ⟨sqT_mono S.fh h2, hZ _ _ (mkP S rv q)⟩⟩

/-! ### set(xs), xs a list of ints -/
def metIn (ns : List Int) (k : Int) : Bool := ns.any (· == k)
def rSetL (K : PySem.W.Frag) : List V → Hp → VK → Prop := fun xs H Q => ∃ a, ∃ ns : List Int, xs = [.ref a] ∧ SqL K H a (ns.map V.int) ∧ ns.length < 4000 ∧ ∀ p n, H p = none → Q (.ref p) (upd H p (.set (metIn ns) n))
theorem cr_setL {X : Cx} (hc : X.calm = true) : CallR X (.type "set") (rSetL X.K) := by
  intro pins s σ H xs us Q I r h
  obtain ⟨a, ns, rfl, hs, hl, q⟩ := h
  obtain rfl := Vals.ref1 r
  obtain ⟨its, rv, pl, hz⟩ := I.list hs
  have hi := intsAre_of rv
  have hlen : its.length = ns.length := by
    have := rv.length
    rw [List.length_map] at this
    exact this.symm
  refine PySem.call_set_list (items := its.toArray) (ns := ns) (I.ok.hd hc) pl.isList (by simpa using hi) (by simp only [List.size_toArray, hlen]; unfold scanBound; omega) fun h' tk hS hk => ?_
  have hp : H s.heap.objs.size = none := I.hok.fresh (Nat.le_refl _)
  have e : ∀ k, (firstMet (fun i => ns.getD i 0) its.toArray.size).any (· == k) = metIn ns k := fun k => by
    rw [firstMet_any]
    unfold metIn
    congr 1
    rw [List.size_toArray, hlen]
    apply List.ext_getElem
    · simp
    · intro i h1 h2
      simp [h2]
  refine ⟨.ref s.heap.objs.size, upd H s.heap.objs.size (.set (metIn ns) (firstMet (fun i => ns.getD i 0) its.toArray.size).length), I.laid (t' := tk) (fun b o eo => hk b o (Heap.lt_size eo) eo) (Nat.le_refl _) ?_, rfl, q _ _ hp⟩
  exact SetOf_congr hS (fun k => e k) rfl
def setG : List D → (B → Prop) → Prop := fun ds Q => ∃ ns : List Int, ds = [.lst (ns.map D.int)] ∧ ns.length < 4000 ∧ ∀ n, Q (.p (.iset (metIn ns) n))
theorem rc_setL {K : PySem.W.Frag} : RC K (rSetL K) setG := by
  intro W F H σ δ xs ds Q Z S r g hZ
  obtain ⟨ns, rfl, hl, q⟩ := g
  obtain ⟨v, rfl, rv⟩ := rpL1 r
  obtain ⟨a, ys, rfl, h2, h3⟩ := rpLst rv
  rw [RpL.int h3] at h2
  refine ⟨a, ns, rfl, SqL.of (S.fh _ _ h2), hl, fun p n hp => hZ _ _ (DQ.mkN (Q := fun b δ' => δ' = δ ∧ Q b) (d := .iset (metIn ns) n) S hp ?_ ⟨rfl, q n⟩)⟩
  unfold Rp
  exact ⟨p, rfl, upd_same⟩

/-! ### sorted(xs, reverse=b), xs a list of ints -/
structure DK (X : Cx) (W : Fix) (kws : List Keyword) (t : TDA) : Prop where
  run : ∀ (F H : Hp) (σ : L2.St) (δ : Env') (Q : List D → Env' → Prop), SD X.K W F H σ δ → t δ Q → ∀ (pos : Pos) (pins : List (Addr × Obj)) (s : Shared), Inv X pins σ H s →
    wpAny (model X.prog X.w) X.A (evalAll ((backToKw pos (keywordEach kws X.env)).map (·.2))) (AP X pins σ (AQ X.K W F σ Q)) X.xe s
def cK (X : Cx) (kws : List Keyword) : TA := fun σ H Q => ∀ (pos : Pos) (pins : List (Addr × Obj)) (s : Shared), Inv X pins σ H s → wpAny (model X.prog X.w) X.A (evalAll ((backToKw pos (keywordEach kws X.env)).map (·.2))) (AP X pins σ Q) X.xe s
theorem cK_pk {X : Cx} {kws : List Keyword} : PK X kws (cK X kws) := ⟨fun pos pins s _ _ _ I h => h pos pins s I⟩
theorem cK.imp {X : Cx} {kws : List Keyword} {σ : L2.St} {H : Hp} {Q Q' : List V → Hp → Prop} (h : cK X kws σ H Q) (i : ∀ v H', Q v H' → Q' v H') : cK X kws σ H Q' := fun pos pins s I => thn (h pos pins s I) fun u s' q => by
  obtain ⟨v, H', I', r, q⟩ := q
  exact ⟨v, H', I', r, i v H' q⟩
section
variable {X : Cx} {W : Fix} {x : Str} {p pos kpos : Pos} {e : Expr} {es : List Expr} {kws : List Keyword} {te : TD} {t tk : TDA} {id : String} {nm : Option Str} {ks : List Str}
theorem dk_nil : DK X W [] dNil := ⟨fun F H σ δ Q S q pos pins s I => (pk_nil (X := X)).run pos pins s σ H _ I ⟨F, [], δ, Same.refl F, S, .nil, q⟩⟩
theorem dk_cons (h : DE X W e te) (g : DK X W kws t) : DK X W (⟨nm, e, kpos⟩ :: kws) (dCons te t) := by
  refine ⟨fun F H σ δ Q S q pos pins s I => (pk_cons (X := X) cE_pe cK_pk).run pos pins s σ H _ I ?_⟩
  refine (h.plain S q).imp fun x H1 h1 => ?_
  obtain ⟨F1, d, δ1, e1, S1, r1, q1⟩ := h1
  intro pos pins s I
  refine thn (g.run F1 H1 σ δ1 _ S1 q1 pos pins s I) fun us s2 h2 => ?_
  obtain ⟨xs, H2, I2, rv, F2, ds, δ2, e2, S2, r2, q2⟩ := h2
  exact ⟨xs, H2, I2, rv, F2, d :: ds, δ2, e1.trans e2, S2, .cons (Rp.mono e2 d x r1) r2, q2⟩
def RCK (K : PySem.W.Frag) (r : List V → List V → Hp → VK → Prop) (g : List D → List D → (B → Prop) → Prop) : Prop :=
  ∀ (W : Fix) (F H : Hp) (σ : L2.St) (δ : Env') (xs ys : List V) (ds fs : List D) (Q : B → Prop) (Z : VK), SD K W F H σ δ → RpL K F ds xs → RpL K F fs ys → g ds fs Q →
    (∀ v H', DQ K W F σ (fun b δ' => δ' = δ ∧ Q b) v H' → Z v H') → r xs ys H Z
def dCBK (g : List D → List D → (B → Prop) → Prop) (t tk : TDA) : TD := fun δ Q => t δ fun ds δ1 => tk δ1 fun fs δ2 => g ds fs fun b => Q b δ2
theorem de_callBK {r : List V → List V → Hp → VK → Prop} {g : List D → List D → (B → Prop) → Prop} (hc : CallRK X (.builtin id) ks r) (hr : RCK X.K r g) (hg : Gl X x) (hm : X.mg x = none) (hv : bootBuiltins x = some (.builtin id)) (h : DA X W (e :: es) t) (hk : DK X W kws tk) (hn : x ≠ "__name__" := by decide) (hdb : (x == ("__debug__" : Str)) = false := by decide)
    (he : backTo pos (starEach (e :: es) X.env) = (false, eval e X.env) :: backTo pos (starEach es X.env) := by rfl) (hpl : (backTo pos (starEach (e :: es) X.env)).any (·.1) = false := by rfl)
    (hall : (backToKw pos (keywordEach kws X.env)).all (·.1.isSome) = true := by rfl) (hnone : (backToKw pos (keywordEach kws X.env)).any (·.1.isNone) = false := by rfl) (hks : (backToKw pos (keywordEach kws X.env)).filterMap (·.1) = ks := by rfl) :
    DE X W (.Call (.Name x p) (e :: es) kws pos) (dCBK g t tk) :=
  .of (pe_callBK (X := X) hc hg hm hv cA_pa cK_pk hn hdb he hpl hall hnone hks) fun F H σ δ Q S q => by
    refine (h.run F H σ δ _ S q).imp fun vs H1 h1 => ?_
    obtain ⟨F1, ds, δ1, e1, S1, r1, q1⟩ := h1
    intro pos pins s I
    refine thn (hk.run F1 H1 σ δ1 _ S1 q1 pos pins s I) fun us s2 h2 => ?_
    obtain ⟨ys, H2, I2, rv, F2, fs, δ2, e2, S2, r2, q2⟩ := h2
    exact ⟨ys, H2, I2, rv, hr W F2 H2 σ δ2 vs ys ds fs _ _ S2 (RpL.mono e2 _ _ r1) r2 q2 fun v H' h => h.fix (e1.trans e2)⟩
end
def sortedRevG (b : Bool) : List D → List D → (B → Prop) → Prop := fun ds fs Q => ∃ ns : List Int, ds = [.lst (ns.map D.int)] ∧ fs = [.bl b] ∧ ∀ ns' : List Int, ns'.Perm ns → OrdB b ns' → Q (.o (.lst (ns'.map D.int)))
theorem rc_sortedRev {K : PySem.W.Frag} {b : Bool} : RCK K (rSortedKw K b [.bl b]) (sortedRevG b) := by
  intro W F H σ δ xs ys ds fs Q Z S r1 r2 g hZ
  obtain ⟨ns, rfl, rfl, q⟩ := g
  obtain ⟨v, rfl, rv⟩ := rpL1 r1
  obtain ⟨w, rfl, rw'⟩ := rpL1 r2
  obtain ⟨a, zs, rfl, h2, h3⟩ := rpLst rv
  rw [RpL.int h3] at h2
  exact ⟨a, ns, rfl, by rw [rpBl rw'], SqL.of (S.fh _ _ h2), fun ns' l h4 h5 hl => hZ _ _ (DQ.mkO (Q := fun b δ' => δ' = δ ∧ Q b) (d := .lst (ns'.map D.int)) S hl ⟨_, upd_same, RpL.ofInt ns'⟩ ⟨rfl, q ns' h4 h5⟩)⟩

/-! ### x[i], x[lo:hi] -/
def itemD : D → D → Option D
  | .lst ds, .int i => atI ds i
  | .tup ds, .int i => atI ds i
  | .str z, .int i => if z.length ≤ sizeLine then (atI z.cps.toList i).map fun c => .str ⟨#[c]⟩ else none
  | .scr ns, .int i => (atI ns i).map D.int
  | _, _ => none
def ixG : D → D → (B → Prop) → Prop := fun x y Q => ∃ d, itemD x y = some d ∧ Q (.p d)
theorem rpL_atI {K : PySem.W.Frag} {F : Hp} {ds : List D} {xs : List V} {i : Int} {d : D} (h : RpL K F ds xs) (e : atI ds i = some d) : ∃ x, atI xs i = some x ∧ Rp K F d x := by
  unfold atI at e ⊢
  rw [h.length]
  cases q : ixN ds.length i with
  | none =>
    rw [q] at e
    cases e
  | some j =>
    rw [q] at e
    exact h.get e
theorem rd_ix {K : PySem.W.Frag} : RD K (rIx K) ixG := by
  intro W F H σ δ x y c d Q Z S rc rd g hZ
  obtain ⟨r, hr, q⟩ := g
  cases c <;> first | (cases d <;> (cases hr; done)) | skip
  · cases d <;> first | (cases hr; done) | skip
    rename_i z i
    change (if z.length ≤ sizeLine then (atI z.cps.toList i).map fun c => D.str ⟨#[c]⟩ else none) = some r at hr
    by_cases hz : z.length ≤ sizeLine
    · rw [if_pos hz] at hr
      cases e : atI z.cps.toList i with
      | none =>
        rw [e] at hr
        cases hr
      | some c =>
        rw [e] at hr
        cases hr
        exact .inr (.inr ⟨z, i, c, rpStr rc, rpInt rd, hz, e, hZ _ _ (mkP S rp_str q)⟩)
    · rw [if_neg hz] at hr
      cases hr
  · cases d <;> first | (cases hr; done) | skip
    obtain ⟨a, xs, rfl, h1, h2⟩ := rpLst rc
    obtain ⟨v, h3, h4⟩ := rpL_atI h2 hr
    exact .inl ⟨a, xs, _, v, rfl, rpInt rd, SqL.of (S.fh _ _ h1), h3, hZ _ _ (mkP S h4 q)⟩
  · cases d <;> first | (cases hr; done) | skip
    obtain ⟨a, xs, rfl, h1, h2⟩ := rpTup rc
    obtain ⟨v, h3, h4⟩ := rpL_atI h2 hr
    exact .inr (.inl ⟨a, xs, _, v, rfl, rpInt rd, sqT_mono S.fh h1, h3, hZ _ _ (mkP S h4 q)⟩)
  · cases d <;> first | (cases hr; done) | skip
    rename_i ns j
    unfold Rp at rc
    obtain ⟨a, rfl, h1⟩ := rc
    cases e : atI ns j with
    | none =>
      have hr : (atI ns j).map D.int = some r := hr
      rw [e] at hr
      cases hr
    | some m =>
      have hr : (atI ns j).map D.int = some r := hr
      rw [e] at hr
      cases hr
      have em : atI (ns.map V.int) j = some (.int m) := by
        unfold atI at e ⊢
        rw [List.length_map]
        cases g : ixN ns.length j with
        | none =>
          rw [g] at e
          cases e
        | some l =>
          rw [g] at e
          have e : ns[l]? = some m := e
          show (ns.map V.int)[l]? = _
          rw [List.getElem?_map, e]
          rfl
      exact .inl ⟨a, _, _, _, rfl, rpInt rd, S.fh.seq h1.seq, em, hZ _ _ (mkP S rp_int q)⟩
theorem de_ix {X : Cx} {W : Fix} {a b : Expr} {ta tb : TD} {pos : Pos} (ha : DE X W a ta) (hb : DE X W b tb) (hs : PlainIx b) : DE X W (.Subscript a b pos) (dOp ixG ta tb) :=
  .of (pe_ix (X := X) ix_seq cE_pe cE_pe hs) fun _ _ _ _ _ S q => two ha hb rd_ix S q
structure DO (X : Cx) (W : Fix) (e : Option Expr) (t : Env' → (Option Int → Env' → Prop) → Prop) : Prop where
  run : ∀ (F H : Hp) (σ : L2.St) (δ : Env') (Q : Option Int → Env' → Prop), SD X.K W F H σ δ → t δ Q → ∀ (pins : List (Addr × Obj)) (s : Shared), Inv X pins σ H s →
    wpAny (model X.prog X.w) X.A (evalPart e X.env) (fun u s' => ∃ o H', Inv X pins σ H' s' ∧ IsPart u o ∧ ∃ (F' : Hp) (δ' : Env'), Same F F' ∧ SD X.K W F' H' σ δ' ∧ Q o δ') X.xe s
def cO (X : Cx) (e : Option Expr) : TO := fun σ H Q => ∀ (pins : List (Addr × Obj)) (s : Shared), Inv X pins σ H s →
  wpAny (model X.prog X.w) X.A (evalPart e X.env) (fun u s' => ∃ o H', Inv X pins σ H' s' ∧ IsPart u o ∧ Q o H') X.xe s
theorem cO_po {X : Cx} {e : Option Expr} : PO X e (cO X e) := ⟨fun pins s _ _ _ I h => h pins s I⟩
def dNo : Env' → (Option Int → Env' → Prop) → Prop := fun δ Q => Q none δ
def dPart (t : TD) : Env' → (Option Int → Env' → Prop) → Prop := fun δ Q => dp t δ fun d δ' => ∃ i, d = .int i ∧ Q (some i) δ'
theorem do_none {X : Cx} {W : Fix} : DO X W none dNo := ⟨fun F H σ δ Q S q pins s I => (po_none (X := X)).run pins s σ H _ I ⟨F, δ, Same.refl F, S, q⟩⟩
theorem do_some {X : Cx} {W : Fix} {e : Expr} {t : TD} (h : DE X W e t) : DO X W (some e) (dPart t) := ⟨fun F H σ δ Q S q pins s I => (po_some (X := X) cE_pe).run pins s σ H _ I ((h.plain S q).imp fun v H1 h1 => by
  obtain ⟨F1, d, δ1, e1, S1, r1, i, rfl, q1⟩ := h1
  exact ⟨i, rpInt r1, F1, δ1, e1, S1, q1⟩)⟩
def cutD (ds : List D) (lo hi : Option Int) : List D := (ds.drop (HT.sIx ds.length 0 lo)).take (HT.sIx ds.length ds.length hi - HT.sIx ds.length 0 lo)
theorem RpL.cut {K : PySem.W.Frag} {F : Hp} {ds : List D} {xs : List V} (h : RpL K F ds xs) (lo hi : Option Int) : RpL K F (cutD ds lo hi) (cutV xs lo hi) := by
  unfold cutD cutV
  rw [h.length]
  exact (h.drop _).take _
def slG : D → Option Int → Option Int → (B → Prop) → Prop
  | .lst ds, lo, hi, Q => Q (.o (.lst (cutD ds lo hi)))
  | .tup ds, lo, hi, Q => ¬ (HT.sIx ds.length 0 lo = 0 ∧ HT.sIx ds.length ds.length hi = ds.length) ∧ Q (.p (.tup (cutD ds lo hi)))
  | .str z, lo, hi, Q => z.length ≤ sizeLine ∧ Q (.p (.str (cutS z lo hi)))
  | _, _, _, _ => False
def rSlAll (K : PySem.W.Frag) : V → Option Int → Option Int → Hp → VK → Prop := fun x lo hi H Q => rSlL K x lo hi H Q ∨ rSlT K x lo hi H Q ∨ rSlS x lo hi H Q
theorem sl_all {X : Cx} : SlR X (rSlAll X.K) := SlR.or sl_list (SlR.or sl_tup sl_str)
def dSl (te : TD) (tl th : Env' → (Option Int → Env' → Prop) → Prop) : TD := fun δ Q => dp te δ fun d δ1 => tl δ1 fun lo δ2 => th δ2 fun hi δ3 => slG d lo hi fun b => Q b δ3
theorem de_slice {X : Cx} {W : Fix} {e : Expr} {lo hi : Option Expr} {te : TD} {tl th : Env' → (Option Int → Env' → Prop) → Prop} {p2 pos : Pos} (h : DE X W e te) (hl : DO X W lo tl) (hu : DO X W hi th) : DE X W (.Subscript e (.Slice lo hi none p2) pos) (dSl te tl th) :=
  .of (pe_slice (X := X) sl_all cE_pe cO_po cO_po) fun F H σ δ Q S q => by
    refine (h.plain S q).imp fun v H1 h1 => ?_
    obtain ⟨F1, d, δ1, e1, S1, r1, q1⟩ := h1
    intro pins s I
    refine thn (hl.run F1 H1 σ δ1 _ S1 q1 pins s I) fun u s2 h2 => ?_
    obtain ⟨lo', H2, I2, p2, F2, δ2, e2, S2, q2⟩ := h2
    refine ⟨lo', H2, I2, p2, fun pins s I => ?_⟩
    refine thn (hu.run F2 H2 σ δ2 _ S2 q2 pins s I) fun u s3 h3 => ?_
    obtain ⟨hi', H3, I3, p3, F3, δ3, e3, S3, q3⟩ := h3
    refine ⟨hi', H3, I3, p3, ?_⟩
    have r3 : Rp X.K F3 d v := Rp.mono (e2.trans e3) d v r1
    have eF := (e1.trans e2).trans e3
    cases d <;> first | exact q3.elim | skip
    · exact .inr (.inr ⟨_, rpStr r3, q3.1, (mkP (Q := fun b => Q b δ3) S3 rp_str q3.2).fix eF⟩)
    · obtain ⟨a, xs, rfl, h1, h2⟩ := rpLst r3
      refine .inl ⟨a, xs, rfl, SqL.of (S3.fh _ _ h1), fun p hp => ?_⟩
      exact (DQ.mkO (Q := Q) (d := .lst _) S3 hp ⟨_, upd_same, h2.cut lo' hi'⟩ q3).back eF
    · obtain ⟨a, xs, rfl, h1, h2⟩ := rpTup r3
      obtain ⟨q4, q5⟩ := q3
      refine .inr (.inl ⟨a, xs, rfl, sqT_mono S3.fh h1, by rw [h2.length]; exact q4, fun p hp => ?_⟩)
      exact (DQ.mkN (Q := Q) S3 hp (rp_tupN (h2.cut lo' hi') (S3.freshF hp)) q5).back eF

/-! ### methods of texts: s.join(xs), s.find(t) -/
def dM1 (g : Str → D → (B → Prop) → Prop) (to te : TD) : TD := fun δ Q => dp to δ fun x δ1 => ∃ a, x = .str a ∧ dp te δ1 fun y δ2 => g a y fun z => Q z δ2
def joinG : Str → D → (B → Prop) → Prop := fun a y Q => ∃ ys : List Str, seqD y = some (ys.map D.str) ∧ (ys.map (·.length)).sum + ys.length * a.length ≤ 16777216 ∧ Q (.p (.str (Txt.join a ys)))
def findG : Str → D → (B → Prop) → Prop := fun a y Q => ∃ b : Str, y = .str b ∧ Q (.p (.int (Txt.find a b)))
section
variable {X : Cx} {W : Fix} {o e : Expr} {to te : TD} {apos pos : Pos}
theorem de_join (ho : DE X W o to) (h : DE X W e te) (hs : starEach [e] X.env = [(false, eval e X.env)] := by rfl) (hbase : attributeBase o "join" X.env (eval o X.env) = eval o X.env := by rfl) (hline : (apos.endLine == pos.line) = true := by rfl) :
    DE X W (.Call (.Attribute o "join" apos) [e] [] pos) (dM1 joinG to te) :=
  .of (pe_join (X := X) cE_pe cE_pe hs hbase hline) fun F H σ δ Q S q => by
    refine (ho.plain S q).imp fun v H1 h1 => ?_
    obtain ⟨F1, d, δ1, e1, S1, r1, a, rfl, q1⟩ := h1
    refine ⟨⟨a, rpStr r1⟩, (h.plain S1 q1).imp fun u H2 h2 => ?_⟩
    obtain ⟨F2, y, δ2, e2, S2, r2, ys, hy, hz, q2⟩ := h2
    obtain ⟨p, xs, rfl, h3, h4⟩ := rp_seq S2.fh r2 hy
    rw [RpL.str h4] at h3
    exact ⟨a, p, ys, rpStr r1, rfl, h3, hz, (mkP (Q := fun b => Q b δ2) S2 rp_str q2).fix (e1.trans e2)⟩
theorem de_find (ho : DE X W o to) (h : DE X W e te) (hs : starEach [e] X.env = [(false, eval e X.env)] := by rfl) (hbase : attributeBase o "find" X.env (eval o X.env) = eval o X.env := by rfl) (hline : (apos.endLine == pos.line) = true := by rfl) :
    DE X W (.Call (.Attribute o "find" apos) [e] [] pos) (dM1 findG to te) :=
  .of (pe_m1 (X := X) F.slot_str_find F.type_str_find mt_find cE_pe cE_pe hs hbase hline) fun F H σ δ Q S q => by
    refine (ho.plain S q).imp fun v H1 h1 => ?_
    obtain ⟨F1, d, δ1, e1, S1, r1, a, rfl, q1⟩ := h1
    refine ⟨⟨a, rpStr r1⟩, (h.plain S1 q1).imp fun u H2 h2 => ?_⟩
    obtain ⟨F2, y, δ2, e2, S2, r2, b, rfl, q2⟩ := h2
    exact ⟨a, b, rpStr r1, by rw [rpStr r2], (mkP (Q := fun b => Q b δ2) S2 rp_int q2).fix (e1.trans e2)⟩
end

/-! ### xs.append(e), xs.clear(), xs an own list in slot i -/
section
variable {X : Cx} {W : Fix} {e : Expr} {te : TD} {apos pos p spos : Pos} {i : Nat} {x : Str}
theorem ownL {K : PySem.W.Frag} {F H : Hp} {d : D} {a : Addr} (h : Own K F H d a) : (∃ ds xs, d = .lst ds ∧ H a = some (.lst xs) ∧ RpL K F ds xs) ∨ ∀ ds, d ≠ .lst ds := by
  cases d <;> first | (right; intro ds z; cases z; done) | skip
  obtain ⟨xs, h1, h2⟩ := h
  exact .inl ⟨_, xs, rfl, h1, h2⟩
/-- an own list turns -/
theorem SD.own_turn {K : PySem.W.Frag} {F H : Hp} {σ : L2.St} {δ : Env'} {d d' : D} {a : Addr} {o : HO} (S : SD K W F H σ δ) (hi : δ[i]? = some (some (.o d))) (ha : σ[i]? = some (some (.ref a))) (ho : Own K F (upd H a o) d' a) :
    SD K W F (upd H a o) σ (δ.set i (some (.o d'))) := by
  obtain ⟨v, e1, a', rfl, hF, h0, hO⟩ := S.get i _ hi
  rw [ha] at e1
  cases e1
  have S1 := (SD.drop (i := i) S).turn (o := o) h0 hF fun j c h1 h2 h3 => by
    by_cases ej : j = i
    · subst ej
      have hl : j < δ.length := (List.getElem?_eq_some_iff.mp hi).1
      rw [List.getElem?_set_self hl] at h1
      cases h1
    · rw [List.getElem?_set_ne (Ne.symm ej)] at h1
      exact S.sep i j _ c _ (Ne.symm ej) hi rfl h1 h2 ha h3
  have S2 := S1.put (i := i) (v := .ref a) (b := .o d') ⟨a, rfl, hF, h0, ho⟩ fun _ j c h1 h2 h3 h4 => by
    rw [List.getElem?_set_ne (Ne.symm h3)] at h1
    exact S.sep i j _ c _ (Ne.symm h3) hi rfl h1 h2 ha h4
  rw [set_noop ha, List.set_set] at S2
  exact S2
def dApp (i : Nat) (te : TD) : TSD := fun Z δ => (∃ ds, δ[i]? = some (some (.o (.lst ds)))) ∧ dp te δ fun d δ1 => ∃ ds, δ1[i]? = some (some (.o (.lst ds))) ∧ ds.length < sizeLine ∧ Z.nx (δ1.set i (some (.o (.lst (ds ++ [d])))))
theorem ds_append (hN : X.N[i]? = some x) (hv : Vis X.env.scope x) (h : DE X W e te) (hd : (x == ("__debug__" : Str)) = false := by decide) (hcd : (x == ("__classdict__" : Str)) = false := by decide)
    (hpe : ∀ ta : TE, PE X e ta → PE X (.Call (.Attribute (.Name x p) "append" apos) [e] [] pos) (tBM X.K "list" rAppend (tVar i) (tCons ta tNil))) (hs : swapsWith (.Call (.Attribute (.Name x p) "append" apos) [e] [] pos) none spos.line X.env = pure false := by rfl) :
    DS X W (.Expr (.Call (.Attribute (.Name x p) "append" apos) [e] [] pos) spos) (dApp i te) :=
  .of (ps_expr (X := X) (hpe _ cE_pe) hs) fun F H σ δ Z S q => by
    obtain ⟨⟨ds0, h0⟩, q⟩ := q
    obtain ⟨v0, hv0, a, rfl, hF, hH0, hO⟩ := S.get i _ h0
    obtain ⟨xs0, hx0, rx0⟩ := hO
    refine ⟨.ref a, hv0, .inl ⟨rfl, xs0, SqL.of hx0⟩, (h.plain S q).imp fun v H1 h1 => ?_⟩
    obtain ⟨F1, d, δ1, e1, S1, r1, ds, hi, hz, q1⟩ := h1
    obtain ⟨v1, hv1, a', rfl, hF1, _, xs, hx, rx⟩ := S1.get i _ hi
    rw [hv0] at hv1
    cases hv1
    refine ⟨a, xs, v, rfl, rfl, hx, by rw [rx.length]; exact hz, F1, _, S1.own_turn (d' := .lst (ds ++ [d])) hi hv0 ⟨_, upd_same, rx.append (.cons r1 .nil)⟩, q1⟩
end
end DD

set_option Elab.async false
set_option linter.all false
set_option maxRecDepth 100000
set_option maxHeartbeats 4000000
/-! DD8: own exceptions: class C with an __init__ that says super().__init__(value), self.value = value. -/
namespace DD
open PySem PySem.Spec PyProof.Rows L2

/-- the text of such an __init__ -/
def ixBody (p : Nat → Pos) : List Stmt :=
  [.Expr (.Call (.Attribute (.Call (.Name "super" (p 0)) [] [] (p 1)) "__init__" (p 2)) [.Name "value" (p 3)] [] (p 4)) (p 5),
   .Assign [.Attribute (.Name "self" (p 6)) "value" (p 7)] (.Name "value" (p 8)) (p 9)]
abbrev ixNames : List (Str × NameKind) := [("self", .local), ("value", .local), ("__class__", .free), ("super", .globalImplicit)]
abbrev ixScope : Scope := { kind := .function, names := ixNames, isGenerator := false, isCoroutine := false, more := [] }
/-- what stands in the written part of such a class -/
structure OwnX (P : Program) (K : PySem.W.Frag) (C fI : Addr) : Prop where
  T : OexC K C
  iC : PySem.W.findIn K (.ref C) "__init__" = some (some (.ref fI))
  tI : PySem.W.typeIn K (.ref fI) = some (.type "function")
  hno : PySem.W.findIn K (.ref C) "value" = some none
  sup : PySem.W.nsIn K mainGlobals "super" = some none
  opq : PySem.W.nsIn K cStatics "thirdparty.any" = some none
  hm : PySem.W.ks_superIn K C C "__init__" = some (some (.builtin "ValueError.__init__"))
  hB : PySem.W.subIn K (.ref C) (.type "ValueError") = some true
  hD : PySem.W.mroIn K C (.ref C) = some true
  top : (P.main.scope.names.lookup ("super" : Str)).isSome = false
  fn : ∃ (oc : Value) (od : Option Addr) (qual : Str) (params : Arguments) (p : Nat → Pos) (dV kV doc pm ct ccl cl : Value) (an : Option Addr) (cda cc : Addr) (osl ccs csl : Array (Option Value)) (cdd cld : Option Addr) (vs : Array Value) (file : Str) (tf : Tok) (ar : PySem.Arg) (pl : Sem Bool),
    K.lookup fI = some ⟨oc, od, .func (PySem.W.ksFn "__init__" qual params (ixBody p) ixScope dV kV doc pm an (.ref cda) ct cc), osl⟩ ∧ PySem.W.codeIn K (.ref cda) qual = true ∧
    K.lookup cda = some ⟨ccl, cdd, .fields vs, ccs⟩ ∧ vs[2]? = some (.str file tf) ∧ ((P.main.file : Str) == file) = true ∧ K.lookup cc = some ⟨cl, cld, .cell (some (.ref C)), csl⟩ ∧
    (params.posonlyargs ++ params.args).head? = some ar ∧ ar.arg = "self" ∧
    (∀ (s : Shared) (x u : Value), K.In s.heap → BindsTo s (PySem.W.ksFn "__init__" qual params (ixBody p) ixScope dV kV doc pm an (.ref cda) ct cc) ⟨[x, u], []⟩ [(("self" : Str), x), (("value" : Str), u)]) ∧
    (∀ L : Addr, eval (.Call (.Attribute (.Call (.Name "super" (p 0)) [] [] (p 1)) "__init__" (p 2)) [.Name "value" (p 3)] [] (p 4)) (PySem.W.ksEnv qual ixScope L fI (.ref cda) cc) = (do
      let ov ← attributeBase (.Call (.Name "super" (p 0)) [] [] (p 1)) "__init__" (PySem.W.ksEnv qual ixScope L fI (.ref cda) cc) (eval (.Call (.Name "super" (p 0)) [] [] (p 1)) (PySem.W.ksEnv qual ixScope L fI (.ref cda) cc))
      standAt (p 2).atName
      let (f, first) ← holding [ov] (getMethod ov "__init__" pl)
      callWith (p 4) f first (backTo (p 4) (starEach [.Name "value" (p 3)] (PySem.W.ksEnv qual ixScope L fI (.ref cda) cc))) []))

/-- its default stands in the tuple at T -/
theorem own_binds {K : PySem.W.Frag} {fd : FuncData} {T : Addr} {o : Obj} {its : Array Value} {n : Nat} (lT : K.lookup T = some o) (oT : o.data = .seq its n)
    (h : ∀ x u : Value, ∃ k, bindArgs fd ⟨[x, u], []⟩ = seqItems? (.ref T) >>= k ∧ k (some its) = pure [(("self" : Str), x), (("value" : Str), u)]) (s : Shared) (x u : Value) (X : K.In s.heap) : BindsTo s fd ⟨[x, u], []⟩ [(("self" : Str), x), (("value" : Str), u)] := by
  obtain ⟨k, e1, e2⟩ := h x u
  refine BindsTo.of_looks fun M => ?_
  rw [e1]
  exact looks_items X lT oT (.of_pure e2)
section
variable {prog : Program} {w : World} {A : Around} {E : Value → Shared → Prop} {R : Result → Shared → Prop}
/-- what lies behind the __init__ -/
structure IxEnd (h h' : Heap) (x C : Addr) (v : Value) : Prop where
  keep : ∀ b o, b ≠ x → h.get? b = some o → h'.get? b = some o
  obj : ∃ (t1 dx : Addr), h'.get? x = some ({ cls := .ref C, dict := some dx, data := .fields #[.ref t1, .none, .none, .none, .bool false, .none] } : Obj) ∧ h.get? dx = none ∧ dx ≠ x ∧ h'.Ns1 dx (fun y => if y = ("value" : Str) then some v else none)

theorem call_vw {h : Heap} {g : Array GenState} {d : Drawn} {t : Nat} {os : OsState} {nm q : Str} {C N : Addr} {bs bm : List Value} {hdct : Bool} {sn : List Str} {sub : List Value} {ab : Bool} {col : Option Bool} {dd : Option Addr} {k0 k1 k2 k3 k5 : Option Value} {u e t0 : Addr} {rest : List Value} {Q : Value → Shared → Prop}
    (hC : h.get? C = some (excClassObj nm q C N bs bm hdct sn sub ab col dd k0 k1 k2 k3 k5 "ValueError.__new__")) (he : h.get? e = some (PySem.HandSPX.excO C t0)) (hu : h.get? u = some (PySem.W.kxs_mw "ValueError.__init__" e)) (hz : rest.length ≤ sizeLine)
    (hq : ∀ h' t1, (∀ b o, b ≠ e → h.get? b = some o → h'.get? b = some o) → h'.get? e = some (PySem.HandSPX.excO C t1) → Q .none ⟨h', g, d, t, os⟩) :
    wpAny (model prog w) A (call (.ref u) rest) Q E ⟨h, g, d, t, os⟩ := by
  refine wpAny_call (codeAny_of_tree ?_)
  show wpAny _ A.in1 (callAny (.ref u) ⟨rest, []⟩) _ _ _
  simp only [callAny]
  refine wpAny_bind (wpAny_load hu ?_)
  simp only [PySem.W.kxs_mw, show (Value.type "method-wrapper" == Value.type "method" || Value.type "method-wrapper" == Value.type "builtin_function_or_method" || Value.type "method-wrapper" == Value.type "method-wrapper") = true by decide, if_true]
  refine PySem.W.KFB.if_so (by decide) ?_
  refine wpAny_bind (PySem.ESX.check_bound F.excBase_ValueError hC he rfl ?_)
  refine wpAny_bind (wpAny_pure (wpAny_pure ?_))
  refine ⟨plainId_quiet F.excBase_ValueError.init.plain _, codeAny_builtin F.excBase_ValueError.initEntry ?_⟩
  exact PySem.W.exc_init_tree (cls := .ref C) (t0 := t0) (dv := none) (c2 := .none) (c3 := .none) (b4 := .bool false) he hz fun h' k e' _ => hq h' _ k e'

theorem ix_run {P : Program} {K : PySem.W.Frag} {mg mb : Str → Option Value} {C fI x t0 : Addr} {v : Value} {s : Shared} {h0 : Heap} (O : OwnX P K C fI) (hroom : A.depth < recursionLimit) (X₀ : K.In h0) (k0 : ∀ b o, h0.get? b = some o → s.heap.get? b = some o) (nx : h0.get? x = none)
    (G : h0.Ns mainGlobals mg) (BB : h0.Ns builtinsNs mb) (hb : ∀ y : Str, y ≠ "__name__" → mb y = bootBuiltins y) (lim : s.heap.NoLimit) (hx : s.heap.get? x = some (PySem.HandSPX.excO C t0))
    (h : ∀ h' t', IxEnd s.heap h' x C v → R (.ok (.ret .none)) { s with heap := h', toks := t' }) : codeAny (model P w) A (.call (.ref fI) ⟨[.ref x, v], []⟩) R s := by
  obtain ⟨oc, od, qual, params, p, dV, kV, doc, pm, ct, ccl, cl, an, cda, cc, osl, ccs, csl, cdd, cld, vs, file, tf, ar, pl, lk, hcd, lcd, hvs, hfile, lcc, har, har2, hbd, hev⟩ := O.fn
  have X : K.In s.heap := X₀.keeps k0
  obtain ⟨nm, q, N, bs, bm, sn, sub, ab, col, dd, k0', k1, k2, k3, k5, hC, hbm⟩ := O.T.cls
  have hcl : PySem.W.clsIn K C = some { name := nm, bases := bs, mro := .ref C :: bm, ns := N, qualname := q, hasDict := true, slotNames := sn, subclasses := sub, abstract := ab, collection := col, hasDel := false } := by unfold PySem.W.clsIn; rw [hC] <;> rfl
  refine ks_codeAny_call_defAt (fd := PySem.W.ksFn "__init__" qual params (ixBody p) ixScope dV kV doc pm an (.ref cda) ct cc) (body := ixBody p) (binds := [(("self" : Str), .ref x), (("value" : Str), v)]) hroom (X _ _ lk) rfl lim (PySem.W.codeRec_of X hcd) rfl (hbd s (.ref x) v X) ?_ ?_ (fun h1 hns1 kk1 => ?_) rfl rfl rfl
  · intro y hy
    have hy : y ∈ ixNames := hy
    simp at hy
    rcases hy with rfl | rfl | rfl | rfl <;> decide
  · intro y hy
    show ixNames.lookup y.1 = _
    simp at hy
    rcases hy with rfl | rfl <;> rfl
  have hLx : ¬ x = s.heap.objs.size := Nat.ne_of_lt (Heap.lt_size hx)
  have X1 : K.In h1 := X.keeps kk1
  have hx1 := kk1 _ _ hx
  have kl : ∀ y : Str, (PySem.W.ksEnv qual ixScope s.heap.objs.size fI (.ref cda) cc).kindOf y = ixNames.lookup y := fun y => rfl
  have ik : ixNames.lookup ("value" : Str) = some NameKind.local := rfl
  have ik2 : ixNames.lookup ("self" : Str) = some NameKind.local := rfl
  have hgl : (fun y => List.lookup y (List.reverse [(("self" : Str), Value.ref x), (("value" : Str), v)])) ("value" : Str) = some v := rfl
  have hgs : (fun y => List.lookup y (List.reverse [(("self" : Str), Value.ref x), (("value" : Str), v)])) ("self" : Str) = some (.ref x) := rfl
  obtain ⟨hp, g, dr, tk, os⟩ := s
  dsimp only at kk1 hns1 hx1 X1 k0 hx hLx lim kl h
  have XC := X1 _ _ hC
  have II : PySem.W.InstAt h1 x (PySem.HandSPX.excO C t0) C none := ⟨hx1, rfl, rfl, trivial⟩
  refine ks_wpAt_execs_cons (ks_wpAt_Expr_any (ks_wpAt_MethodCall (pl := pl) ?_ (hev _)) ?hi ?hs)
  case hi => exact rfl
  case hs => exact rfl
  have hfile' : ((P.main.file : Str) == file) = true := hfile
  refine ks_wpAt_super_base (cc := cda) (f := fI) (attr := "__init__") (env := PySem.W.ksEnv qual ixScope hp.objs.size fI (.ref cda) cc) (oc := ⟨ccl, cdd, .fields vs, ccs⟩) (of := ⟨oc, od, .func (PySem.W.ksFn "__init__" qual params (ixBody p) ixScope dV kV doc pm an (.ref cda) ct cc), osl⟩) rfl rfl (by decide) rfl (X1 _ _ lk) rfl har rfl (X1 _ _ lcd) rfl hvs hfile O.top ?_
  refine PySem.W.ks_loadName_global rfl rfl (Calls.loadGlobal_builtin (env := PySem.W.ksEnv qual ixScope hp.objs.size fI (.ref cda) cc) (G.keeps fun b o e => kk1 b o (k0 b o e)) (PySem.W.mg_none_of X₀ G O.sup) (BB.keeps fun b o e => kk1 b o (k0 b o e)) (hb _ (by decide)) ⟨by first | rfl | boot_by_name | kernel_rfl, ?_⟩)
  refine wpAny_loadName_free rfl rfl rfl ⟨_, X1 _ _ lcc, rfl⟩ ?_
  rw [har2]
  refine wpAny_loadName_local rfl rfl hns1 hgs ?_
  refine ks_wpAny_isType_cls XC rfl ⟨rfl, ?_⟩
  refine ks_wpAny_call_super XC rfl hx1 rfl (fun c e => nomatch e) (PySem.W.looks_mroIn X1 O.hD) (fun h2 e2 kk2 => ?_)
  have X2 : K.In h2 := X1.keeps kk2
  have hx2 := kk2 _ _ hx1
  have I2 : PySem.W.InstAt h2 x (PySem.HandSPX.excO C t0) C none := ⟨hx2, rfl, rfl, trivial⟩
  have hmI := O.hm
  unfold PySem.W.ks_superIn at hmI
  rw [hcl] at hmI
  refine PySem.W.kxs_getMethod PySem.W.kxs_ValueError (K := K) (C := C) (x := x) (D := C) e2 (PySem.W.looks_opaque X2 O.opq) (fun A Q E s k q => wpAny_bind ((PySem.W.looks_clsIn X2 hcl) A _ E s k (wpAny_pure q))) rfl X2 hmI (I2.type.andThen (PySem.W.looks_subIn X2 O.hB)) (PySem.W.ks_ne X2 I2 hcl) (by decide) ?_
  have kk3 : ∀ b o, h2.get? b = some o → (h2.push (PySem.W.kxs_mw "ValueError.__init__" x)).get? b = some o := fun b o e => Heap.get?_push_of_some _ e
  have hu : (h2.push (PySem.W.kxs_mw "ValueError.__init__" x)).get? h2.objs.size = some (PySem.W.kxs_mw "ValueError.__init__" x) := Heap.get?_push_at rfl rfl
  generalize hh3 : h2.push (PySem.W.kxs_mw "ValueError.__init__" x) = h3 at kk3 hu
  have X3 : K.In h3 := X2.keeps kk3
  have hx3 := kk3 _ _ hx2
  obtain ⟨oL, es, ep, hL, rL⟩ := hns1
  have hns3 : h3.Ns hp.objs.size (fun y => List.lookup y (List.reverse [(("self" : Str), Value.ref x), (("value" : Str), v)])) := ⟨oL, es, ep, kk3 _ _ (kk2 _ _ hL), rL⟩
  refine PySem.W.kxs_callWith (i := "ValueError.__init__") (x := x) rfl ?_
  refine Calls.evalArgs_plain (Calls.spliced_cons (PySem.ESX.ldL hns3 hgl (Calls.spliced_nil ⟨hu, ?_⟩)))
  refine call_vw (kk3 _ _ (kk2 _ _ XC)) hx3 hu (by show 1 ≤ sizeLine; rw [sizeLine_eq]; omega) fun h4 t4 kk4 hx4 => ?_
  have hxn : ∀ b o, h0.get? b = some o → b ≠ x := fun b o e z => by
    rw [z, nx] at e
    cases e
  have k04 : ∀ b o, h0.get? b = some o → h4.get? b = some o := fun b o e => kk4 b o (hxn b o e) (kk3 _ _ (kk2 _ _ (kk1 _ _ (k0 _ _ e))))
  have X4 : K.In h4 := X₀.keeps k04
  have hns4 : h4.Ns hp.objs.size (fun y => List.lookup y (List.reverse [(("self" : Str), Value.ref x), (("value" : Str), v)])) := ⟨oL, es, ep, kk4 _ _ (fun z => hLx z.symm) (kk3 _ _ (kk2 _ _ hL)), rL⟩
  refine ks_wpAt_execs_cons (wpAt_of_wpAny ?_)
  refine plainObj_wpAny_Assign_Attribute (PySem.ESX.ldL hns4 hgl (PySem.ESX.ldL hns4 hgs ?_)) ?hs2
  case hs2 => exact rfl
  refine PySem.W.set_plain X4 (ox := PySem.HandSPX.excO C t4) (od := none) ⟨hx4, rfl, rfl, trivial⟩ O.T.sa ?_
  refine PySem.HandSPX.exc_osa X4 hx4 hcl (show PySem.HandSPX.refsVE (.ref C :: bm) = true from hbm) rfl O.hno (fun h5 tk5 dx kk5 dn dne hx5 hn5 => ?_)
  refine wpAt_of_wpAny (wpAny_execs_nil ?_)
  refine h h5 _ ⟨fun b o hb e => kk5 b o hb (kk4 b o hb (kk3 _ _ (kk2 _ _ (kk1 _ _ e)))), t4, dx, hx5, ?_, dne, hn5⟩
  cases z : hp.get? dx with
  | none => rfl
  | some o => exact absurd (Heap.lt_size (kk4 dx o dne (kk3 _ _ (kk2 _ _ (kk1 _ _ z))))) (Nat.not_lt.mpr dn)
end

/-! ### C(e) for such a class -/
section
variable {X : Cx} {pins : List (Addr × Obj)} {σ : L2.St} {H : Hp} {x : Str} {C fI : Addr} {k : Nat} {e : Expr} {p pos : Pos} {ta : TA}
/-- the object and its dict, made -/
structure Made (X : Cx) (pins : List (Addr × Obj)) (σ : L2.St) (H : Hp) (C : Addr) (y : V) (s s' : Shared) (a : Addr) : Prop where
  fin : ∃ (t1 d : Addr) (G : Heap), s'.heap.get? a = some ({ cls := .ref C, dict := some d, data := .fields #[.ref t1, .none, .none, .none, .bool false, .none] } : Obj) ∧ (∀ b o, G.get? b = some o → s'.heap.get? b = some o) ∧ G.get? a = none ∧
    Inv X pins σ (upd H d (.xd [("value", y)])) { s' with heap := G } ∧ (upd H d (.xd [("value", y)])) a = none ∧ H d = none ∧ H a = none ∧ d ≠ a ∧ s.heap.get? a = none
theorem make_own {s : Shared} {y : V} {v : Value} {Q : Value → Shared → Prop} (O : OwnX X.prog X.K C fI) (hr : Room (k + 1) X.A) (I : Inv X pins σ H s) (r : RelV y v) (h : ∀ a s', Made X pins σ H C y s s' a → Q (.ref a) s') :
    wpAny (model X.prog X.w) X.A (call (.ref C) [v]) Q X.xe s := by
  obtain ⟨nm, q, N, bs, bm, sn, sub, ab, col, dd, k0, k1, k2, k3, k5, hC, hbm⟩ := O.T.cls
  obtain ⟨mb, hb1, hb2⟩ := I.mod.blt
  obtain ⟨hp, g, dr, tk, os⟩ := s
  have kk : ∀ b o, hp.get? b = some o → ((hp.push (PySem.W.kdv_tup [v])).push (PySem.HandSPX.excO C hp.objs.size)).get? b = some o := fun b o e => Heap.get?_push_of_some _ (Heap.get?_push_of_some _ e)
  have hget : ((hp.push (PySem.W.kdv_tup [v])).push (PySem.HandSPX.excO C hp.objs.size)).get? (hp.objs.size + 1) = some (PySem.HandSPX.excO C hp.objs.size) := by heap_get
  have na : hp.get? (hp.objs.size + 1) = none := by
    cases z : hp.get? (hp.objs.size + 1) with
    | none => rfl
    | some o => exact absurd (Heap.lt_size z) (Nat.not_lt.mpr (Nat.le_succ _))
  refine wpAny_call (PySem.HandSPX.call_own F.excBase_ValueError (fun Y => PySem.HandSPX.refsVE_contains Y bm hbm) (I.kIn _ _ hC) (PySem.W.looks_findIn I.kIn O.iC) (fun self => PySem.W.bind_fn I.kIn self O.tI) (by show 1 ≤ sizeLine; rw [sizeLine_eq]; omega) ?_)
  refine ix_run O (hr.make C [v] []).depth (h0 := hp) (mg := X.mg) (mb := mb) I.kIn kk na ((by have := I.ok.glob; exact I.mod.glob.keeps I.bk)) (hb1.keeps I.bk) hb2 (I.nolimit.keeps kk) hget fun h' t' z => ?_
  obtain ⟨t1, d, hx, nd, dne, hn⟩ := z.obj
  have nhd : hp.get? d = none := by
    cases q : hp.get? d with
    | none => rfl
    | some o =>
      rw [kk d o q] at nd
      cases nd
  have hnd : H d = none := I.hok.gone nhd
  have hna : H (hp.objs.size + 1) = none := I.hok.gone na
  obtain ⟨G, g1, g2⟩ := restrict h' fun b => decide (b ≠ hp.objs.size + 1)
  have gk : ∀ b, b ≠ hp.objs.size + 1 → G.get? b = h'.get? b := fun b hb => g1 b (decide_eq_true hb)
  have ga : G.get? (hp.objs.size + 1) = none := g2 _ (by simp)
  have gs : ∀ b o, G.get? b = some o → h'.get? b = some o := fun b o e => by
    by_cases hb : b = hp.objs.size + 1
    · rw [hb, ga] at e
      cases e
    · rw [← gk b hb]
      exact e
  have hne : ∀ b o, hp.get? b = some o → b ≠ hp.objs.size + 1 := fun b o e z => by
    rw [z, na] at e
    cases e
  have rel : ∀ f : Str, RelO (([(("value" : Str), y)] : List (Str × V)).lookup f) (if f = ("value" : Str) then some v else none) := fun f => by
    rw [lookup_put]
    by_cases e : f = ("value" : Str)
    · rw [if_pos e, if_pos e]
      exact r
    · rw [if_neg e, if_neg e]
      exact True.intro
  have hnG : G.Ns1 d (fun f => if f = ("value" : Str) then some v else none) := hn.at fun o y => (gk d dne).trans y
  have J : Inv X pins σ (upd H d (.xd [("value", y)])) ⟨G, g, dr, t', os⟩ := I.laidN (t' := t') (a := d) (o := .xd [("value", y)]) (fun b o e => (gk b (hne b o e)).trans (z.keep b o (hne b o e) (kk b o e))) nhd hnd ⟨_, hnG, rel⟩
  exact ⟨rfl, h _ ⟨h', g, dr, t', os⟩ ⟨t1, d, G, hx, gs, ga, J, by rw [upd_ne (Ne.symm dne)]; exact hna, hnd, hna, dne, na⟩⟩
def tMkX (C : Addr) (ta : TA) : L2.St → Hp → XK → Prop := fun σ H Q => ta σ H fun vs H1 => ∃ y, vs = [y] ∧ ∀ d, H1 d = none → Q (.ref C) (some d) (upd H1 d (.xd [("value", y)]))
theorem pmk_x (O : OwnX X.prog X.K C fI) (hr : Room (k + 1) X.A) (hg : Gl X x) (hm : X.mg x = some (.ref C)) (ha : PA X [e] ta) (hdb : (x == ("__debug__" : Str)) = false := by decide)
    (he : starEach [e] X.env = (false, eval e X.env) :: starEach [] X.env := by rfl) (hpl : (backTo pos (starEach [] X.env)).any (·.1) = false := by rfl) : PMk X (.Call (.Name x p) [e] [] pos) (tMkX C ta) := by
  intro pins s σ H Q I h
  refine wpAny_Call_Name_kw (ld_glob I hg hm ?_ hdb)
  refine PySem.W.callWith_K (h₀ := X.base) I.ok.mod.kin O.T.kC (thn (ha.run pos pins s σ H _ I h) ?_) he hpl
  rintro us s1 ⟨vs, H1, I1, r1, y, rfl, q1⟩
  cases r1 with
  | cons ry rr =>
    cases rr
    refine ⟨I1.kIn, make_own O hr I1 ry fun a s' M => ?_⟩
    obtain ⟨t1, d, G, ho, gs, ga, J, ua, hd, _, _, _⟩ := M.fin
    exact ⟨a, _, _, { s' with heap := G }, _, .ref C, some d, rfl, J, gs, ga, ho, ⟨rfl, rfl⟩, rfl, rfl, ua, rfl, J.bare, raises_own O.T.exC O.T.tyC, q1 d hd⟩
end
end DD

set_option Elab.async false
set_option linter.all false
set_option maxRecDepth 100000
set_option maxHeartbeats 4000000
/-! DD9: own exceptions over data: raise, C(e) as a value, .value, isinstance, try: call / except C as n: y = n. -/
namespace DD
open PySem PySem.Spec PyProof.Rows L2

section
variable {X : Cx} {W : Fix} {x : Str} {C fI : Addr} {k : Nat} {e : Expr} {p pos pos' : Pos} {t : TDA}
theorem rpL1x {K : PySem.W.Frag} {F : Hp} {d : D} {vs : List V} (h : RpL K F [d] vs) : ∃ y, vs = [y] ∧ Rp K F d y := by
  unfold RpL at h
  obtain ⟨y, r, rfl, h1, h2⟩ := h
  unfold RpL at h2
  subst h2
  exact ⟨y, rfl, h1⟩
def dRaise (C : Addr) (E : Addr → List D → Env' → Prop) (t : TDA) : TSD := fun _ δ => t δ fun ds δ1 => ∃ d, ds = [d] ∧ E C [d] δ1
theorem ds_raise {E0 : Addr → List D → Env' → Prop} (te : TkE X W E0) (O : OwnX X.prog X.K C fI) (hc : X.calm = true) (hr : Room (k + 1) X.A) (hg : Gl X x) (hm : X.mg x = some (.ref C)) (h : DA X W [e] t) (hdb : (x == ("__debug__" : Str)) = false := by decide)
    (he : starEach [e] X.env = (false, eval e X.env) :: starEach [] X.env := by rfl) (hpl : (backTo pos (starEach [] X.env)).any (·.1) = false := by rfl) :
    DS X W (.Raise (some (.Call (.Name x p) [e] [] pos)) none pos') (dRaise C E0 t) :=
  .of (ps_raise hc te.tk (pmk_x O hr hg hm cA_pa hdb he hpl)) fun F H σ δ D S q => by
    refine (h.run F H σ δ _ S q).imp fun vs H1 h1 => ?_
    obtain ⟨F1, ds, δ1, e1, S1, r1, d, rfl, q1⟩ := h1
    obtain ⟨y, rfl, ry⟩ := rpL1x r1
    exact ⟨y, rfl, fun a ha => ⟨_, δ1, C, [d], S1.new ha, ⟨rfl, .inr ⟨a, y, d, rfl, rfl, upd_same, Rp.mono (same_upd (S1.freshF ha)) _ _ ry⟩⟩, by rw [te.eq]; exact q1⟩⟩

/-! ### C(e) as a value -/
def tMkV (C : Addr) (ta : TA) : TE := fun σ H Q => ta σ H fun vs H1 => ∃ y, vs = [y] ∧ ∀ d a, H1 d = none → H1 a = none → a ≠ d → Q (.ref a) (upd (upd H1 d (.xd [("value", y)])) a (ExcAt a C (some d)))
theorem pe_mkV {ta : TA} (O : OwnX X.prog X.K C fI) (hr : Room (k + 1) X.A) (hg : Gl X x) (hm : X.mg x = some (.ref C)) (ha : PA X [e] ta) (hdb : (x == ("__debug__" : Str)) = false := by decide)
    (he : starEach [e] X.env = (false, eval e X.env) :: starEach [] X.env := by rfl) (hpl : (backTo pos (starEach [] X.env)).any (·.1) = false := by rfl) : PE X (.Call (.Name x p) [e] [] pos) (tMkV C ta) := by
  refine ⟨fun pins s σ H Q I h => wpAny_Call_Name_kw (ld_glob I hg hm ?_ hdb)⟩
  refine PySem.W.callWith_K (h₀ := X.base) I.ok.mod.kin O.T.kC (thn (ha.run pos pins s σ H _ I h) ?_) he hpl
  rintro us s1 ⟨vs, H1, I1, r1, y, rfl, q1⟩
  cases r1 with
  | cons ry rr =>
    cases rr
    refine ⟨I1.kIn, make_own O hr I1 ry fun a s' M => ?_⟩
    obtain ⟨t1, d, G, ho, gs, ga, J, ua, hd, na, ne, _⟩ := M.fin
    have J2 : Inv X pins σ (upd (upd H1 d (.xd [("value", y)])) a (ExcAt a C (some d))) s' := J.laidN (t' := s'.toks) (a := a) (o := ExcAt a C (some d)) gs ga ua
      ⟨⟨_, _, ho, rfl, rfl, rfl⟩, ⟨_, ho⟩, fun h1 h2 z k => by
        obtain ⟨oe, vs, z1, z2⟩ := z
        exact ⟨oe, vs, k _ z1, z2⟩⟩
    exact ⟨.ref a, _, J2, rfl, q1 d a hd na (Ne.symm ne)⟩
def dMkX (C : Addr) (t : TDA) : TD := fun δ Q => t δ fun ds δ1 => ∃ d, ds = [d] ∧ Q (.p (.exc C [d])) δ1
theorem de_mkX (O : OwnX X.prog X.K C fI) (hr : Room (k + 1) X.A) (hg : Gl X x) (hm : X.mg x = some (.ref C)) (h : DA X W [e] t) (hdb : (x == ("__debug__" : Str)) = false := by decide)
    (he : starEach [e] X.env = (false, eval e X.env) :: starEach [] X.env := by rfl) (hpl : (backTo pos (starEach [] X.env)).any (·.1) = false := by rfl) : DE X W (.Call (.Name x p) [e] [] pos) (dMkX C t) :=
  .of (pe_mkV O hr hg hm cA_pa hdb he hpl) fun F H σ δ Q S q => by
    refine (h.run F H σ δ _ S q).imp fun vs H1 h1 => ?_
    obtain ⟨F1, ds, δ1, e1, S1, r1, d, rfl, q1⟩ := h1
    obtain ⟨y, rfl, ry⟩ := rpL1x r1
    refine ⟨y, rfl, fun dx a hd ha ne => ?_⟩
    have S2 := S1.new (o := .xd [("value", y)]) hd
    have ha2 : (upd H1 dx (.xd [("value", y)])) a = none := by rw [upd_ne ne]; exact ha
    have S3 := S2.new (o := ExcAt a C (some dx)) ha2
    have s1 := same_upd (o := .xd [("value", y)]) (S1.freshF hd)
    have s2 := same_upd (o := ExcAt a C (some dx)) (S2.freshF ha2)
    refine DQ.back (e1.trans (s1.trans s2)) (.mk S3 ?_ q1)
    unfold Rp
    exact ⟨a, dx, y, [y], rfl, upd_same, s2 _ _ upd_same, rfl, .cons (Rp.mono (s1.trans s2) _ _ ry) .nil⟩

/-! ### the field -/
structure XfE (K : PySem.W.Frag) (C : Addr) : Prop where
  T : XfC K C
  no : PySem.W.findIn K (.ref C) "value" = some none
  cl : (PySem.W.clsIn K C).isSome = true
  ac : PySem.W.findIn K (.ref C) "__class__" = some (some (.builtin "object.__class__"))
  sp : PySem.W.specialIn K (.builtin "object.__class__") "__get__" = some (some (.builtin "getset_descriptor.__get__"))
  tk : PySem.W.takesIn K (.builtin "object.__class__") = some true
  ob : PySem.W.mroIn K C (.type "object") = some true
theorem excAt_look {pins : List (Addr × Obj)} {σ : L2.St} {H : Hp} {s : Shared} {a dx : Addr} {fs : List (Str × V)} (I : Inv X pins σ H s) (h1 : H a = some (ExcAt a C (some dx))) (h2 : H dx = some (.xd fs)) :
    ∃ (oe : Obj) (od : Obj) (mA : Str → Option Value), PySem.W.InstAt s.heap a oe C (some od) ∧ (∀ f, RelO (fs.lookup f) (mA f)) ∧ ∀ f, PySem.W.lookIn f od = some (mA f) := by
  obtain ⟨⟨oe, vs, ho, hc, hd, hv⟩, _⟩ := I.hok a _ h1
  have hx : ObjOk X.prog X.w H s.heap dx (.xd fs) := I.hok dx _ h2
  obtain ⟨mA, hns, hr⟩ := hx
  obtain ⟨od, hod, hl⟩ := lookIn_ns hns
  exact ⟨oe, od, mA, ⟨ho, hc, by unfold PySem.W.notCls; rw [hv] <;> rfl, by rw [hd]; exact hod⟩, hr, hl⟩
def tXv (K : PySem.W.Frag) (te : TE) : TE := fun σ H Q => te σ H fun v H1 => ∃ (a C dx : Addr) (y : V), v = .ref a ∧ XfE K C ∧ H1 a = some (ExcAt a C (some dx)) ∧ H1 dx = some (.xd [("value", y)]) ∧ Q y H1
theorem pe_xv {te : TE} (he : PE X e te) (hb : attributeBase e "value" X.env (eval e X.env) = eval e X.env := by rfl) : PE X (.Attribute e "value" pos) (tXv X.K te) := by
  refine ⟨fun pins s σ H Q I h => attr_of hb (thn (he.run pins s σ H _ I h) ?_)⟩
  rintro u s1 ⟨v, H1, I1, rx, a, C, dx, y, rfl, T, h1, h2, q⟩
  obtain rfl : u = Value.ref a := rx
  obtain ⟨oe, od, mA, J, hr, hl⟩ := excAt_look I1 h1 h2
  obtain ⟨u, hu, ru⟩ := RelO.some_of (v := y) (o := mA "value") (hr "value")
  exact PySem.HandSPX.exc_get I1.kIn J T.T.ga T.T.gg T.T.exC (PySem.W.findObj_own T.T.hdC T.no rfl (by rw [hl, hu])) (handed_of ru) ⟨y, H1, I1.tok _, ru, q⟩
def dXv (K : PySem.W.Frag) (t : TD) : TD := fun δ Q => dp t δ fun d δ1 => ∃ C y, d = .exc C [y] ∧ XfE K C ∧ Q (.p y) δ1
theorem de_xv {t : TD} (h : DE X W e t) (hb : attributeBase e "value" X.env (eval e X.env) = eval e X.env := by rfl) : DE X W (.Attribute e "value" pos) (dXv X.K t) :=
  .of (pe_xv cE_pe hb) fun F H σ δ Q S q => by
    refine (h.plain S q).imp fun v H1 h1 => ?_
    obtain ⟨F1, d, δ1, e1, S1, r1, C, y, rfl, T, q1⟩ := h1
    unfold Rp at r1
    obtain ⟨a, dx, z, xs, rfl, h1, h2, rfl, r2⟩ := r1
    obtain ⟨z', e2, r3⟩ := rpL1x r2
    cases e2
    exact ⟨a, C, dx, z, rfl, T, S1.fh _ _ h1, S1.fh _ _ h2, DQ.back e1 (.mk S1 r3 q1)⟩

/-! ### isinstance of data, of an exception too -/
inductive TyZ (K : PySem.W.Frag) (H : Hp) : V → Value → Prop where
  | base {x : V} {t : Value} (h : TyX K H x t) : TyZ K H x t
  | exc {a C dx : Addr} {y : V} (h1 : H a = some (ExcAt a C (some dx))) (h2 : H dx = some (.xd [("value", y)])) (T : XfE K C) : TyZ K H (.ref a) (.ref C)
def rIsZ (K : PySem.W.Frag) : List V → Hp → VK → Prop := fun xs H Q => ∃ (x c : V) (t u : Value) (b : Bool), xs = [x, c] ∧ ClsV c u ∧ TyZ K H x t ∧ PySem.W.kitOne K t u = some b ∧ Q (.bl b) H
theorem call_isZ : CallR X (.builtin "isinstance") (rIsZ X.K) := by
  intro pins s σ H xs us Q I r h
  obtain ⟨x, c, t, u, b, rfl, k, ty, e, q⟩ := h
  cases ty with
  | base ty => exact call_isi pins s σ H _ us Q I r ⟨x, c, t, u, b, rfl, k, ty, e, q⟩
  | exc h1 h2 T =>
    obtain ⟨u1, u2, rfl, r1, r2⟩ := vals2 r
    have e2 := k.eq r2
    subst e2
    obtain ⟨oe, od, mA, J, _, _⟩ := excAt_look I h1 h2
    cases r1
    exact PySem.W.kia_one (PySem.W.kitx_exc T.cl T.T.ga T.T.gg T.T.exC T.ac T.sp T.tk T.ob) I.kIn J e (fun z => nomatch z) fun tk => ⟨.bl b, H, I.tok tk, rfl, q⟩
def isZG (K : PySem.W.Frag) : List D → (B → Prop) → Prop := fun ds Q => isiG K ds Q ∨ ∃ C y c u b, ds = [.exc C [y], c] ∧ XfE K C ∧ clsD c = some u ∧ PySem.W.kitOne K (.ref C) u = some b ∧ Q (.p (.bl b))
theorem rc_isZ {K : PySem.W.Frag} : RC K (rIsZ K) (isZG K) := by
  intro W F H σ δ xs ds Q Z S r g hZ
  rcases g with g | g
  · obtain ⟨x, c, t, u, b, h1, h2, h3, h4, q⟩ := rc_isi W F H σ δ xs ds Q Z S r g hZ
    exact ⟨x, c, t, u, b, h1, h2, .base h3, h4, q⟩
  · obtain ⟨C, y, c, u, b, rfl, T, h2, h3, q⟩ := g
    obtain ⟨v, w, rfl, rv, rw'⟩ := rpL2 r
    have hc : ClsV w u := by
      cases c <;> first | (cases h2; done) | skip
      · cases h2
        rw [rpTy rw']
        exact .ty _
      · cases h2
        unfold Rp at rw'
        rw [rw']
        exact .own _
    unfold Rp at rv
    obtain ⟨a, dx, z, xs, rfl, h4, h5, rfl, r2⟩ := rv
    exact ⟨.ref a, w, _, u, b, rfl, hc, .exc (S.fh _ _ h4) (S.fh _ _ h5) T, h3, hZ _ _ (mkP S rp_bl q)⟩
end

/-! ### try: body / except c as n: y = n; the object stays -/
section
variable {X : Cx} {pins : List (Addr × Obj)} {σ : L2.St} {H : Hp} {s : Shared}
theorem track {a C : Addr} {d : Option Addr} {oe : Obj} {vs : Array Value} (I : Inv X ((a, oe) :: pins) σ H s) (hx : X.ex = []) (h0 : X.s_0.heap.get? a = none) (nc : oe.cls = .ref C) (ed : oe.dict = d) (dt : oe.data = .fields vs) (np : ∀ p ∈ X.pn ++ pins, p.1 ≠ a) :
    Inv X pins σ (upd H a (ExcAt a C d)) s := by
  obtain ⟨ha, na, nL, nF, _⟩ := I.pin (a, oe) (List.mem_append_right _ List.mem_cons_self)
  have ha : s.heap.get? a = some oe := ha
  have na : H a = none := na
  have ne0 : ∀ b o, X.s_0.heap.get? b = some o → b ≠ a := fun b o e z => by
    rw [z, h0] at e
    cases e
  have cne : ∀ x c, X.env.cells.lookup x = some c → c ≠ a := fun x c e z => by
    obtain ⟨v, o, ho, hd⟩ := I.cell x c e
    rw [z, ha] at ho
    cases ho
    rw [dt] at hd
    cases hd
  refine ⟨I.ok, I.os, I.bare, ⟨I.base.keep, I.base.slot, fun b o e n q => ?_, I.base.there, fun b xs q => ?_, fun b o u q => ?_, fun b ps q => ?_⟩, I.loc, I.cell, ?_, fun x c e => ?_, fun p hp => ?_, fun b u e => ?_, I.len⟩
  · rw [upd_ne (ne0 b o e)]
    exact I.base.free b o e n q
  · have z := I.base.tups b xs q
    rw [upd_ne (ne_of_none z na)]
    exact z
  · have z := I.base.frzs b o u q
    rw [upd_ne (ne_of_none z na)]
    exact z
  · obtain ⟨m, z⟩ := I.base.tbls b ps q
    exact ⟨m, by rw [upd_ne (ne_of_none z na)]; exact z⟩
  · rw [upd_ne (Ne.symm nL)]
    exact I.free
  · rw [upd_ne (cne x c e)]
    exact I.freeC x c e
  · have hp' : p ∈ X.pn ++ (a, oe) :: pins := by
      rcases List.mem_append.mp hp with z | z
      · exact List.mem_append_left _ z
      · exact List.mem_append_right _ (List.mem_cons_of_mem _ z)
    obtain ⟨q1, q2, q3⟩ := I.pin p hp'
    exact ⟨q1, by rw [upd_ne (np p hp)]; exact q2, q3⟩
  · by_cases hb : b = a
    · subst hb
      rw [upd_same] at e
      cases e
      exact ⟨⟨oe, vs, ha, nc, ed, dt⟩, ⟨oe, ha⟩, fun h1 h2 z k => by
        obtain ⟨o, w, z1, z2⟩ := z
        exact ⟨o, w, k _ z1, z2⟩⟩
    · rw [upd_ne hb] at e
      exact (I.hok b u e).stay (fun c v _ q => q) (fun c q => by rw [upd_ne (ne_of_none q na)]; exact q) fun c xs q => by rw [upd_ne (ne_of_none q na)]; exact q
/-- what is wished of an exception of the body -/
def wKeep (K : PySem.W.Frag) (c : Value) (i j : Nat) (D : Ends) : WX := fun cls d σ H =>
  ∃ C, cls = .ref C ∧ PySem.W.exmOne K cls c = some true ∧ ∀ a, H a = none → D.nx (((σ.set i (some (.ref a))).set j (some (.ref a))).set i none) (upd H a (ExcAt a C d))
variable {x n y : Str} {c : Value} {i j : Nat} {body : List Stmt} {np py pn pa pos pos' : Pos} {tb : WX → TS}
theorem ps_try_keep (hex : X.ex = []) (hs : X.stack = X.env :: X.outer) (hf : X.env.frame = some X.env.locals) (hN : X.N.Nodup) (hi : X.N[i]? = some n) (hln : X.env.kindOf n = some .local) (hj : X.N[j]? = some y) (hlj : X.env.kindOf y = some .local) (hc : Names X x c)
    (hv : Vis X.env.scope n) (hdn : (n == ("__debug__" : Str)) = false) (hcn : (n == ("__classdict__" : Str)) = false) (hsw : swapsWith (.Name n pn) (some (.Name y py)) pa.line X.env = pure false)
    (hb : ∀ (W : WX) (pn : List (Addr × Obj)) (xe : Value → Shared → Prop), Takes (X.tr pn xe) W → PSs (X.tr pn xe) body (tb W)) :
    PS X (.Try body [.ExceptHandler (some (.Name x np)) (some n) [.Assign [.Name y py] (.Name n pn) pa] pos'] [] [] pos) (fun D σ H => tb (wKeep X.K c i j D) D σ H) := by
  refine ⟨fun pins s σ H D I h => ?_⟩
  have ok := I.ok
  have hfr : X.A.frames = some (X.env :: X.outer) := by rw [ok.frames, hs]
  refine wpAny_Try_except (wpAny_mono ((hb (wKeep X.K c i j D) (X.pn ++ pins) (fun e s₁ => wpAny (model X.prog X.w) X.A (noteFrame e X.env) (fun _ s₂ => wpAny (model X.prog X.w) X.A (setFlight e none)
    (fun _ s₃ => wpAny (model X.prog X.w) X.A (handleBy e X.env [.ExceptHandler (some (.Name x np)) (some n) [.Assign [.Name y py] (.Name n pn) pa] pos']) (SP X pins D) X.xe s₃) X.xe s₂) X.xe s₁) (fun u s' xx => ?_)).run [] s σ H D (I.toTry _) h) (fun f s1 hsp => ?_) fun e s1 he => he)
  · obtain ⟨a, B, sI, pins', σ', H', cls, d, rfl, J', nb, up, sky, na, os, ag, C, rfl, hm1, hyes⟩ := xx
    have J : Inv X pins σ' H' sI := J'.ofTry ok
    have sky2 : Sky B (X.env :: X.outer) a (Zc (.ref C) d) X.env.locals s'.heap := by
      rw [← hs]
      exact sky
    show wpAny _ X.A (noteFrame (.ref a) X.env) _ _ _
    refine Sky.land Zc.steady hfr hf sky2 ?_
    intro h3 fl3 up3
    have J3 : Inv X pins σ' H' { s' with heap := h3 } := J.landed nb fl3.1 (up.trans up3) os ag
    obtain ⟨oe3, vs3, he3, hz3, hd3⟩ := fl3.there
    have notFr : ∀ {h : Heap} {o : Obj} {vs : Array Value}, h.FunFrames B (X.env :: X.outer) → h.get? a = some o → o.data = .fields vs → a ∉ frs (X.env :: X.outer) := by
      intro h o vs ff e dd hm
      obtain ⟨_, o', e2, hnf⟩ := ff.mem hm
      rw [e] at e2
      cases e2
      exact hnf _ dd
    have nfr := notFr fl3.2.2.1 he3 hd3
    have nB : B.get? a = none := fl3.2.1
    have nL : a ≠ X.env.locals := fun z => nfr (List.mem_filterMap.mpr ⟨X.env, List.mem_cons_self, by rw [hf, z]⟩)
    have nF : a ∉ X.fs := by
      intro hm
      obtain ⟨e, he, q⟩ := List.mem_filterMap.mp hm
      exact nfr (List.mem_filterMap.mpr ⟨e, List.mem_cons_of_mem _ he, q⟩)
    have nI : sI.heap.get? a = none := by
      cases z : sI.heap.get? a with
      | none => rfl
      | some o =>
        rw [nb a o z (by rw [hs]; exact nfr)] at nB
        cases nB
    have n0 : X.s_0.heap.get? a = none := by
      cases z : X.s_0.heap.get? a with
      | none => rfl
      | some o =>
        obtain ⟨o', q⟩ := J.base.there a o z (by rw [hex]; exact fun z => nomatch z)
        rw [nI] at q
        cases q
    have npp : ∀ p ∈ X.pn ++ pins, p.1 ≠ a := by
      intro p hp z
      obtain ⟨q, _⟩ := J.pin p hp
      rw [z, nI] at q
      cases q
    have S3 := J3.suite he3 hd3 na nL nF
    refine wpAny_handleBy_cons (codeAny_handlers_test ?_) (by intro q; cases q)
    have LT : PySem.W.Looks (model X.prog X.w) h3 (typeOf (.ref a)) (.ref C) := fun A Q E s k q => wpAny_typeOf_ref (k _ _ he3) (by rw [hz3.1]; exact q)
    have LM := PySem.W.exm_one (M := model X.prog X.w) (J3.kIn) LT hm1
    have test : ∀ {Q : Value → Shared → Prop} {E : Value → Shared → Prop}, Q c { s' with heap := h3 } → wpAny (model X.prog X.w) (X.A.mark (some (.ref a))) (eval (.Name x np) X.env) Q E { s' with heap := h3 } := by
      intro Q E q
      obtain ⟨hg, hdbg, hm | ⟨hm, hv, hnn⟩⟩ := hc
      · exact ld_glob (X := X.suite a ((a, oe3) :: (X.pn ++ pins))) S3 hg hm q hdbg
      · exact ld_blt (X := X.suite a ((a, oe3) :: (X.pn ++ pins))) S3 hg hm hv q hnn hdbg
    refine test (LM.here (codeAny_handlers_suite_as ?_))
    refine HandSPX.lands_againZ fl3 ?_
    intro h4 fl4 up4
    have J4 : Inv X pins σ' H' { s' with heap := h4 } := J.landed nb fl4.1 ((up.trans up3).trans up4) os ag
    obtain ⟨oe4, vs4, he4, hz4, hd4⟩ := fl4.there
    have S4 := J4.suite he4 hd4 na nL nF
    refine store_ok (X := X.suite a ((a, oe4) :: (X.pn ++ pins))) (v := .ref a) S4 hN hi (.inl hln) rfl (fun s5 S5 => ?_) (.inr hln)
    have hli : i < σ'.length := by
      rw [S4.len]
      exact (List.getElem?_eq_some_iff.mp hi).1
    refine wpAny_mono ((pss_one (ps_set (X := X.suite a ((a, oe4) :: (X.pn ++ pins))) hN hj (.inl hlj) (pe_var hi hv hdn hcn) hsw (.inr hlj))).run [] s5 _ H' (D := { nx := fun σ6 H6 => σ6 = (σ'.set i (some (.ref a))).set j (some (.ref a)) ∧ H6 = H', rt := fun _ _ => False }) S5 ?_) (fun f s6 hsp => ?_) (fun _ _ z => False.elim z)
    · exact ⟨.ref a, by rw [List.getElem?_set_self hli], rfl, rfl⟩
    · cases f with
      | next =>
        obtain ⟨σ6, H6, S6, rfl, rfl⟩ := hsp
        have K6 : Inv X ((a, oe4) :: pins) ((σ'.set i (some (.ref a))).set j (some (.ref a))) H6 s6 := ⟨ok, S6.os, S6.bare, S6.base, S6.loc, S6.cell, S6.free, S6.freeC, fun p hp => by
          refine S6.pin p (List.mem_append_left _ ?_)
          rcases List.mem_append.mp hp with z | z
          · exact List.mem_cons_of_mem _ (List.mem_append_left _ z)
          · rcases List.mem_cons.mp z with z | z
            · rw [z]
              exact List.mem_cons_self
            · exact List.mem_cons_of_mem _ (List.mem_append_right _ z), S6.hok, S6.len⟩
        exact gone_ok K6 hN hi hln fun s7 J7 => ⟨_, _, track J7 hex n0 hz4.1 hz4.2 hd4 npp, hyes a na⟩
      | ret u =>
        obtain ⟨v, σ6, H6, S6, r6, q6⟩ := hsp
        exact q6.elim
      | brk =>
        obtain ⟨σ6, H6, S6, q6⟩ := hsp
        exact q6.elim
      | cont =>
        obtain ⟨σ6, H6, S6, q6⟩ := hsp
        exact q6.elim
  · cases f with
    | next =>
      obtain ⟨σ', H', J', q⟩ := hsp
      exact wpAny_execs_nil ⟨σ', H', J'.ofTry ok, q⟩
    | brk =>
      obtain ⟨σ', H', J', q⟩ := hsp
      exact ⟨σ', H', J'.ofTry ok, q⟩
    | cont =>
      obtain ⟨σ', H', J', q⟩ := hsp
      exact ⟨σ', H', J'.ofTry ok, q⟩
    | ret u =>
      obtain ⟨v, σ', H', J', r, q⟩ := hsp
      exact ⟨v, σ', H', J'.ofTry ok, r, q⟩
end

/-! ### the same over data -/
section
variable {X : Cx} {W : Fix} {x n y : Str} {c : Value} {i j : Nat} {body : List Stmt} {np py pn pa pos pos' : Pos} {tb : (Addr → List D → Env' → Prop) → TSD}
/-- what follows a caught exception: its class, what it holds, into slot j -/
def eKeep (K : PySem.W.Frag) (c : Value) (i j : Nat) (D : EndsD) : Addr → List DD.D → Env' → Prop := fun C ds δ => ∃ d, ds = [d] ∧ PySem.W.exmOne K (.ref C) c = some true ∧ D.nx ((δ.set j (some (.p (.exc C [d])))).set i none)
def dTry (K : PySem.W.Frag) (c : Value) (i j : Nat) (tb : (Addr → List D → Env' → Prop) → TSD) : TSD := fun D δ => tb (eKeep K c i j D) D δ
theorem ds_try (hex : X.ex = []) (hs : X.stack = X.env :: X.outer) (hf : X.env.frame = some X.env.locals) (hN : X.N.Nodup) (hi : X.N[i]? = some n) (hln : X.env.kindOf n = some .local) (hj : X.N[j]? = some y) (hlj : X.env.kindOf y = some .local) (hc : Names X x c)
    (hb : ∀ (E0 : Addr → List D → Env' → Prop) (W' : Fix) (pn : List (Addr × Obj)) (xe : Value → Shared → Prop), TkE (X.tr pn xe) W' E0 → DSs (X.tr pn xe) W' body (tb E0))
    (hv : Vis X.env.scope n := by first | exact Or.inl rfl | exact Or.inr (Or.inl rfl) | exact Or.inr (Or.inr rfl)) (hdn : (n == ("__debug__" : Str)) = false := by decide) (hcn : (n == ("__classdict__" : Str)) = false := by decide) (hsw : swapsWith (.Name n pn) (some (.Name y py)) pa.line X.env = pure false := by rfl) (hij : i ≠ j := by decide) :
    DS X W (.Try body [.ExceptHandler (some (.Name x np)) (some n) [.Assign [.Name y py] (.Name n pn) pa] pos'] [] [] pos) (dTry X.K c i j tb) :=
  .of (ps_try_keep (tb := fun W D σ H => ∀ pn xe, Takes (X.tr pn xe) W → cSs (X.tr pn xe) body D σ H) hex hs hf hN hi hln hj hlj hc hv hdn hcn hsw (fun W pn xe tk => ⟨fun pins s σ H D I h => h pn xe tk pins s I⟩)) fun F H σ δ D S q pn xe tk => by
    have tk2 : Takes (X.tr pn xe) (WXd X.K (W.at F (eKeep X.K c i j D))) := tk.imp fun cls dd σ1 H1 z => by
      obtain ⟨F1, δ1, C, ds, T, ⟨rfl, er⟩, d, rfl, hm, q1⟩ := z
      rcases er with ⟨er, _⟩ | ⟨dx, v, d', e1, rfl, hx, rv⟩
      · cases er
      cases e1
      have T1 := S.outof T
      refine ⟨C, rfl, hm, fun a ha => ?_⟩
      have e2 := same_upd (o := ExcAt a C (some dx)) (T1.freshF ha)
      have T2 := T1.new (o := ExcAt a C (some dx)) ha
      have r2 : Rp X.K (upd F1 a (ExcAt a C (some dx))) (.exc C [d]) (.ref a) := by
        unfold Rp
        exact ⟨a, dx, v, [v], rfl, upd_same, e2 _ _ hx, rfl, .cons (Rp.mono e2 _ _ rv) .nil⟩
      refine ⟨upd F1 a (ExcAt a C (some dx)), (δ1.set j (some (.p (.exc C [d])))).set i none, ?_, q1⟩
      have T3 := (T2.put (i := i) (b := .p (.exc C [d])) r2 (fun z => by cases z)).put (i := j) (b := .p (.exc C [d])) r2 (fun z => by cases z)
      have eq1 : (((δ1.set i (some (B.p (.exc C [d])))).set j (some (B.p (.exc C [d])))).set i none) = ((δ1.set j (some (B.p (.exc C [d])))).set i none) := by
        rw [List.set_comm _ _ hij, List.set_set]
      rw [← eq1]
      refine (T3.drop (i := i)).slots (by rw [List.length_set]) fun k b e => ?_
      by_cases hk : k = i
      · subst hk
        have hl := (List.getElem?_eq_some_iff.mp e).1
        rw [List.length_set] at hl
        rw [List.getElem?_set_self hl] at e
        cases e
      · rw [List.getElem?_set_ne (Ne.symm hk)]
    exact ((hb (eKeep X.K c i j D) (W.at F (eKeep X.K c i j D)) pn xe ⟨rfl, tk2⟩).run F H σ δ D (S.into _) q).imp (fun _ _ z => MQ.outof S z) (fun _ _ z => UQ.outof S z) (fun _ _ z => MQ.outof S z) (fun _ _ z => MQ.outof S z)
end
end DD

set_option Elab.async false
set_option linter.all false
set_option maxRecDepth 100000
set_option maxHeartbeats 4000000
/-! DD10: repr over data. -/
namespace DD
open PySem PySem.Spec PyProof.Rows L2

def keyPy : Key → PyData
  | .inl i => .int i
  | .inr x => .str x
mutual
def toPyR : D → Option PyData
  | .non => some .none
  | .bl b => some (.bool b)
  | .int i => some (.int i)
  | .str s => some (.str s)
  | .lst ds => (toPyRL ds).map .list
  | .tup ds => (toPyRL ds).map .tuple
  | .dct ks ds => (toPyRL ds).map fun xs => .dict ((ks.map keyPy).zip xs)
  | _ => none
def toPyRL : List D → Option (List PyData)
  | [] => some []
  | d :: ds => (toPyR d).bind fun x => (toPyRL ds).map fun xs => x :: xs
end
section
variable {X : Cx} {pins : List (Addr × Obj)} {σ : L2.St} {F H : Hp} {s : Shared}
theorem sys_ne {o : HO} {a : Addr} (I : Inv X pins σ H s) (hsy : ∃ o, X.K.lookup sysModules = some o) (h : H a = some o) : a ≠ sysModules := fun z => by
  obtain ⟨o', e⟩ := hsy
  have := (I.bs _ _ (I.mod.kin _ _ e)).2
  rw [← z, h] at this
  cases this
/-- which addresses a reading may name -/
def NoSys (as : List Addr) : Prop := sysModules ∉ as
theorem KV.keys {ks : List Key} : ∀ {kvs : List (Key × V)} {vs : List (Key × Value)}, KV kvs vs → vs.map (·.1) = kvs.map (·.1)
  | _, _, .nil => rfl
  | _, _, .cons r t => by
    rw [List.map_cons, List.map_cons, r.1, KV.keys (ks := ks) t]
theorem KV.vals : ∀ {kvs : List (Key × V)} {vs : List (Key × Value)}, KV kvs vs → Vals (kvs.map (·.2)) (vs.map (·.2))
  | _, _, .nil => .nil
  | _, _, .cons r t => .cons r.2 (KV.vals t)
theorem pairs_keys {P : Program} {w : World} : ∀ {es : List DictEntry} {vs : List (Key × Value)}, Pairs (mixKind P w) es vs → ReadsAll s.heap (es.map (·.key)) ((vs.map (·.1)).map keyPy) []
  | _, _, .nil => .nil
  | _, _, .cons (kv := kv) h1 h2 t => by
    rcases keyIs_shape (show keyIs kv.1 _ = true from h1) with ⟨i, u, e1, e2⟩ | ⟨x, u, e1, e2⟩
    · have q : Reads s.heap (Value.int i u) (.int i) [] := .int i u
      rw [List.map_cons, List.map_cons, List.map_cons, e1, e2]
      exact .cons (as := []) (bs := []) q (pairs_keys t)
    · have q : Reads s.heap (Value.str x u) (.str x) [] := .str x u
      rw [List.map_cons, List.map_cons, List.map_cons, e1, e2]
      exact .cons (as := []) (bs := []) q (pairs_keys t)
theorem pairs_vals {P : Program} {w : World} : ∀ {es : List DictEntry} {vs : List (Key × Value)}, Pairs (mixKind P w) es vs → es.map (·.val) = vs.map (·.2)
  | _, _, .nil => rfl
  | _, _, .cons h1 h2 t => by rw [List.map_cons, List.map_cons, h2, pairs_vals t]
mutual
theorem Rp.reads (I : Inv X pins σ H s) (hsy : ∃ o, X.K.lookup sysModules = some o) (e : Same F H) : ∀ (d : D) (v : V) (u : Value) (c : PyData), Rp X.K F d v → toPyR d = some c → RelV v u → ∃ as, Reads s.heap u c as ∧ NoSys as
  | .non, v, u, c, h, t, r => by
    rw [rpNon h] at r
    cases r
    cases t
    exact ⟨_, .none, fun w => nomatch w⟩
  | .bl b, v, u, c, h, t, r => by
    rw [rpBl h] at r
    cases r
    cases t
    exact ⟨_, .bool b, fun w => nomatch w⟩
  | .int i, v, u, c, h, t, r => by
    rw [rpInt h] at r
    obtain ⟨tk, rfl⟩ := r
    cases t
    exact ⟨_, .int i tk, fun w => nomatch w⟩
  | .str x, v, u, c, h, t, r => by
    rw [rpStr h] at r
    obtain ⟨tk, rfl⟩ := r
    cases t
    exact ⟨_, .str x tk, fun w => nomatch w⟩
  | .lst ds, v, u, c, h, t, r => by
    obtain ⟨a, xs, rfl, h1, h2⟩ := rpLst h
    unfold toPyR at t
    cases q : toPyRL ds with
    | none =>
      rw [q] at t
      cases t
    | some cs =>
      rw [q] at t
      cases t
      cases r
      obtain ⟨its, rv, ⟨o, n, ho, hc, _, hd⟩, _⟩ := I.list (SqL.of (K := X.K) (e _ _ h1))
      obtain ⟨as, hr, hn⟩ := RpL.reads I hsy e ds xs its cs h2 q rv
      refine ⟨_, .list ho hc hd hr, fun w => ?_⟩
      rcases List.mem_cons.mp w with w | w
      · exact sys_ne I hsy (e _ _ h1) w.symm
      · exact hn w
  | .tup ds, v, u, c, h, t, r => by
    obtain ⟨a, xs, rfl, h1, h2⟩ := rpTup h
    unfold toPyR at t
    cases q : toPyRL ds with
    | none =>
      rw [q] at t
      cases t
    | some cs =>
      rw [q] at t
      cases t
      cases r
      obtain ⟨its, rv, ⟨o, ho, hc, n, hd⟩, _⟩ := I.tuple (sqT_mono e h1)
      obtain ⟨as, hr, hn⟩ := RpL.reads I hsy e ds xs its cs h2 q rv
      exact ⟨_, .tuple ho hc hd hr, hn⟩
  | .dct ks ds, v, u, c, h, t, r => by
    unfold Rp at h
    obtain ⟨a, xs, rfl, h1, h2, h3⟩ := h
    unfold toPyR at t
    cases q : toPyRL ds with
    | none =>
      rw [q] at t
      cases t
    | some cs =>
      rw [q] at t
      cases t
      cases r
      obtain ⟨_, hs, vs, kv, o, es, ep, ho, ⟨hc, _⟩, hd, _, hp, _⟩ := (show ObjOk X.prog X.w H s.heap a (.dK (ks.zip xs)) from I.hok a _ (e _ _ h1))
      have rv := KV.vals kv
      rw [← pairs_vals hp] at rv
      have hl : xs.length = ks.length := h3.symm
      have e2 : (ks.zip xs).map (·.2) = xs := by
        rw [List.map_snd_zip]
        omega
      have e1 : (ks.zip xs).map (·.1) = ks := by
        rw [List.map_fst_zip]
        omega
      rw [e2] at rv
      obtain ⟨as, hr, hn⟩ := RpL.reads I hsy e ds xs _ cs h2 q rv
      have hk := pairs_keys (s := s) hp
      rw [KV.keys (ks := []) kv, e1] at hk
      have hcl : cs.length = ks.length := by
        have a1 := RpL.length h2
        have a2 : ∀ {ds : List D} {cs : List PyData}, toPyRL ds = some cs → cs.length = ds.length := by
          intro ds
          induction ds with
          | nil =>
            intro cs h
            cases h
            rfl
          | cons d ds ih =>
            intro cs h
            unfold toPyRL at h
            cases q1 : toPyR d with
            | none =>
              rw [q1] at h
              cases h
            | some c =>
              cases q2 : toPyRL ds with
              | none =>
                rw [q1, q2] at h
                cases h
              | some cs' =>
                rw [q1, q2] at h
                cases h
                rw [List.length_cons, List.length_cons, ih q2]
        have a3 := a2 q
        omega
      have hz1 : ((ks.map keyPy).zip cs).map (·.1) = ks.map keyPy := by
        rw [List.map_fst_zip]
        rw [List.length_map]
        omega
      have hz2 : ((ks.map keyPy).zip cs).map (·.2) = cs := by
        rw [List.map_snd_zip]
        rw [List.length_map]
        omega
      refine ⟨_, .dict ho hc hd (by rw [hz1]; exact hk) (by rw [hz2]; exact hr), fun w => ?_⟩
      have w2 : sysModules ∈ a :: as := by simpa using w
      rcases List.mem_cons.mp w2 with w3 | w3
      · exact sys_ne I hsy (e _ _ h1) w3.symm
      · exact hn w3
  | .ty _, _, _, _, _, t, _ => by cases t
  | .ref _, _, _, _, _, t, _ => by cases t
  | .ins _ _ _, _, _, _, _, t, _ => by cases t
  | .iset _ _, _, _, _, _, t, _ => by cases t
  | .exc _ _, _, _, _, _, t, _ => by cases t
  | .scr _, _, _, _, _, t, _ => by cases t
theorem RpL.reads (I : Inv X pins σ H s) (hsy : ∃ o, X.K.lookup sysModules = some o) (e : Same F H) : ∀ (ds : List D) (vs : List V) (us : List Value) (cs : List PyData), RpL X.K F ds vs → toPyRL ds = some cs → Vals vs us → ∃ as, ReadsAll s.heap us cs as ∧ NoSys as
  | [], vs, us, cs, h, t, r => by
    unfold RpL at h
    subst h
    cases t
    cases r
    exact ⟨_, .nil, fun w => nomatch w⟩
  | d :: ds, vs, us, cs, h, t, r => by
    unfold RpL at h
    obtain ⟨x, vr, rfl, h1, h2⟩ := h
    unfold toPyRL at t
    cases q1 : toPyR d with
    | none =>
      rw [q1] at t
      cases t
    | some c =>
      cases q2 : toPyRL ds with
      | none =>
        rw [q1, q2] at t
        cases t
      | some cs' =>
        rw [q1, q2] at t
        cases t
        cases r with
        | cons r1 r2 =>
          obtain ⟨as, z1, n1⟩ := Rp.reads I hsy e d x _ c h1 q1 r1
          obtain ⟨bs, z2, n2⟩ := RpL.reads I hsy e ds vr _ cs' h2 q2 r2
          refine ⟨_, .cons z1 z2, fun w => ?_⟩
          rcases List.mem_append.mp w with w | w
          · exact n1 w
          · exact n2 w
end
/-- what may be shown -/
structure Shw (c : PyData) : Prop where
  sh : c.showable = true
  dp : c.depth ≤ 50
  sz : c.shown.length ≤ sizeLine
def rRepr (K : PySem.W.Frag) : List V → Hp → VK → Prop := fun xs H Q => ∃ (v : V) (c : PyData), xs = [v] ∧ (∃ (F : Hp) (d : D), Same F H ∧ Rp K F d v ∧ toPyR d = some c) ∧ Shw c ∧ Q (.str c.shown) H
theorem call_repr (gu : X.A.guards = some []) (hu : X.A.units + 64 < cLine) (hsy : ∃ o, X.K.lookup sysModules = some o) : CallR X (.builtin "repr") (rRepr X.K) := by
  intro pins s σ H xs us Q I r h
  obtain ⟨v, c, rfl, ⟨F, d, e, rd, tc⟩, sh, q⟩ := h
  cases r with
  | cons rv rr =>
    cases rr
    have fin : ∀ tk u, Q (.str c.shown) H → EP X pins σ Q (.str c.shown u) { s with toks := tk } := fun tk u q => ⟨.str c.shown, H, I.tok tk, ⟨u, rfl⟩, q⟩
    cases d with
    | non =>
      rw [rpNon rd] at rv
      cases rv
      cases tc
      exact P.repr_of_none (fin _ _ q)
    | bl b =>
      rw [rpBl rd] at rv
      cases rv
      cases tc
      exact P.repr_of_bool (fin _ _ q)
    | int i =>
      rw [rpInt rd] at rv
      obtain ⟨t, rfl⟩ := rv
      cases tc
      exact P.repr_of_int (of_decide_eq_true (show decide (i.natAbs.log2 < 1920) = true from sh.sh)) (fin _ _ q)
    | str x =>
      rw [rpStr rd] at rv
      obtain ⟨t, rfl⟩ := rv
      cases tc
      exact P.repr_of_str (fin _ _ q) sh.sz
    | lst ds =>
      obtain ⟨a, xs, rfl, h1, h2⟩ := rpLst rd
      cases rv
      obtain ⟨as, hr, hn⟩ := Rp.reads I hsy e (.lst ds) _ _ c rd tc rfl
      have hdp := sh.dp
      exact repr_of_reads' hr sh.sh (fun _ => hn) gu (by omega) (fun _ _ z => z) (fun h' u tk k => ⟨.str c.shown, H, I.kept (t' := tk) k, ⟨u, rfl⟩, q⟩) sh.sz
    | tup ds =>
      obtain ⟨a, xs, rfl, h1, h2⟩ := rpTup rd
      cases rv
      obtain ⟨as, hr, hn⟩ := Rp.reads I hsy e (.tup ds) _ _ c rd tc rfl
      have hdp := sh.dp
      exact repr_of_reads' hr sh.sh (fun _ => hn) gu (by omega) (fun _ _ z => z) (fun h' u tk k => ⟨.str c.shown, H, I.kept (t' := tk) k, ⟨u, rfl⟩, q⟩) sh.sz
    | dct ks ds =>
      have rd' := rd
      unfold Rp at rd'
      obtain ⟨a, xs, rfl, h1, h2⟩ := rd'
      cases rv
      obtain ⟨as, hr, hn⟩ := Rp.reads I hsy e (.dct ks ds) _ _ c rd tc rfl
      have hdp := sh.dp
      exact repr_of_reads' hr sh.sh (fun _ => hn) gu (by omega) (fun _ _ z => z) (fun h' u tk k => ⟨.str c.shown, H, I.kept (t' := tk) k, ⟨u, rfl⟩, q⟩) sh.sz
    | ty n => cases tc
    | ref a => cases tc
    | ins C ns ds => cases tc
    | iset S n => cases tc
    | exc C ds => cases tc
    | scr ns => cases tc
def reprG : List D → (B → Prop) → Prop := fun ds Q => ∃ d c, ds = [d] ∧ toPyR d = some c ∧ Shw c ∧ Q (.p (.str c.shown))
theorem rc_repr {K : PySem.W.Frag} : RC K (rRepr K) reprG := by
  intro W F H σ δ xs ds Q Z S r g hZ
  obtain ⟨d, c, rfl, tc, sh, q⟩ := g
  obtain ⟨y, rfl, ry⟩ := rpL1x r
  exact ⟨y, c, rfl, ⟨F, d, S.fh, ry, tc⟩, sh, hZ _ _ (mkP S (by unfold Rp; rfl) q)⟩
end

/-! ### small data are shown -/
structure Wk (n k : Nat) (c : PyData) : Prop where
  sh : c.showable = true
  dp : c.depth ≤ k
  lv : c.leavesShort 13 = true
  wt : c.weight ≤ n
theorem Wk.shw {n k : Nat} {c : PyData} (h : Wk n k c) (hk : k ≤ 50) (hn : n ≤ 2 ^ 20) : Shw c := ⟨h.sh, Nat.le_trans h.dp hk, PyData.shown_fits (by decide) (by decide) h.lv (Nat.le_trans h.wt hn)⟩
theorem Wk.mono {n k n' k' : Nat} {c : PyData} (h : Wk n k c) (hn : n ≤ n') (hk : k ≤ k') : Wk n' k' c := ⟨h.sh, Nat.le_trans h.dp hk, h.lv, Nat.le_trans h.wt hn⟩
theorem wk_non : Wk 41 0 .none := ⟨rfl, Nat.le_refl _, rfl, by decide⟩
theorem wk_bl {b : Bool} : Wk 41 0 (.bool b) := ⟨rfl, Nat.le_refl _, rfl, by show 0 ≤ 41; decide⟩
theorem log_lt {i : Int} (h : i.natAbs < 10 ^ 12) : i.natAbs.log2 < 40 := by
  by_cases h0 : i.natAbs = 0
  · rw [h0]
    decide
  · exact (Nat.log2_lt h0).mpr (Nat.lt_of_lt_of_le h (by decide))
theorem wk_int {i : Int} (h : i.natAbs < 10 ^ 12) : Wk 41 0 (.int i) := by
  have hl := log_lt h
  refine ⟨decide_eq_true (by omega), Nat.le_refl _, ?_, ?_⟩
  · show decide _ = true
    exact decide_eq_true (PyData.shown_int_le h)
  · show (if i == 0 then 0 else i.natAbs.log2 + 1) ≤ 41
    split <;> omega
theorem wk_str {x : Str} {n : Nat} (h : ∀ c ∈ x.cps.toList, c < 1114112) (hl : x.length ≤ n) : Wk n 0 (.str x) := by
  refine ⟨rfl, Nat.le_refl _, ?_, hl⟩
  simp only [PyData.leavesShort, List.all_eq_true, decide_eq_true_eq]
  intro c hc
  exact Nat.lt_of_lt_of_le (h c hc) (by decide)
theorem wk_all {n k : Nat} : ∀ {cs : List PyData}, (∀ c ∈ cs, Wk n k c) → PyData.showableAll cs = true ∧ PyData.depthAll cs ≤ k ∧ PyData.leavesShortAll 13 cs = true ∧ PyData.weightAll cs ≤ cs.length * (n + 1)
  | [], _ => ⟨rfl, Nat.zero_le _, rfl, Nat.zero_le _⟩
  | c :: cs, h => by
    obtain ⟨h1, h2, h3, h4⟩ := wk_all (cs := cs) fun d hd => h d (List.mem_cons_of_mem _ hd)
    have g := h c List.mem_cons_self
    have g4 := g.wt
    refine ⟨by simp only [PyData.showableAll, g.sh, h1, Bool.and_self], Nat.max_le.mpr ⟨g.dp, h2⟩, by simp only [PyData.leavesShortAll, g.lv, h3, Bool.and_self], ?_⟩
    show c.weight + 1 + PyData.weightAll cs ≤ (cs.length + 1) * (n + 1)
    rw [Nat.add_mul]
    omega
theorem wk_lst {n k m : Nat} {cs : List PyData} (h : ∀ c ∈ cs, Wk n k c) (hm : cs.length ≤ m) : Wk (m * (n + 1)) (k + 1) (.list cs) := by
  obtain ⟨h1, h2, h3, h4⟩ := wk_all h
  exact ⟨h1, Nat.succ_le_succ h2, h3, Nat.le_trans h4 (Nat.mul_le_mul_right _ hm)⟩
theorem wk_tup {n k m : Nat} {cs : List PyData} (h : ∀ c ∈ cs, Wk n k c) (hm : cs.length ≤ m) : Wk (m * (n + 1)) (k + 1) (.tuple cs) := by
  obtain ⟨h1, h2, h3, h4⟩ := wk_all h
  exact ⟨h1, Nat.succ_le_succ h2, h3, Nat.le_trans h4 (Nat.mul_le_mul_right _ hm)⟩
end DD

set_option Elab.async false
set_option linter.all false
set_option maxRecDepth 100000
set_option maxHeartbeats 4000000
/-! DD11: a call whose arguments are flat gives fresh lists; lists of a fresh tuple changed at the end. -/
namespace DD
open PySem PySem.Spec PyProof.Rows L2

/-! ### data without addresses -/
def litD : D → Bool
  | .non | .bl _ | .int _ | .str _ | .ty _ | .ref _ => true
  | _ => false
def litB : B → Bool
  | .p d => litD d
  | .o (.lst ds) => ds.all litD
  | .o (.iset _ _) => true
  | .u _ _ => true
  | _ => false
def scrB : B → Bool
  | .p (.scr _) => true
  | _ => false
def litE (δ : Env') : Env' := δ.map fun o => o.bind fun b => if (litB b || scrB b) = true then some b else none
/-- what stays frozen: the ground, and what never changes -/
def thin (F0 F : Hp) : Hp := fun a => match F0 a with
  | some o => some o
  | none => match F a with
    | some (.frz o u) => some (.frz o u)
    | _ => none
theorem thin_ground {F0 F : Hp} : Same F0 (thin F0 F) := fun a o h => by
  unfold thin
  rw [h]
theorem thin_some {F0 F : Hp} {a : Addr} {o : HO} (h : thin F0 F a = some o) : F0 a = some o ∨ (∃ ob u, o = .frz ob u) ∧ F a = some o := by
  unfold thin at h
  cases e : F0 a with
  | some u =>
    rw [e] at h
    exact .inl h
  | none =>
    rw [e] at h
    cases q : F a with
    | none =>
      rw [q] at h
      cases h
    | some u =>
      rw [q] at h
      cases u <;> first | (cases h; done) | skip
      rename_i ob v
      have h : some (HO.frz ob v) = some o := h
      cases h
      exact .inr ⟨⟨ob, v, rfl⟩, rfl⟩
theorem thin_free {F0 F : Hp} {a : Addr} (e : Same F0 F) (h : F a = none) : thin F0 F a = none := by
  cases q : thin F0 F a with
  | none => rfl
  | some o =>
    rcases thin_some q with z | ⟨_, z⟩
    · rw [e a o z] at h
      cases h
    · rw [h] at z
      cases z
theorem thin_frz {F0 F : Hp} {a : Addr} {o : Obj} {u : HO} (e : Same F0 F) (h : F a = some (.frz o u)) : thin F0 F a = some (.frz o u) := by
  unfold thin
  cases q : F0 a with
  | some v =>
    have := e a v q
    rw [h] at this
    cases this
    rfl
  | none => rw [h]
section
variable {K : PySem.W.Frag} {W : Fix} {F F' H H' : Hp} {σ : L2.St} {δ : Env'}
theorem lit_any {d : D} {v : V} (h : litD d = true) (r : Rp K F d v) : Rp K F' d v := by
  cases d <;> first | (cases h; done) | (unfold Rp at r ⊢; exact r)
theorem lit_all : ∀ {ds : List D} {vs : List V}, ds.all litD = true → RpL K F ds vs → RpL K F' ds vs
  | [], _, _, r => by
    unfold RpL at r ⊢
    exact r
  | d :: ds, _, h, r => by
    unfold RpL at r
    obtain ⟨x, t, rfl, h1, h2⟩ := r
    rw [List.all_cons, Bool.and_eq_true] at h
    exact .cons (lit_any h.1 h1) (lit_all h.2 h2)
theorem litE_get {i : Nat} {b : B} (h : (litE δ)[i]? = some (some b)) : δ[i]? = some (some b) ∧ (litB b || scrB b) = true := by
  unfold litE at h
  rw [List.getElem?_map] at h
  cases e : δ[i]? with
  | none =>
    rw [e] at h
    cases h
  | some o =>
    rw [e] at h
    cases o with
    | none => cases h
    | some c =>
      by_cases q : (litB c || scrB c) = true
      · have h : some (if (litB c || scrB c) = true then some c else none) = some (some b) := h
        rw [if_pos q] at h
        cases h
        exact ⟨rfl, q⟩
      · have h : some (if (litB c || scrB c) = true then some c else none) = some (some b) := h
        rw [if_neg q] at h
        cases h

/-! ### f(e, ..), flat arguments: the lists of the tuple that comes back are new -/
def lstD : D → Bool
  | .lst _ => true
  | _ => false
def freB : B → B
  | .p (.tup ds) => if ds.all lstD = true then .n ds else .p (.tup ds)
  | b => b
theorem freB_or (d : D) : freB (.p d) = .p d ∨ ∃ ds, d = .tup ds ∧ ds.all lstD = true := by
  cases d <;> first | exact .inl rfl | skip
  rename_i ds
  by_cases h : ds.all lstD = true
  · exact .inr ⟨ds, rfl, h⟩
  · refine .inl ?_
    show (if ds.all lstD = true then B.n ds else B.p (.tup ds)) = _
    rw [if_neg h]
end
section
variable {X : Cx} {W : Fix} {k : Nat} {f : Addr} {fd : FuncData} {ps : List Str} {spd : Spd} {x : Str} {p pos : Pos} {e : Expr} {es : List Expr} {t : TDA}
def dCallF (spd : Spd) (t : TDA) : TD := fun δ Q => t δ fun ds δ1 => ds.all litD = true ∧ spd (ds.map .p) (fun b _ => (∃ d, b = .p d) ∧ Q (freB b) δ1) fun _ _ _ => False
theorem Own.mono {K : PySem.W.Frag} {F F' H : Hp} {d : D} {a : Addr} (e : Same F F') (h : Own K F H d a) : Own K F' H d a := by
  cases d <;> first | exact h.elim | skip
  · obtain ⟨xs, h1, h2⟩ := h
    exact ⟨xs, h1, RpL.mono e _ _ h2⟩
  · obtain ⟨xs, h1, h2, h3⟩ := h
    exact ⟨xs, h1, RpL.mono e _ _ h2, h3⟩
  · exact h
/-- two heaps of frozen objects together -/
def both (F G : Hp) : Hp := fun a => match F a with
  | some o => some o
  | none => G a
theorem both_l {F G : Hp} : Same F (both F G) := fun a o h => by
  unfold both
  rw [h]
theorem both_r {F G : Hp} (h : ∀ a o, G a = some o → F a = none) : Same G (both F G) := fun a o e => by
  unfold both
  rw [h a o e]
  exact e
theorem de_callF (G : GnOk X.prog X.w X.K X.mg X.base k f fd ps (toSp X.K spd)) (gu : X.A.guards = some []) (hr : Room k X.A) (hg : Gl X x) (hm : X.mg x = some (.ref f)) (hk : PySem.W.keepIn X.K (.ref f) = true)
    (hb : Binds X.K fd ps []) (h : DA X W (e :: es) t) (hdb : (x == ("__debug__" : Str)) = false := by decide)
    (he : starEach (e :: es) X.env = (false, eval e X.env) :: starEach es X.env := by rfl) (hpl : (backTo pos (starEach es X.env)).any (·.1) = false := by rfl) :
    DE X W (.Call (.Name x p) (e :: es) [] pos) (dCallF spd t) :=
  .of (pe_callG (Es := fun _ _ _ _ => False) G gu hr hg hm hk hb .nil (fun σ => pass_none) cA_pa hdb he hpl) fun F H σ δ Q S q => by
    refine (h.run F H σ δ _ S q).imp fun vs H1 h1 => ?_
    obtain ⟨F1, ds, δ1, e1, S1, r1, hfl, q1⟩ := h1
    rw [List.append_nil]
    refine ⟨fun _ => none, none, _, _, _, (fun a o z => by cases z), paired_p (lit_all hfl r1), (fun p e => by cases e), q1, fun v H' F' b m a r z => ?_, fun cls d H' F' C ds m a er z => z.elim⟩
    obtain ⟨⟨d, rfl⟩, qb⟩ := z
    have newF : ∀ a o, F' a = some o → H1 a = none := fun c o z => by
      rcases a.new c o z with y | y
      · cases y
      · exact y
    have dis : ∀ a o, F' a = some o → F1 a = none := fun c o z => S1.freshF (newF c o z)
    have aB : Aft F1 H1 none m (both F1 F') H' := {
      ff := both_l
      fh := fun c o z => by
        unfold both at z
        cases y : F1 c with
        | none =>
          rw [y] at z
          exact a.fh c o z
        | some u =>
          rw [y] at z
          cases z
          exact a.keep c o (S1.fh c o y) (fun z => by cases z)
      keep := a.keep
      new := fun c o z => by
        unfold both at z
        cases y : F1 c with
        | none =>
          rw [y] at z
          exact .inr (newF c o z)
        | some u =>
          rw [y] at z
          exact .inl z
      pur := fun p e => by cases e }
    have S2 := S1.after aB
    have sB : Same F' (both F1 F') := both_r dis
    have r : Rp X.K F' d v := r
    refine ⟨both F1 F', freB (.p d), δ1, e1.trans both_l, S2, ?_, ?_, qb⟩
    · have rr := Rp.mono sB _ _ r
      rcases freB_or d with e | ⟨ds', rfl, e⟩
      · rw [e]
        exact rr
      show RB X.K W _ _ (if ds'.all lstD = true then .n ds' else .p (.tup ds')) v
      by_cases hl : ds'.all lstD = true
      · rw [if_pos hl]
        obtain ⟨c, xs, rfl, h2, h3⟩ := rpTup r
        refine ⟨c, xs, rfl, sqT_mono sB h2, RpL.mono sB _ _ h3, fun a' ha' => ?_⟩
        have key : ∀ {ds : List D} {xs : List V}, ds.all lstD = true → RpL X.K F' ds xs → V.ref a' ∈ xs → ∃ ys, F' a' = some (.lst ys) := by
          intro ds
          induction ds with
          | nil =>
            intro xs _ r hm
            unfold RpL at r
            rw [r] at hm
            cases hm
          | cons d ds ih =>
            intro xs hl r hm
            unfold RpL at r
            obtain ⟨y, t, rfl, r1, r2⟩ := r
            rw [List.all_cons, Bool.and_eq_true] at hl
            rcases List.mem_cons.mp hm with z | z
            · cases d <;> first | (cases hl.1; done) | skip
              obtain ⟨b, ys, e, g1, _⟩ := rpLst r1
              rw [← z] at e
              cases e
              exact ⟨ys, g1⟩
            · exact ih hl.2 r2 z
        obtain ⟨ys, hy⟩ := key hl h3 ha'
        exact ⟨⟨ys, sB _ _ hy⟩, S1.fresh0 (newF a' _ hy)⟩
      · rw [if_neg hl]
        exact Rp.mono sB _ _ r
    · intro ho
      exfalso
      rcases freB_or d with e | ⟨ds', rfl, e⟩
      · rw [e] at ho
        cases ho
      have ho : (if ds'.all lstD = true then B.n ds' else B.p (.tup ds')).own = true := ho
      by_cases hl : ds'.all lstD = true
      · rw [if_pos hl] at ho
        cases ho
      · rw [if_neg hl] at ho
        cases ho
end

/-! ### lists of a fresh tuple, changed when nothing reads them any more -/
/-- as SD, but for some new lists of F that were changed; at most m items each -/
structure SX (K : PySem.W.Frag) (W : Fix) (m : Nat) (F H : Hp) (σ : L2.St) (δ : Env') : Prop where
  ex : ∃ Ho, SD K W F Ho σ δ ∧ ∀ b, H b = Ho b ∨ (W.H0 b = none ∧ (∃ ys, F b = some (.lst ys)) ∧ ∃ zs, H b = some (.lst zs) ∧ zs.length ≤ m)
section
variable {K : PySem.W.Frag} {W : Fix} {F H : Hp} {σ : L2.St} {δ : Env'} {m : Nat}
theorem SX.done (S : SX K W m F H σ δ) (hW : Same W.F0 W.H0) : SD K W (thin W.F0 F) H σ (litE δ) := by
  obtain ⟨Ho, S, hb⟩ := S.ex
  have keep : ∀ b o, Ho b = some o → (W.H0 b = none → F b = none) → H b = some o := fun b o e n => by
    rcases hb b with z | ⟨z1, ⟨ys, z2⟩, _⟩
    · rw [z]
      exact e
    · rw [n z1] at z2
      cases z2
  have keep0 : ∀ b o, W.H0 b = some o → Ho b = some o → H b = some o := fun b o e q => keep b o q fun z => by
    rw [z] at e
    cases e
  refine ⟨thin_ground, fun b o e n => keep0 b o e (S.h0 b o e n), fun b o e => ?_, fun b o e => ?_, fun b e => ?_, ?_, fun i b e => ?_, fun i j b c v ne h1 h2 h3 h4 h5 => S.sep i j b c v ne (litE_get h1).1 h2 (litE_get h3).1 h4 h5⟩
  · rcases thin_some e with z | ⟨⟨ob, u, rfl⟩, z⟩
    · exact keep0 b o (hW b o z) (S.fh b o (S.f0 b o z))
    · rcases hb b with q | ⟨_, ⟨ys, q⟩, _⟩
      · exact q.trans (S.fh _ _ z)
      · rw [z] at q
        cases q
  · rcases thin_some e with z | ⟨_, z⟩
    · exact .inl z
    · exact S.fr b o z
  · obtain ⟨h1, ⟨o, h2⟩, o', h3⟩ := S.fp b e
    refine ⟨thin_free S.f0 h1, ?_, o', h3⟩
    rcases hb b with z | ⟨z, _⟩
    · exact ⟨o, z.trans h2⟩
    · rw [z] at h3
      cases h3
  · rw [S.len]
    unfold litE
    rw [List.length_map]
  · obtain ⟨e1, e2⟩ := litE_get e
    obtain ⟨v, h1, h2⟩ := S.get i b e1
    refine ⟨v, h1, ?_⟩
    cases b with
    | p d =>
      rcases Bool.or_eq_true_iff.mp e2 with e3 | e3
      · exact lit_any e3 h2
      · cases d <;> first | (cases e3; done) | skip
        rename_i ns
        have h2 : Rp K F (.scr ns) v := h2
        show Rp K (thin W.F0 F) (.scr ns) v
        unfold Rp at h2 ⊢
        obtain ⟨a, rfl, h4⟩ := h2
        exact ⟨a, rfl, h4.mono fun o q => thin_frz S.f0 q⟩
    | n ds => cases e2
    | u w n =>
      obtain ⟨p, x, y, z, rfl, g1, g2, g3, g4⟩ := h2
      exact ⟨p, x, y, z, rfl, thin_free S.f0 g1, g2, keep p _ g3 (fun _ => g1), g4⟩
    | o d =>
      obtain ⟨a, rfl, g1, g2, g3⟩ := h2
      refine ⟨a, rfl, thin_free S.f0 g1, g2, ?_⟩
      cases d <;> first | (cases e2; done) | skip
      · obtain ⟨xs, g4, g5⟩ := g3
        exact ⟨xs, keep a _ g4 (fun _ => g1), lit_all (by simpa [litB, scrB] using e2) g5⟩
      · exact keep a _ g3 (fun _ => g1)
theorem SX.init (S : SD K W F H σ δ) : SX K W m F H σ δ := ⟨H, S, fun b => .inl rfl⟩
theorem SX.change {m' : Nat} {a : Addr} {ys zs : List V} (S : SX K W m F H σ δ) (hF : F a = some (.lst ys)) (h0 : W.H0 a = none) (hz : zs.length ≤ m') (hm : m ≤ m') : SX K W m' F (upd H a (.lst zs)) σ δ := by
  obtain ⟨Ho, S, hb⟩ := S.ex
  refine ⟨Ho, S, fun b => ?_⟩
  by_cases e : b = a
  · subst e
    exact .inr ⟨h0, ⟨ys, hF⟩, zs, upd_same, hz⟩
  · rw [upd_ne e]
    rcases hb b with z | ⟨z1, z2, zs', z3, z4⟩
    · exact .inl z
    · exact .inr ⟨z1, z2, zs', z3, Nat.le_trans z4 hm⟩
theorem SX.item {i : Nat} {ds d1 : List D} {k : Int} (S : SX K W m F H σ δ) (hi : δ[i]? = some (some (.n ds))) (hk : atI ds k = some (.lst d1)) (hl : d1.length ≤ m) :
    ∃ t xs a zs ys, σ[i]? = some (some (.ref t)) ∧ SqT K H t xs ∧ atI xs k = some (.ref a) ∧ H a = some (.lst zs) ∧ zs.length ≤ m ∧ F a = some (.lst ys) ∧ W.H0 a = none := by
  obtain ⟨Ho, S, hb⟩ := S.ex
  obtain ⟨v, e1, t, xs, rfl, h2, h3, h4⟩ := S.get i _ hi
  obtain ⟨v, h5, h6⟩ := rpL_atI h3 hk
  obtain ⟨a, ys, rfl, h7, h8⟩ := rpLst h6
  have hmem : V.ref a ∈ xs := by
    unfold atI at h5
    cases q : ixN xs.length k with
    | none =>
      rw [q] at h5
      cases h5
    | some j =>
      rw [q] at h5
      exact List.mem_of_getElem? h5
  have tk : ∀ o, F t = some o → (∀ ys, o ≠ .lst ys) → H t = some o := fun o e n => by
    rcases hb t with z | ⟨_, ⟨ys, z⟩, _⟩
    · exact z.trans (S.fh _ _ e)
    · rw [e] at z
      exact absurd (Option.some.inj z) (n ys)
  have hq : SqT K H t xs := by
    rcases h2 with (g | ⟨o, g⟩) | g
    · exact .inl (.inl (tk _ g fun ys z => by cases z))
    · exact .inl (.inr ⟨o, tk _ g fun ys z => by cases z⟩)
    · exact .inr g
  rcases hb a with z | ⟨_, _, zs, z3, z4⟩
  · exact ⟨t, xs, a, ys, ys, e1, hq, h5, z.trans (S.fh _ _ h7), by rw [h8.length]; exact hl, h7, (h4 a hmem).2⟩
  · exact ⟨t, xs, a, zs, ys, e1, hq, h5, z3, z4, h7, (h4 a hmem).2⟩
end
/-- a statement that changes item k of the tuple in slot i -/
def Spoils (X : Cx) (i : Nat) (k : Int) (st : Stmt) : Prop := ∀ (W : Fix) (m : Nat) (F H : Hp) (σ : L2.St) (δ : Env') (ds d1 : List D), SX X.K W m F H σ δ → δ[i]? = some (some (.n ds)) → atI ds k = some (.lst d1) → d1.length ≤ m → m + 1 ≤ sizeLine →
  cS X st { nx := fun σ' H' => σ' = σ ∧ SX X.K W (m + 1) F H' σ δ, rt := fun _ _ => False } σ H
section
variable {X : Cx} {x : Str} {i : Nat} {k : Int} {e : Expr} {c : V} {p p1 p2 apos cpos pos : Pos} {j : Nat}
theorem sp_append (hN : X.N[i]? = some x) (hv : Vis X.env.scope x) (he : PE X e (tC c)) (hd : (x == ("__debug__" : Str)) = false := by decide) (hcd : (x == ("__classdict__" : Str)) = false := by decide)
    (hpe : ∀ (o : TE) (ta : TE), PE X (.Subscript (.Name x p) (.Constant (.int k) j p1) p2) o → PE X e ta → PE X (.Call (.Attribute (.Subscript (.Name x p) (.Constant (.int k) j p1) p2) "append" apos) [e] [] cpos) (tBM X.K "list" rAppend o (tCons ta tNil)))
    (hs : swapsWith (.Call (.Attribute (.Subscript (.Name x p) (.Constant (.int k) j p1) p2) "append" apos) [e] [] cpos) none pos.line X.env = pure false := by rfl) :
    Spoils X i k (.Expr (.Call (.Attribute (.Subscript (.Name x p) (.Constant (.int k) j p1) p2) "append" apos) [e] [] cpos) pos) := by
  intro W m F H σ δ ds d1 S hi hk hl hm
  obtain ⟨t, xs, a, zs, ys, e1, hq, h5, h6, h7, h8, h9⟩ := S.item hi hk hl
  refine cS_of (ps_expr (hpe _ _ (pe_ix ix_seq (pe_var hN hv hd hcd) pe_int (fun _ _ => rfl)) he) hs) ?_
  refine ⟨_, e1, .inr (.inl ⟨t, xs, k, .ref a, rfl, rfl, hq, h5, ?_⟩)⟩
  refine ⟨.inl ⟨rfl, zs, SqL.of h6⟩, a, zs, c, rfl, rfl, h6, by omega, rfl, S.change h8 h9 ?_ (Nat.le_succ m)⟩
  rw [List.length_append, List.length_singleton]
  omega
theorem sp_clear (hN : X.N[i]? = some x) (hv : Vis X.env.scope x) (hd : (x == ("__debug__" : Str)) = false := by decide) (hcd : (x == ("__classdict__" : Str)) = false := by decide)
    (hpe : ∀ (o : TE), PE X (.Subscript (.Name x p) (.Constant (.int k) j p1) p2) o → PE X (.Call (.Attribute (.Subscript (.Name x p) (.Constant (.int k) j p1) p2) "clear" apos) [] [] cpos) (tBM0 X.K "list" rClear o))
    (hs : swapsWith (.Call (.Attribute (.Subscript (.Name x p) (.Constant (.int k) j p1) p2) "clear" apos) [] [] cpos) none pos.line X.env = pure false := by rfl) :
    Spoils X i k (.Expr (.Call (.Attribute (.Subscript (.Name x p) (.Constant (.int k) j p1) p2) "clear" apos) [] [] cpos) pos) := by
  intro W m F H σ δ ds d1 S hi hk hl hm
  obtain ⟨t, xs, a, zs, ys, e1, hq, h5, h6, h7, h8, h9⟩ := S.item hi hk hl
  refine cS_of (ps_expr (hpe _ (pe_ix ix_seq (pe_var hN hv hd hcd) pe_int (fun _ _ => rfl))) hs) ?_
  refine ⟨_, e1, .inr (.inl ⟨t, xs, k, .ref a, rfl, rfl, hq, h5, ?_⟩)⟩
  exact ⟨.inl ⟨rfl, zs, SqL.of h6⟩, a, zs, rfl, rfl, h6, rfl, S.change h8 h9 (Nat.zero_le _) (Nat.le_succ m)⟩
variable {W : Fix} {k' : Int} {s1 s2 : Stmt} {rest : List Stmt} {u : TSD}
def dSpoil (i : Nat) (k k' : Int) (u : TSD) : TSD := fun Z δ => ∃ ds d1 d2, δ[i]? = some (some (.n ds)) ∧ atI ds k = some (.lst d1) ∧ atI ds k' = some (.lst d2) ∧ d1.length + 2 ≤ sizeLine ∧ d2.length + 2 ≤ sizeLine ∧ u Z (litE δ)
theorem dss_spoil (hW : Same W.F0 W.H0) (h1 : Spoils X i k s1) (h2 : Spoils X i k' s2) (hr : DSs X W rest u) : DSs X W (s1 :: s2 :: rest) (dSpoil i k k' u) := by
  refine ⟨fun F H σ δ Z S q pins s I => ?_⟩
  obtain ⟨ds, d1, d2, hi, ha, hb, l1, l2, q⟩ := q
  have hm : ∃ m, d1.length ≤ m ∧ d2.length ≤ m ∧ m + 2 ≤ sizeLine := ⟨max d1.length d2.length, Nat.le_max_left .., Nat.le_max_right .., by omega⟩
  obtain ⟨m, m1, m2, m3⟩ := hm
  refine (pss_cons (X := X) cS_ps (pss_cons cS_ps cSs_pss)).run pins s σ H _ I ?_
  refine (h1 W m F H σ δ ds d1 (.init S) hi ha m1 (by omega)).imp (fun σ1 H1 z => ?_) (fun _ _ z => z.elim) (fun _ _ z => z.elim) fun _ _ z => z.elim
  obtain ⟨rfl, S1⟩ := z
  refine (h2 W (m + 1) F H1 _ δ ds d2 S1 hi hb (by omega) (by omega)).imp (fun σ2 H2 z => ?_) (fun _ _ z => z.elim) (fun _ _ z => z.elim) fun _ _ z => z.elim
  obtain ⟨rfl, S2⟩ := z
  exact hr.run (thin W.F0 F) _ _ (litE δ) Z (S2.done hW) q
end
end DD

set_option Elab.async false
set_option linter.all false
set_option maxRecDepth 100000
set_option maxHeartbeats 4000000
/-! DD12: enumerate over data. -/
namespace DD
open PySem PySem.Spec PyProof.Rows L2

/-- enumerate(x), x a text -/
def Itx (x : Str) : It :=
  ⟨fun i _ => i < x.cps.size, fun i H v H' => ∃ T c, v = .ref T ∧ H T = none ∧ H' = upd H T (.tup [.int (i : Nat), .str ⟨#[c]⟩]) ∧ x.cps[i]? = some c, fun i _ => x.cps.size ≤ i⟩
theorem draws_str {prog : Program} {w : World} {A : Around} (hh : A.handled = none) (it : Addr) (x : Str) (t : Tok) :
    Draws prog w A it [it] x.cps.size (fun i v => ∃ c u, x.cps[i]? = some c ∧ v = .str ⟨#[c]⟩ u) (fun i h => h.IsStrIter it (strIterType x) x t i) := by
  unfold strIterType
  split
  · exact Draws.strAscii hh it x t
  · exact Draws.strWide hh it x t
theorem draws_end {prog : Program} {w : World} {A : Around} (hh : A.handled = none) (it : Addr) (x : Str) (t : Tok) (i : Nat) (hi : x.cps.size ≤ i) :
    Draws prog w A it [it] i (fun _ _ => False) (fun j h => j = i ∧ h.IsStrIter it (strIterType x) x t i) where
  live := fun _ _ st => by
    obtain ⟨_, o, ho, _⟩ := st
    exact ⟨o, ho⟩
  frame := fun _ _ _ st hk => by
    obtain ⟨e, o, ho, r⟩ := st
    exact ⟨e, o, hk it (by simp) o ho, r⟩
  item := fun j s Q E hj st hQ => absurd st.1 (Nat.ne_of_lt hj)
  done := fun s Q E st hE => by
    obtain ⟨_, st⟩ := st
    have hn : x.cps[i]? = none := by simpa using hi
    unfold strIterType at st
    split at st
    · exact wpAny_nextOf_ascii_end hh st hn hE
    · exact wpAny_nextOf_wide_end hh st hn hE
theorem turn_enumT {P : Program} {w : World} {K : PySem.W.Frag} {elts : List Expr} {kk : Nat} {tpos : Pos} (x : Str) (t : Tok) (e it : Addr) :
    Turn P w K (.Tuple elts kk tpos) (Itx x) [e, it] e (fun i h => (∃ old, IsEnum h e it ((i : Nat) : Int) old) ∧ h.IsStrIter it (strIterType x) x t i ∧ e ≠ it) where
  mem := by simp
  obj := fun i h st b hb => by
    obtain ⟨⟨old, he⟩, ⟨o, ho, hc, hd⟩, _⟩ := st
    have e' : b = e ∨ b = it := by simpa using hb
    rcases e' with z | z
    · rw [z]
      exact ⟨_, he, fun v q => nomatch q⟩
    · rw [z]
      exact ⟨o, ho, fun v q => by rw [hd] at q; cases q⟩
  keep := fun i h h' st k => by
    obtain ⟨⟨old, he⟩, ⟨o, ho, r⟩, hne⟩ := st
    exact ⟨⟨old, k e (by simp) _ he⟩, ⟨o, k it (by simp) o ho, r⟩, hne⟩
  item := by
    intro X hP hw hK hc i pins s σ H E I hf st hg
    subst hP hw hK
    obtain ⟨⟨old, he⟩, hit, hne⟩ := st
    have hel : e < s.heap.objs.size := Heap.lt_size he
    have hil : it < s.heap.objs.size := by
      obtain ⟨_, q, _⟩ := hit
      exact Heap.lt_size q
    refine wpAny_pyNext_enum_itemD (draws_str (show X.A.in1.handled = none from I.ok.hd hc) it x t) he hit hg hne (by simpa using hne) fun v h' tk hP ho hit' hT hsz hk => ?_
    obtain ⟨c, u, hx, rfl⟩ := hP
    refine ⟨_, rfl, wpAny_letOwnedTupleGo_enum (s := { s with heap := h', toks := tk + 1 }) ho fun h'' he' sb => ?_⟩
    have hT2 : h''.get? s.heap.objs.size = some { cls := .type "tuple", data := .seq #[.int i tk, .str ⟨#[c]⟩ u] } := (sb.2 _ (Nat.ne_of_gt hel)).trans hT
    have new : ObjOk X.prog X.w (upd H s.heap.objs.size (.tup [.int (i : Nat), .str ⟨#[c]⟩])) h'' s.heap.objs.size (.tup [.int (i : Nat), .str ⟨#[c]⟩]) :=
      ⟨by show 2 ≤ sizeLine; decide, [.int i tk, .str ⟨#[c]⟩ u], .cons ⟨_, rfl⟩ (.cons ⟨u, rfl⟩ .nil), ⟨_, hT2, rfl, _, rfl⟩⟩
    have I1 : Inv X pins σ (upd H s.heap.objs.size (.tup [.int (i : Nat), .str ⟨#[c]⟩])) { s with heap := h'', toks := tk + 1 } :=
      I.turnedNew (ch := [e, it]) (fun b ob hb q => (sb.2 b (fun z => hb (by simp [z]))).trans (hk b ob (fun z => hb (by simp [z])) (fun z => hb (by simp [z])) q)) hf (Nat.le_refl _) new
    refine ⟨.ref s.heap.objs.size, _, I1, rfl, ⟨_, c, rfl, I.hok.fresh (Nat.le_refl _), rfl, hx⟩, ⟨⟨.str ⟨#[c]⟩ u, ?_⟩, ?_, hne⟩, fun b hb => ?_⟩
    · have e1 : ((i + 1 : Nat) : Int) = (i : Int) + 1 := by omega
      rw [e1]
      exact he'
    · obtain ⟨o, q, r⟩ := hit'
      exact ⟨o, (sb.2 it (Ne.symm hne)).trans q, r⟩
    · have hb' : b < s.heap.objs.size := by
        have e' : b = e ∨ b = it := by simpa using hb
        rcases e' with z | z
        · rw [z]
          exact hel
        · rw [z]
          exact hil
      rw [upd_ne (Nat.ne_of_lt hb')]
      exact (hf b hb).1
  done := by
    intro X hP hw hK hc i pins s σ H E I hf st hg
    subst hP hw hK
    obtain ⟨⟨old, he⟩, hit, hne⟩ := st
    obtain ⟨f0, f1, f2, f3, f4, f5⟩ := hf it (by simp)
    exact wpAny_pyNext_enum_endD (draws_end (show X.A.in1.handled = none from I.ok.hd hc) it x t i hg) he ⟨rfl, hit⟩ fun h' eb => ⟨rfl, I.turned (t' := s.toks) (fun b o hb q => eb b o hb q) f0 f1 f3 f4 f5⟩
  self := fun A i s Q E st h => let ⟨⟨_, he⟩, _⟩ := st; wpAny_pyIter_enum he h

/-- the items with their places -/
def enumD : Nat → List D → List D
  | _, [] => []
  | k, d :: ds => .tup [.int (k : Nat), d] :: enumD (k + 1) ds
theorem enumD_get : ∀ {ds : List D} {k i : Nat}, (enumD k ds)[i]? = (ds[i]?).map fun d => .tup [.int ((k + i : Nat) : Int), d]
  | [], _, _ => by simp [enumD]
  | d :: ds, k, 0 => by simp [enumD]
  | d :: ds, k, i + 1 => by
    show (enumD (k + 1) ds)[i]? = _
    rw [enumD_get, List.getElem?_cons_succ]
    have e : k + 1 + i = k + (i + 1) := by omega
    rw [e]
theorem enumD_len : ∀ {ds : List D} {k : Nat}, (enumD k ds).length = ds.length
  | [], _ => rfl
  | d :: ds, k => by
    show (enumD (k + 1) ds).length + 1 = _
    rw [enumD_len]
    rfl
theorem yield_new {K : PySem.W.Frag} {W : Fix} {F H : Hp} {σ : L2.St} {δ : Env'} {T : Addr} {i : Nat} {x : V} {d : D} (S : SD K W F H σ δ) (hT : H T = none) (r : Rp K F d x) :
    ∃ F'', Same F F'' ∧ SD K W F'' (upd H T (.tup [.int (i : Nat), x])) σ δ ∧ Rp K F'' (.tup [.int (i : Nat), d]) (.ref T) ∧ ∀ b o, H b = some o → (upd H T (.tup [.int (i : Nat), x])) b = some o := by
  have e := same_upd (o := .tup [.int (i : Nat), x]) (S.freshF hT)
  refine ⟨_, e, S.new hT, ?_, same_upd hT⟩
  unfold Rp
  exact ⟨T, _, rfl, .inl (.inl upd_same), .cons (by unfold Rp; rfl) (.cons (Rp.mono e _ _ r) .nil)⟩
theorem yields_enumT {K : PySem.W.Frag} {F : Hp} {x : Str} : Yields K F (Itx x) (enumD 0 (signs x)) := by
  intro W F' H' σ δ i S e
  have hs : (signs x)[i]? = (x.cps[i]?).map fun c => D.str ⟨#[c]⟩ := by
    unfold signs
    rw [List.getElem?_map, Array.getElem?_toList]
  refine ⟨fun d hd => ?_, fun hn => ?_⟩
  · rw [enumD_get, hs] at hd
    cases hc : x.cps[i]? with
    | none =>
      rw [hc] at hd
      cases hd
    | some c =>
      rw [hc] at hd
      have hi : i < x.cps.size := (Array.getElem?_eq_some_iff.mp hc).1
      refine ⟨hi, fun y H'' hy => ?_⟩
      obtain ⟨T, c', rfl, hT, rfl, hc'⟩ := hy
      rw [hc] at hc'
      cases hc'
      have hd : some (D.tup [.int ((0 + i : Nat) : Int), .str ⟨#[c]⟩]) = some d := hd
      cases hd
      rw [Nat.zero_add]
      exact yield_new S hT (by unfold Rp; rfl)
  · have := List.getElem?_eq_none_iff.mp hn
    rw [enumD_len] at this
    unfold signs at this
    rw [List.length_map, Array.length_toList] at this
    exact this
theorem yields_enumL {K : PySem.W.Frag} {F : Hp} {a : Addr} {xs : List V} {ds : List D} (h : F a = some (.lst xs)) (r : RpL K F ds xs) : Yields K F (Ite K a) (enumD 0 ds) := by
  intro W F' H' σ δ i S e
  have h1 : SqL K H' a xs := SqL.of (S.fh _ _ (e _ _ h))
  refine ⟨fun d hd => ?_, fun hn => ?_⟩
  · rw [enumD_get] at hd
    cases hc : ds[i]? with
    | none =>
      rw [hc] at hd
      cases hd
    | some d0 =>
      rw [hc] at hd
      have hd : some (D.tup [.int ((0 + i : Nat) : Int), d0]) = some d := hd
      cases hd
      obtain ⟨x, hx, rx⟩ := r.get hc
      refine ⟨⟨xs, x, h1, hx⟩, fun y H'' hy => ?_⟩
      obtain ⟨T, x', rfl, hT, rfl, hy⟩ := hy
      have := hy xs h1
      rw [hx] at this
      cases this
      rw [Nat.zero_add]
      exact yield_new S hT (Rp.mono e _ _ rx)
  · refine ⟨xs, h1, ?_⟩
    have := List.getElem?_eq_none_iff.mp hn
    rw [enumD_len] at this
    rw [r.length]
    exact this
/-- enumerate(e): a text or a list -/
def tEnum (K : PySem.W.Frag) (ta : TA) : TI := fun σ H R => ta σ H fun vs H1 => (∃ x, vs = [.str x] ∧ R (Itx x) H1) ∨ ∃ a xs, vs = [.ref a] ∧ SqL K H1 a xs ∧ R (Ite K a) H1
theorem pi_enumA {X : Cx} {e : Expr} {ta : TA} {p pos tpos : Pos} {elts : List Expr} {kk : Nat} (hg : Gl X "enumerate") (hm : X.mg "enumerate" = none) (ha : PA X [e] ta) (hs : starEach [e] X.env = [(false, eval e X.env)] := by rfl) :
    PI X (.Tuple elts kk tpos) (.Call (.Name "enumerate" p) [e] [] pos) (tEnum X.K ta) := by
  refine ⟨fun pins s σ H R I h => ?_⟩
  refine Call_ (ld_blt I hg hm boot_enumerate (PyProof.Rows.callWith_type1 (thn (ha.run pos pins s σ H _ I h) fun us s1 ⟨vs, H1, I1, r1, q1⟩ => ?_) hs rfl))
  have fp2 : ∀ b ∈ [s1.heap.objs.size + 1, s1.heap.objs.size], s1.heap.objs.size ≤ b := fun b hb => by
    have e' : b = s1.heap.objs.size + 1 ∨ b = s1.heap.objs.size := by simpa using hb
    rcases e' with z | z
    · rw [z]
      exact Nat.le_succ _
    · rw [z]
      exact Nat.le_refl _
  rcases q1 with ⟨x, rfl, q⟩ | ⟨a, xs, rfl, hq, q⟩
  · cases r1 with
    | cons r rr =>
      cases rr
      obtain ⟨t, rfl⟩ := r
      refine call_enumerate_str fun h' he hit hsz hk => wpAny_pyIter_enum he ?_
      have I2 : Inv X pins σ H1 { s1 with heap := h' } := I1.kept (t' := s1.toks) hk
      exact ⟨s1.heap.objs.size + 1, [s1.heap.objs.size + 1, s1.heap.objs.size], _, _, H1, rfl, I2, turn_enumT x t (s1.heap.objs.size + 1) s1.heap.objs.size, ⟨⟨.none, he⟩, hit, Nat.succ_ne_self _⟩, fun b hb => I1.fpOk (fp2 b hb) (I1.hok.fresh (fp2 b hb)), q⟩
  · cases r1 with
    | cons r rr =>
      cases rr
      cases r
      obtain ⟨its, rv, p', hz⟩ := I1.list hq
      refine call_enumerate_list p'.isList fun h' he hit hsz hk => wpAny_pyIter_enum he ?_
      have I2 : Inv X pins σ H1 { s1 with heap := h' } := I1.kept (t' := s1.toks) hk
      exact ⟨s1.heap.objs.size + 1, [s1.heap.objs.size + 1, s1.heap.objs.size], _, _, H1, rfl, I2, turn_enum a (s1.heap.objs.size + 1) s1.heap.objs.size, ⟨⟨.none, he⟩, hit, Nat.succ_ne_self _⟩, fun b hb => I1.fpOk (fp2 b hb) (I1.hok.fresh (fp2 b hb)), q⟩
def iEnumD (t : TDA) : TDI := fun δ Q => t δ fun ds δ1 => (∃ x, ds = [.str x] ∧ Q (enumD 0 (signs x)) δ1) ∨ ∃ es, ds = [.lst es] ∧ Q (enumD 0 es) δ1
theorem di_enum {X : Cx} {W : Fix} {e : Expr} {t : TDA} {p pos tpos : Pos} {elts : List Expr} {kk : Nat} (hg : Gl X "enumerate") (hm : X.mg "enumerate" = none) (h : DA X W [e] t) (hs : starEach [e] X.env = [(false, eval e X.env)] := by rfl) :
    DI X W (.Tuple elts kk tpos) (.Call (.Name "enumerate" p) [e] [] pos) (iEnumD t) := by
  refine ⟨fun F H σ δ Q S q pins s I => (pi_enumA (X := X) (ta := cA X [e]) hg hm cA_pa hs).run pins s σ H _ I ?_⟩
  refine (h.run F H σ δ _ S q).imp fun vs H1 h1 => ?_
  obtain ⟨F1, ds, δ1, e1, S1, r1, q1⟩ := h1
  rcases q1 with ⟨x, rfl, q1⟩ | ⟨es, rfl, q1⟩
  · obtain ⟨v, rfl, rv⟩ := rpL1 r1
    exact .inl ⟨x, by rw [rpStr rv], F1, _, δ1, e1, S1, yields_enumT, q1⟩
  · obtain ⟨v, rfl, rv⟩ := rpL1 r1
    obtain ⟨a, xs, rfl, h2, h3⟩ := rpLst rv
    exact .inr ⟨a, xs, rfl, SqL.of (S1.fh _ _ h2), F1, _, δ1, e1, S1, yields_enumL h2 h3, q1⟩
end DD

set_option Elab.async false
set_option linter.all false
set_option maxRecDepth 100000
set_option maxHeartbeats 4000000
/-! DD13: several new objects at once: a, b = x, y; a dict of one pair. -/
namespace DD
open PySem PySem.Spec PyProof.Rows L2

/-- values with what is known of them; what is one's own is nobody else's -/
structure BsAt (K : PySem.W.Frag) (W : Fix) (F H : Hp) (σ : L2.St) (δ : Env') (bs : List B) (vs : List V) : Prop where
  rb : Paired (RB K W F H) bs vs
  off : ∀ (i : Nat) (b : B) (v : V), bs[i]? = some b → vs[i]? = some v → b.own = true → ∀ (j : Nat) (c : B), δ[j]? = some (some c) → c.own = true → σ[j]? ≠ some (some v)
  sep : ∀ (i j : Nat) (b c : B) (v : V), i ≠ j → bs[i]? = some b → b.own = true → bs[j]? = some c → c.own = true → vs[i]? = some v → vs[j]? ≠ some v
  noU : ∀ b ∈ bs, b.isU = false
def BQ (K : PySem.W.Frag) (W : Fix) (F : Hp) (σ : L2.St) (Q : List B → Env' → Prop) : List V → Hp → Prop := fun vs H' =>
  ∃ (F' : Hp) (bs : List B) (δ' : Env'), Same F F' ∧ SD K W F' H' σ δ' ∧ BsAt K W F' H' σ δ' bs vs ∧ Q bs δ'
abbrev TDB := Env' → (List B → Env' → Prop) → Prop
structure DB (X : Cx) (es : List Expr) (t : TDB) : Prop where
  run : ∀ (W : Fix) (F H : Hp) (σ : L2.St) (δ : Env') (Q : List B → Env' → Prop), SD X.K W F H σ δ → t δ Q → cA X es σ H (BQ X.K W F σ Q)
def bNil : TDB := fun δ Q => Q [] δ
def bCons (te : TD) (t : TDB) : TDB := fun δ Q => te δ fun b δ1 => b.isU = false ∧ t δ1 fun bs δ2 => Q (b :: bs) δ2
section
variable {X : Cx} {W : Fix} {e : Expr} {es : List Expr} {te : TD} {t : TDB}
theorem db_nil : DB X [] bNil := ⟨fun W F H σ δ Q S q pos pins s I => (pa_nil (X := X)).run pos pins s σ H _ I
  ⟨F, [], δ, Same.refl F, S, ⟨.nil, fun i b v h => by simp at h, fun i j b c v _ h => by simp at h, fun b h => by simp at h⟩, q⟩⟩
theorem RB.mono1 {K : PySem.W.Frag} {F F' H H' : Hp} {b : B} {v : V} (h : RB K W F H b v) (hb : b.own = false) (e : Same F F') : RB K W F' H' b v :=
  h.keep e (fun a o _ z => by rw [hb] at z; cases z) (fun a _ z => by rw [hb] at z; cases z)
theorem BsAt.cons {K : PySem.W.Frag} {F H : Hp} {σ : L2.St} {δ : Env'} {b : B} {v : V} {bs : List B} {vs : List V} (T : BsAt K W F H σ δ bs vs) (r : RB K W F H b v) (hu : b.isU = false)
    (ho : b.own = true → ∀ (j : Nat) (c : B), δ[j]? = some (some c) → c.own = true → σ[j]? ≠ some (some v)) (hs : b.own = true → ∀ (j : Nat) (c : B), bs[j]? = some c → c.own = true → vs[j]? ≠ some v) : BsAt K W F H σ δ (b :: bs) (v :: vs) where
  rb := .cons r T.rb
  off := fun i c u h1 h2 h3 => by
    cases i with
    | zero =>
      simp at h1 h2
      subst h1 h2
      exact ho h3
    | succ i => exact T.off i c u (by simpa using h1) (by simpa using h2) h3
  sep := fun i j c d u ne h1 h2 h3 h4 h5 => by
    cases i with
    | zero =>
      cases j with
      | zero => exact absurd rfl ne
      | succ j =>
        simp at h1 h5
        subst h1 h5
        rw [List.getElem?_cons_succ] at h3 ⊢
        exact hs h2 j d h3 h4
    | succ i =>
      cases j with
      | zero =>
        simp at h3
        subst h3
        rw [List.getElem?_cons_succ] at h1 h5
        intro z
        simp at z
        subst z
        exact hs h4 i c h1 h2 h5
      | succ j =>
        rw [List.getElem?_cons_succ] at h1 h3 h5 ⊢
        exact T.sep i j c d u (by omega) h1 h2 h3 h4 h5
  noU := fun c hc => by
    rcases List.mem_cons.mp hc with z | z
    · rw [z]
      exact hu
    · exact T.noU c z
theorem RB.unhold {K : PySem.W.Frag} {F H : Hp} {a : Addr} {o : HO} {b : B} {v : V} (r : RB K (W.hold a o) F H b v) (hu : b.isU = false) (hF : F a = none) : RB K W F H b v ∧ (b.own = true → v ≠ .ref a) := by
  cases b with
  | p d => exact ⟨r, fun z => by cases z⟩
  | u w n => cases hu
  | n ds =>
    obtain ⟨t, xs, h1, h2, h3, h4⟩ := r
    refine ⟨⟨t, xs, h1, h2, h3, fun c hc => ?_⟩, fun z => by cases z⟩
    obtain ⟨⟨ys, h5⟩, h6⟩ := h4 c hc
    have q : c ≠ a := fun z => by
      rw [z, hF] at h5
      cases h5
    have h6 : upd W.H0 a o c = none := h6
    rw [upd_ne q] at h6
    exact ⟨⟨ys, h5⟩, h6⟩
  | o d =>
    obtain ⟨c, rfl, h1, h2, h3⟩ := r
    have h2 : upd W.H0 a o c = none := h2
    have q : c ≠ a := fun z => by
      rw [z, upd_same] at h2
      cases h2
    rw [upd_ne q] at h2
    exact ⟨⟨c, rfl, h1, h2, h3⟩, fun _ z => q (V.ref.inj z)⟩
theorem db_cons (h : ∀ W, DE X W e te) (g : DB X es t) (hs : starEach (e :: es) X.env = (false, eval e X.env) :: starEach es X.env := by rfl) : DB X (e :: es) (bCons te t) := by
  refine ⟨fun W F H σ δ Q S q pos pins s I => (pa_cons (X := X) cE_pe cA_pa hs).run pos pins s σ H _ I ?_⟩
  refine ((h W).run F H σ δ _ S q).imp fun v H1 h1 => ?_
  obtain ⟨F1, b, δ1, e1, S1, r1, s1, hu, q1⟩ := h1
  by_cases hb : b.own = true
  · obtain ⟨d, rfl⟩ := own_noU hu hb
    obtain ⟨a, rfl, hF, h0, hO⟩ := r1
    obtain ⟨o, ho⟩ := hO.some
    have hP : W.P ≠ some a := fun z => by
      obtain ⟨_, _, o', z2⟩ := S1.fp a z
      rw [h0] at z2
      cases z2
    have Sh := S1.held ho h0 hF hP (s1 rfl)
    refine (g.run (W.hold a o) F1 H1 σ δ1 _ Sh q1).imp fun vs H2 h2 => ?_
    obtain ⟨F2, bs, δ2, e2, S2, T, q2⟩ := h2
    have hF0 : W.F0 a = none := S1.f0.free hF
    obtain ⟨S3, h3, hF2, hn⟩ := S2.unheld h0 hF0 hP
    have rr : ∀ {bs : List B} {vs : List V}, Paired (RB X.K (W.hold a o) F2 H2) bs vs → (∀ b ∈ bs, b.isU = false) → Paired (RB X.K W F2 H2) bs vs ∧ ∀ (j : Nat) (c : B), bs[j]? = some c → c.own = true → vs[j]? ≠ some (V.ref a) := by
      intro bs vs r
      induction r with
      | nil => exact fun _ => ⟨.nil, fun j c z => by simp at z⟩
      | @cons b v bs vs r rs ih =>
        intro hz
        obtain ⟨g1, g2⟩ := r.unhold (hz b List.mem_cons_self) hF2
        obtain ⟨g3, g4⟩ := ih fun c hc => hz c (List.mem_cons_of_mem _ hc)
        refine ⟨.cons g1 g3, fun j c z1 z2 => ?_⟩
        cases j with
        | zero =>
          simp at z1
          subst z1
          intro z
          simp at z
          exact g2 z2 z
        | succ j =>
          rw [List.getElem?_cons_succ] at z1 ⊢
          exact g4 j c z1 z2
    obtain ⟨g1, g2⟩ := rr T.rb T.noU
    have T' : BsAt X.K W F2 H2 σ δ2 bs vs := ⟨g1, T.off, T.sep, T.noU⟩
    have hO2 : Own X.K F2 H2 d a := by
      cases d <;> first | exact hO.elim | skip
      · obtain ⟨xs, z1, z2⟩ := hO
        rw [ho] at z1
        cases z1
        exact ⟨xs, h3, RpL.mono e2 _ _ z2⟩
      · obtain ⟨xs, z1, z2, z3⟩ := hO
        rw [ho] at z1
        cases z1
        exact ⟨xs, h3, RpL.mono e2 _ _ z2, z3⟩
      · have z1 : H1 a = some (.set _ _) := hO
        rw [ho] at z1
        cases z1
        exact h3
    exact ⟨F2, .o d :: bs, δ2, e1.trans e2, S3, T'.cons ⟨a, rfl, hF2, h0, hO2⟩ rfl (fun _ => hn) (fun _ => g2), q2⟩
  · have hb : b.own = false := by simpa using hb
    refine (g.run W F1 H1 σ δ1 _ S1 q1).imp fun vs H2 h2 => ?_
    obtain ⟨F2, bs, δ2, e2, S2, T, q2⟩ := h2
    exact ⟨F2, b :: bs, δ2, e1.trans e2, S2, T.cons (r1.mono1 hb e2) hu (fun z => by rw [hb] at z; cases z) (fun z => by rw [hb] at z; cases z), q2⟩
end

/-! ### a, b = x, y -/
section
variable {X : Cx} {W : Fix} {t : TDB}
theorem SD.puts {K : PySem.W.Frag} {F H : Hp} {σ : L2.St} {δ : Env'} {is : List Nat} : ∀ {bs : List B} {vs : List V} {ns : List Nat}, ns.Nodup → ns.length = bs.length → SD K W F H σ δ → BsAt K W F H σ δ bs vs →
    ∃ σ' δ', σ' = (ns.zip vs).foldl (fun τ p => τ.set p.1 (some p.2)) σ ∧ δ' = (ns.zip bs).foldl (fun ε p => ε.set p.1 (some p.2)) δ ∧ SD K W F H σ' δ' := by
  suffices h : ∀ (bs : List B) (vs : List V) (ns : List Nat) (σ : L2.St) (δ : Env'), ns.Nodup → ns.length = bs.length → SD K W F H σ δ → BsAt K W F H σ δ bs vs →
      SD K W F H ((ns.zip vs).foldl (fun τ p => τ.set p.1 (some p.2)) σ) ((ns.zip bs).foldl (fun ε p => ε.set p.1 (some p.2)) δ) by
    intro bs vs ns hn hl S T
    exact ⟨_, _, rfl, rfl, h bs vs ns σ δ hn hl S T⟩
  intro bs
  induction bs with
  | nil =>
    intro vs ns σ δ hn hl S T
    have e : ns = [] := List.length_eq_zero_iff.mp hl
    subst e
    exact S
  | cons b bs ih =>
    intro vs ns σ δ hn hl S T
    cases ns with
    | nil => cases hl
    | cons n ns =>
      obtain ⟨rb, off, sep, nu⟩ := T
      cases rb with
      | @cons _ v _ vs r rs =>
        have nd := List.nodup_cons.mp hn
        refine ih vs ns _ _ nd.2 (by simpa using hl) (S.put (i := n) r fun hb j c h1 h2 _ => off 0 b v rfl rfl hb j c h1 h2) ⟨rs, fun i c u h1 h2 h3 j c' h4 h5 h6 => ?_, fun i j c d u ne h1 h2 h3 h4 h5 => ?_, fun c hc => nu c (List.mem_cons_of_mem _ hc)⟩
        · by_cases ej : j = n
          · subst ej
            have hlj : j < δ.length := by
              have := (List.getElem?_eq_some_iff.mp h4).1
              rw [List.length_set] at this
              exact this
            rw [List.getElem?_set_self hlj] at h4
            cases h4
            rw [List.getElem?_set_self (by rw [S.len]; exact hlj)] at h6
            cases h6
            exact sep 0 (i + 1) b c v (by omega) rfl h5 (by simpa using h1) h3 rfl (by simpa using h2)
          · rw [List.getElem?_set_ne (Ne.symm ej)] at h4 h6
            exact off (i + 1) c u (by simpa using h1) (by simpa using h2) h3 j c' h4 h5 h6
        · exact fun h6 => sep (i + 1) (j + 1) c d u (by omega) (by simpa using h1) h2 (by simpa using h3) h4 (by simpa using h5) (by simpa using h6)
def dPar (ns : List Nat) (t : TDB) : TSD := fun Z δ => t δ fun bs δ1 => bs.length = ns.length ∧ Z.nx ((ns.zip bs).foldl (fun ε p => ε.set p.1 (some p.2)) δ1)
theorem ds_par {i j : Nat} {x y : Str} {a b : Expr} {px py pt pos : Pos} {kt k2 : Nat} {pt2 : Pos} (hc : X.calm = true) (hN : X.N.Nodup) (hi : X.N[i]? = some x) (hj : X.N[j]? = some y) (hij : i ≠ j)
    (hx : X.env.scope.names.lookup x = some .local) (hy : X.env.scope.names.lookup y = some .local) (h : DB X [a, b] t)
    (hw : swappedStores [.Tuple [.Name x px, .Name y py] kt pt] (.Tuple [a, b] k2 pt2) X.env = pure (some [x, y]))
    (hs : swapsWithSole [.Tuple [.Name x px, .Name y py] kt pt] (.Tuple [a, b] k2 pt2) pos.line X.env = pure false := by rfl) :
    DS X W (.Assign [.Tuple [.Name x px, .Name y py] kt pt] (.Tuple [a, b] k2 pt2) pos) (dPar [i, j] t) :=
  .of (ps_par (X := X) hc hN hi hj hij hx hy cA_pa hw hs) fun F H σ δ D S q => by
    refine (h.run W F H σ δ _ S q).imp fun vs H1 h1 => ?_
    obtain ⟨F1, bs, δ1, e1, S1, T, hl, q1⟩ := h1
    have hv : vs.length = 2 := by
      rw [← Paired.length T.rb]
      exact hl
    match vs, hv with
    | [v, w], _ =>
      obtain ⟨σ', δ', e2, e3, S2⟩ := S1.puts (is := []) (ns := [i, j]) (by simpa using hij) hl.symm T
      refine ⟨v, w, rfl, F1, δ', ?_, by rw [e3]; exact q1⟩
      rw [e2] at S2
      exact S2
theorem ds_par3 {i j l : Nat} {x y z : Str} {a b c : Expr} {px py pz pt pos : Pos} {kt k2 : Nat} {pt2 : Pos} (hc : X.calm = true) (hN : X.N.Nodup) (hi : X.N[i]? = some x) (hj : X.N[j]? = some y) (hk : X.N[l]? = some z) (hij : i ≠ j) (hil : i ≠ l) (hjl : j ≠ l)
    (hx : X.env.scope.names.lookup x = some .local) (hy : X.env.scope.names.lookup y = some .local) (hz : X.env.scope.names.lookup z = some .local) (h : DB X [a, b, c] t)
    (hw : swappedStores [.Tuple [.Name x px, .Name y py, .Name z pz] kt pt] (.Tuple [a, b, c] k2 pt2) X.env = pure (some [x, y, z]))
    (hs : swapsWithSole [.Tuple [.Name x px, .Name y py, .Name z pz] kt pt] (.Tuple [a, b, c] k2 pt2) pos.line X.env = pure false := by rfl) :
    DS X W (.Assign [.Tuple [.Name x px, .Name y py, .Name z pz] kt pt] (.Tuple [a, b, c] k2 pt2) pos) (dPar [i, j, l] t) :=
  .of (ps_par3 (X := X) hc hN hi hj hk hij hil hjl hx hy hz cA_pa hw hs) fun F H σ δ D S q => by
    refine (h.run W F H σ δ _ S q).imp fun vs H1 h1 => ?_
    obtain ⟨F1, bs, δ1, e1, S1, T, hl, q1⟩ := h1
    have hv : vs.length = 3 := by
      rw [← Paired.length T.rb]
      exact hl
    match vs, hv with
    | [v, w, u], _ =>
      obtain ⟨σ', δ', e2, e3, S2⟩ := S1.puts (is := []) (ns := [i, j, l]) (by simp [hij, hil, hjl]) hl.symm T
      refine ⟨v, w, u, rfl, F1, δ', ?_, by rw [e3]; exact q1⟩
      rw [e2] at S2
      exact S2
end

/-! ### a dict as it is written: none, or one pair -/
section
variable {X : Cx} {W : Fix} {e : Expr} {te : TD} {pos : Pos}
def dDct0 : TD := fun δ Q => Q (.o (.dct [] [])) δ
theorem de_dct0 : DE X W (.Dict [] [] pos) dDct0 := .of (pe_dnewK (X := X)) fun F H σ δ Q S q p hp => .mkO (d := .dct [] []) S hp ⟨[], upd_same, .nil, rfl⟩ q
def keyE : Expr → Option Key
  | .Constant (.int i) _ _ => some (.inl i)
  | .Constant (.str x) _ _ => some (.inr x)
  | _ => none
theorem key_pe {ek : Expr} {k : Key} (h : keyE ek = some k) : PE X ek (tC (kV k)) := by
  unfold keyE at h
  split at h
  · cases h
    exact pe_int
  · cases h
    exact pe_str
  · cases h
def dDct1 (k : Key) (te : TD) : TD := fun δ Q => dp te δ fun d δ1 => Q (.o (.dct [k] [d])) δ1
theorem de_dct1 {ek : Expr} {k : Key} (hk : keyE ek = some k) (h : ∀ W, DE X W e te) : DE X W (.Dict [some ek] [e] pos) (dDct1 k te) :=
  .of (pe_disp (X := X) (pps_cons (key_pe hk) (tv := cE X e) cE_pe pps_nil) rfl rfl (by simp) (by simp)) fun F H σ δ Q S q p hp => by
    have S1 := S.newO (o := .dK []) hp
    have h0 := S.fresh0 hp
    have hF := S.freshF hp
    have hP : W.P ≠ some p := fun z => by
      obtain ⟨_, ⟨o, z2⟩, _⟩ := S.fp p z
      rw [hp] at z2
      cases z2
    have Sh := S1.held (o := .dK []) upd_same h0 hF hP fun j c h1 h2 h3 => by
      obtain ⟨u, h4, h5⟩ := S.get j c h1
      rw [h3] at h4
      cases h4
      obtain ⟨a', o, z, h6, _⟩ := h5.there h2
      cases z
      rw [hp] at h6
      cases h6
    refine ((h (W.hold p (.dK []))).plain Sh q).imp fun v H1 h1 => ?_
    obtain ⟨F1, d, δ1, e1, S2, r1, q1⟩ := h1
    obtain ⟨S3, h3, hF1, hn⟩ := S2.unheld h0 (S.f0.free hF) hP
    refine ⟨h3, [(k, v)], rfl, by simp, ?_⟩
    have em : mergeK [] [(k, v)] = [k].zip [v] := rfl
    rw [em]
    exact ⟨F1, .o (.dct [k] [d]), δ1, e1, S3.turn h0 hF1 hn, ⟨p, rfl, hF1, h0, [v], upd_same, .cons r1 .nil, rfl⟩, fun _ => hn, q1⟩
end
end DD

set_option Elab.async false
set_option linter.all false
set_option maxRecDepth 100000
set_option maxHeartbeats 4000000
/-! DD14: the law's own head, where no repr is under way; the purse. -/
namespace DD
open PySem PySem.Spec PyProof.Rows L2

/-- as law_call, for a def that knows that no repr is under way -/
theorem head_call {P : Program} {w : World} {K : PySem.W.Frag} {mg mb : Str → Option Value} {k : Nat} {fa a : Addr} {x : Str} {sp : Sp} {s1 : Shared} {us : List Value} {ns : List Int}
    (KX : K.In s1.heap) (gl : s1.heap.Ns mainGlobals mg) (bl : s1.heap.Ns builtinsNs mb) (bb : ∀ y : Str, y ≠ "__name__" → mb y = bootBuiltins y) (lim : s1.heap.NoLimit) (ge : s1.gens = #[])
    (ga : s1.heap.get? a = some { cls := .type "list", data := .seq us.toArray }) (hin : IntsAre us ns) (lz : ns.length ≤ sizeLine) (hr : Room k callerA)
    (G : ∀ base : Heap, K.In base → base.Ns mainGlobals mg → ∃ fd : FuncData, GnOk P w K mg base k fa fd [x] sp ∧ BindsTo s1 fd ⟨[.ref a], []⟩ [(x, .ref a)])
    (hsp : ∀ H : Hp, Only H → SqL K H a (ns.map V.int) → sp [.ref a] H (fun v _ => v = .bl true) fun _ _ _ => False) :
    codeAny (model P w) callerA (.call (.ref fa) ⟨[.ref a], []⟩) (fun r s' => r = .ok (.ret (.bool true)) ∧ OldK s1.heap s'.heap ∧ s'.os = s1.os ∧ AllBare s'.gens) s1 := by
  have lenU := hin.length
  have vals : Vals (ns.map V.int) us := vals_ints hin
  suffices core : ∀ H : Hp, Only H → SqL K H a (ns.map V.int) → HOk P w H s1.heap → (∀ c, H c ≠ none → c = a ∧ K.lookup a = none) →
      codeAny (model P w) callerA (.call (.ref fa) ⟨[.ref a], []⟩) (fun r s' => r = .ok (.ret (.bool true)) ∧ OldK s1.heap s'.heap ∧ s'.os = s1.os ∧ AllBare s'.gens) s1 by
    cases hk : K.lookup a with
    | some ob =>
      have e := KX a ob hk
      rw [ga] at e
      cases e
      exact core (fun _ => none) (fun _ => .inl rfl) (.inr ⟨_, us.toArray, _, hk, rfl, rfl, rfl, by rw [List.size_toArray, lenU]; exact lz, by simpa using vals⟩) (fun c u z => by have z' : (none : Option HO) = some u := z; cases z') fun c z => absurd rfl z
    | none =>
      have at1 : ∀ c, c = a → (fun c => if c = a then some (HO.frz { cls := .type "list", data := .seq us.toArray } (.lst (ns.map V.int))) else none) c = some (HO.frz { cls := .type "list", data := .seq us.toArray } (.lst (ns.map V.int))) := fun c e => if_pos e
      refine core (fun c => if c = a then some (.frz { cls := .type "list", data := .seq us.toArray } (.lst (ns.map V.int))) else none) (fun c => ?_) (.inl (.inr ⟨_, at1 a rfl⟩)) (fun c u z => ?_) fun c z => ⟨?_, hk⟩
      · by_cases e : c = a
        · exact .inr ⟨_, _, if_pos e⟩
        · exact .inl (if_neg e)
      · by_cases e : c = a
        · have z2 := (if_pos e).symm.trans z
          cases z2
          rw [e]
          exact ⟨ga, by rw [List.length_map]; exact lz, us, _, vals, ga⟩
        · have z2 := (if_neg e).symm.trans z
          cases z2
      · by_cases e : c = a
        · exact e
        · exact absurd (if_neg e) z
  intro H hO hS hok only
  have up : ∀ {c : Addr} {ob : Obj}, s1.heap.get? c = some ob → H c = none → (hidT s1.heap H).get? c = some ob := fun e n => hidT_get e n
  have dn : ∀ {c : Addr} {ob : Obj} {es : Array DictEntry} {ep : Nat}, s1.heap.get? c = some ob → ob.data = .dict es ep → H c = none := by
    intro c ob es ep e d
    cases q : H c with
    | none => rfl
    | some u =>
      have ea := (only c (by rw [q]; simp)).1
      rw [ea, ga] at e
      cases e
      have d2 : Data.seq us.toArray _ = Data.dict es ep := d
      cases d2
  have nsUp : ∀ {c : Addr} {m : Str → Option Value}, s1.heap.Ns c m → (hidT s1.heap H).Ns c m := by
    rintro c m ⟨ob, es, ep, e, d, r⟩
    exact ⟨ob, es, ep, up e (dn e d), d, r⟩
  have KB : K.In (hidT s1.heap H) := by
    intro c ob e
    refine up (KX c ob e) ?_
    cases q : H c with
    | none => rfl
    | some u =>
      obtain ⟨ea, en⟩ := only c (by rw [q]; simp)
      rw [ea, en] at e
      cases e
  have M : Mod K mg (hidT s1.heap H) := ⟨KB, nsUp gl, ⟨mb, nsUp bl, bb⟩, by obtain ⟨mc, z1, z2⟩ := lim; exact ⟨mc, nsUp z1, z2⟩⟩
  have E0 : Env0 P w K mg (hidT s1.heap H) callerA [] s1 H := ⟨rfl, M, fun c ob e => of_hidT e, Nat.le_of_eq (hidT_size _ _), trivial, fun c z => absurd (show c ∈ ([] : List Addr) from z) (by simp), hok, .of_eq ge⟩
  obtain ⟨fd, G1, hbind⟩ := G _ KB (nsUp gl)
  refine codeAny_mono (G1.run callerA [] s1 H ⟨[.ref a], []⟩ [.ref a] [.ref a] _ _ rfl hr E0 hbind (.cons rfl .nil) (hsp H hO hS)) ?_
  intro r s' h
  cases r with
  | error e =>
    obtain ⟨_, _, _, _, _, _, _, _, _, _, _, _, z⟩ := h
    exact z.elim
  | ok fl =>
    cases fl with
    | next => exact h.elim
    | brk => exact h.elim
    | cont => exact h.elim
    | ret u =>
      obtain ⟨v, H', os, bare, un, hok', rv, q⟩ := h
      have q : v = .bl true := q
      subst q
      obtain rfl : u = Value.bool true := rv
      refine ⟨rfl, OldK.of_keep fun c ob e => ?_, os, bare⟩
      cases q : H c with
      | none => exact un.keep c ob e q (fun z => absurd (show c ∈ ([] : List Addr) from z) (by simp)) (by simp)
      | some u =>
        rcases hO c with z | ⟨ob2, xs, z⟩
        · rw [q] at z
          cases z
        · obtain ⟨e1, _⟩ := hok c _ z
          obtain ⟨e2, _⟩ := hok' c _ (un.frzs c ob2 _ z)
          rw [e] at e1
          cases e1
          exact e2
theorem walk_g {l : PySem.W.OpenLaw} {n k : Nat} {q : Program} {loose : List Str} {XP : (Str → Option Value) → Heap → Prop} {YP : World → Heap → Prop} {d : DefRec} {K : Params → PySem.W.Frag} {spd : Spd} {x : Str}
    (hn : l.most = some n) (hn2 : n ≤ sizeLine) (hdf : d.params.defaults = []) (hr : Room k callerA) (hY : ∀ (w : World) (h : Heap), YP w h → (K w.params).In h)
    (G : ∀ (w : World) (mg : Str → Option Value) (h : Heap), (K w.params).In h → h.Ns mainGlobals mg →
      ∀ base : Heap, (K w.params).In base → base.Ns mainGlobals mg → ∃ (fa : Addr) (fd : FuncData), GnOk l.prog w (K w.params) mg base k fa fd [x] (toSp (K w.params) spd) ∧ mg d.name = some (.ref fa) ∧ Binds (K w.params) fd [x] [])
    (hsp : ∀ ns : List Int, ns.length ≤ n → spd [.p (.scr ns)] (fun b _ => b = .p (.bl true)) fun _ _ _ => False) :
    PySem.W.WalkO q loose XP YP l.row.toRowW d [] (fun f vs => PySem.call f vs) := by
  refine Att.attach_call hn hdf ?_
  intro w s0 s1 mg mb fa o pm cd doc a vs ns GG Y ho hd hcd hmg hobj hints hlen hg
  have KX := hY w _ Y
  refine head_call (sp := toSp (K w.params) spd) (x := x) KX GG.T.g GG.T.b GG.T.builtins GG.T.nolimit hg hobj hints (Nat.le_trans hlen hn2) hr (fun base kb nb => ?_) fun H hO hS => ?_
  · obtain ⟨fa', fd, g1, e, g2⟩ := G w mg _ KX GG.T.g base kb nb
    rw [hmg] at e
    cases e
    exact ⟨fd, g1, g2 s1 [.ref a] KX rfl⟩
  refine ⟨H, none, [.p (.scr ns)], _, _, Same.refl H, .cons (?_ : Rp _ H (.scr ns) (.ref a)) .nil, (fun p e => by cases e), hsp ns hlen, fun v H' F' b m _ r q => ?_, fun cls dx H' F' C ds m _ _ z => z.elim⟩
  · unfold Rp
    refine ⟨a, rfl, ?_⟩
    rcases hS with (q | ⟨o', q⟩) | q
    · rcases hO a with z | ⟨o', xs, z⟩
      · rw [z] at q
        cases q
      · rw [z] at q
        cases q
    · exact .inl ⟨o', q⟩
    · exact .inr q
  · subst q
    exact rpBl (K := K w.params) (F := F') r
end DD

set_option Elab.async false
set_option linter.all false
set_option maxRecDepth 100000
set_option maxHeartbeats 4000000
/-! DD15: rules in short, as a program prints them. -/
namespace DD
open PySem PySem.Spec PyProof.Rows L2

/-! ### a def of the text, by its promise -/
structure DefAt (K : PySem.W.Frag) (mg : Str → Option Value) (x : Str) (st : Stmt) : Prop where
  ex : ∃ f fd, Fun K x x st f fd ∧ mg x = some (.ref f)
structure Cal (P : Program) (w : World) (K : PySem.W.Frag) (mg : Str → Option Value) (base : Heap) (x : Str) (k : Nat) (ps : List Str) (spd : Spd) : Prop where
  ex : ∃ f fd, GnOk P w K mg base k f fd ps (toSp K spd) ∧ mg x = some (.ref f) ∧ PySem.W.keepIn K (.ref f) = true ∧ Binds K fd ps []
theorem vis_any {sc : Scope} {x : Str} (h : sc.names.lookup x = some .local ∨ sc.names.lookup x = some .cell ∨ sc.names.lookup x = some .free) : Vis sc x := h
section
variable {P : Program} {w : World} {K : PySem.W.Frag} {mg : Str → Option Value} {base : Heap}
/-- THE RULE: a def of the text by its body's reading over data -/
theorem cal_mk {x : Str} {st : Stmt} {N ps : List Str} {k : Nat} {spd : Spd} (pi : Option Nat) (D : DefAt K mg x st) (S : FnScope N ps (defScope st))
    (hbd : ∀ (kV doc pm : Value) (an : Option Addr) (cdv ct : Value) (us : List Value), us.length = ps.length → bindArgs (PySem.W.fnOf x x (defArgs st) (defBody st) (defScope st) .none kV doc pm an cdv ct) ⟨us, []⟩ = pure (ps.zip us))
    (len : ∀ bs R E, spd bs R E → bs.length = ps.length) (hpk : ∀ bs R E, spd bs R E → PurK pi bs ∧ (pi = none → ∀ b ∈ bs, b.own = false))
    (hbody : ∀ (f : Addr) (cdv : Value) (A : Around) (outer : List Env) (s : Shared) (H : Hp) (E : XK) (W : Fix) (bs : List B) (R : B → Nat → Prop) (ED : Addr → List DD.D → Nat → Prop), A.guards = some [] →
      Room k (A.deeper (envOfC x (defScope st) s.heap.objs.size f cdv)) → TkE (cxOf (L2.CX P w) P w K mg base N x (defScope st) f cdv A outer s H E) W (fun C ds δ => ∃ m, PC pi δ m ∧ ED C ds m) → spd bs R ED → Same W.F0 W.H0 →
      ∃ t, DSs (cxOf (L2.CX P w) P w K mg base N x (defScope st) f cdv A outer s H E) W (defBody st) t ∧
        t { nx := fun δ => ∃ m, PC pi δ m ∧ R (.p .non) m, rt := fun b δ => b.isU = false ∧ ∃ m, PC pi δ m ∧ R b m } (startD N bs)) :
    Cal P w K mg base x (k + 1) ps spd := by
  obtain ⟨f, fd, F, hm⟩ := D.ex
  exact ⟨f, fd, gd_of pi F S len hpk (hbody f), hm, F.kp, F.binds hbd⟩
theorem pur_none {bs : List B} (h : ∀ b ∈ bs, b.own = false) : PurK none bs ∧ ((none : Option Nat) = none → ∀ b ∈ bs, b.own = false) :=
  ⟨(fun j b e hb => by rw [h b (List.mem_of_getElem? e)] at hb; cases hb), fun _ => h⟩
theorem pur_zero {n : Nat} {w : Bool} {bs : List B} (h : ∀ b ∈ bs, b.own = false) : PurK (some 0) (.u w n :: bs) ∧ ((some 0 : Option Nat) = none → ∀ b ∈ B.u w n :: bs, b.own = false) := by
  refine ⟨fun j b e hb => ?_, fun z => by cases z⟩
  cases j with
  | zero => rfl
  | succ j =>
    rw [List.getElem?_cons_succ] at e
    rw [h b (List.mem_of_getElem? e)] at hb
    cases hb
end
/-- the law by its def's promise -/
theorem walk_c {l : PySem.W.OpenLaw} {n k : Nat} {q : Program} {loose : List Str} {XP : (Str → Option Value) → Heap → Prop} {YP : World → Heap → Prop} {d : DefRec} {K : Params → PySem.W.Frag} {spd : Spd} {x y : Str}
    (hn : l.most = some n) (hn2 : n ≤ sizeLine) (hdf : d.params.defaults = []) (hr : Room k callerA) (hY : ∀ (w : World) (h : Heap), YP w h → (K w.params).In h) (hy : d.name = y)
    (G : ∀ (w : World) (mg : Str → Option Value) (h : Heap), (K w.params).In h → h.Ns mainGlobals mg → ∀ base : Heap, Cal l.prog w (K w.params) mg base y k [x] spd)
    (hsp : ∀ ns : List Int, ns.length ≤ n → spd [.p (.scr ns)] (fun b _ => b = .p (.bl true)) fun _ _ _ => False) :
    PySem.W.WalkO q loose XP YP l.row.toRowW d [] (fun f vs => PySem.call f vs) := by
  subst hy
  refine walk_g (spd := spd) (x := x) hn hn2 hdf hr hY (fun w mg h KX GG base _ _ => ?_) hsp
  obtain ⟨f, fd, g, hm, _, b⟩ := (G w mg h KX GG base).ex
  exact ⟨f, fd, g, hm, b⟩
/-- what the top has written, as k_is tells it -/
theorem defAt_of {K : PySem.W.Frag} {h : Heap} {mg : Str → Option Value} {x : Str} {st : Stmt} {f : Addr} {oc : Value} {od an : Option Addr} {osl : Array (Option Value)} {kV doc pm cdv ct : Value} (X : K.In h) (G : h.Ns mainGlobals mg)
    (a : PySem.W.nsIn K mainGlobals x = some (some (.ref f))) (l : K.lookup f = some ⟨oc, od, .func (PySem.W.fnOf x x (defArgs st) (defBody st) (defScope st) .none kV doc pm an cdv ct), osl⟩)
    (c : PySem.W.codeIn K cdv x = true) (k : PySem.W.keepIn K (.ref f) = true) : DefAt K mg x st := ⟨f, _, fun_mk l c k, PySem.W.mg_of X G a⟩
section
variable {X : Cx} {W : Fix} {E0 : Addr → List D → Env' → Prop} {k k' : Nat} {ps : List Str} {spd : Spd} {x : Str} {p pos : Pos} {e : Expr} {es : List Expr} {t : TDA}
theorem de_c (c : Cal X.prog X.w X.K X.mg X.base x k ps spd) (gu : X.A.guards = some []) (hr : Room k' X.A) (h : DA X W (e :: es) t) (hg : Gl X x := by exact rfl) (hk : k ≤ k' := by decide) (hdb : (x == ("__debug__" : Str)) = false := by decide)
    (he : starEach (e :: es) X.env = (false, eval e X.env) :: starEach es X.env := by rfl) (hpl : (backTo pos (starEach es X.env)).any (·.1) = false := by rfl) : DE X W (.Call (.Name x p) (e :: es) [] pos) (dCall spd [] (fun _ _ _ => False) t) := by
  obtain ⟨f, fd, G, hm, kp, b⟩ := c.ex
  exact de_call G gu (hr.mono hk) hg hm kp b .nil (fun _ => .nil) h hdb he hpl
theorem de_cX (te : TkE X W E0) (c : Cal X.prog X.w X.K X.mg X.base x k ps spd) (gu : X.A.guards = some []) (hr : Room k' X.A) (h : DA X W (e :: es) t) (hg : Gl X x := by exact rfl) (hk : k ≤ k' := by decide) (hdb : (x == ("__debug__" : Str)) = false := by decide)
    (he : starEach (e :: es) X.env = (false, eval e X.env) :: starEach es X.env := by rfl) (hpl : (backTo pos (starEach es X.env)).any (·.1) = false := by rfl) : DE X W (.Call (.Name x p) (e :: es) [] pos) (dCall spd [] E0 t) := by
  obtain ⟨f, fd, G, hm, kp, b⟩ := c.ex
  exact de_callX te G gu (hr.mono hk) hg hm kp b .nil (fun _ => .nil) h hdb he hpl
theorem de_cF (c : Cal X.prog X.w X.K X.mg X.base x k ps spd) (gu : X.A.guards = some []) (hr : Room k' X.A) (h : DA X W (e :: es) t) (hg : Gl X x := by exact rfl) (hk : k ≤ k' := by decide) (hdb : (x == ("__debug__" : Str)) = false := by decide)
    (he : starEach (e :: es) X.env = (false, eval e X.env) :: starEach es X.env := by rfl) (hpl : (backTo pos (starEach es X.env)).any (·.1) = false := by rfl) : DE X W (.Call (.Name x p) (e :: es) [] pos) (dCallF spd t) := by
  obtain ⟨f, fd, G, hm, kp, b⟩ := c.ex
  exact de_callF G gu (hr.mono hk) hg hm kp b h hdb he hpl
theorem de_cP {i : Nat} {xp : Str} {pp : Pos} (c : Cal X.prog X.w X.K X.mg X.base x k ps spd) (gu : X.A.guards = some []) (hr : Room k' X.A) (hN : X.N[i]? = some xp) (h : DA X W es t) (hv : Vis X.env.scope xp := by first | exact Or.inl rfl | exact Or.inr (Or.inl rfl) | exact Or.inr (Or.inr rfl))
    (hg : Gl X x := by exact rfl) (hk : k ≤ k' := by decide) (hdb : (x == ("__debug__" : Str)) = false := by decide) (hd1 : (xp == ("__debug__" : Str)) = false := by decide) (hcd : (xp == ("__classdict__" : Str)) = false := by decide)
    (he : starEach (.Name xp pp :: es) X.env = (false, eval (.Name xp pp) X.env) :: starEach es X.env := by rfl) (hpl : (backTo pos (starEach es X.env)).any (·.1) = false := by rfl) :
    DE X W (.Call (.Name x p) (.Name xp pp :: es) [] pos) (dCallP i spd [] (fun _ _ _ => False) t) := by
  obtain ⟨f, fd, G, hm, kp, b⟩ := c.ex
  exact de_callP G gu (hr.mono hk) hg hm kp hN hv b .nil (fun _ => .nil) h hdb hd1 hcd he hpl
/-- f() -/
def dCall0 (spd : Spd) : TD := fun δ Q => spd [] (fun b _ => b.isU = false ∧ Q b δ) fun _ _ _ => False
theorem de_c0 (c : Cal X.prog X.w X.K X.mg X.base x k ps spd) (gu : X.A.guards = some []) (hr : Room k' X.A) (hg : Gl X x := by exact rfl) (hk : k ≤ k' := by decide) (hdb : (x == ("__debug__" : Str)) = false := by decide) : DE X W (.Call (.Name x p) [] [] pos) (dCall0 spd) := by
  obtain ⟨f, fd, G, hm, kp, b⟩ := c.ex
  refine .of (pe_callG0 (X := X) (Es := fun _ _ _ _ => False) G gu (hr.mono hk) hg hm kp b .nil (fun σ => pass_none) hdb) fun F H σ δ Q S q => ?_
  refine ⟨F, none, _, _, _, S.fh, .nil, (fun p e => by cases e), q, fun v H' F' b m a r z => ?_, fun cls d H' F' C ds m a er z => z.elim⟩
  obtain ⟨r2, r3⟩ := RB.of_res S r
  exact ⟨F', b, δ, a.ff, S.after a, r2, r3, z.2⟩

/-- a new list of three ints is a purse -/
def dAsP (te : TD) : TD := fun δ Q => te δ fun b δ1 => ∃ (x y z : Int) (n : Nat), b = .o (.lst [.int x, .int y, .int z]) ∧ PWF n x y z ∧ Q (.u false n) δ1
theorem de_asPurse {a : Expr} {te : TD} (h : DE X W a te) : DE X W a (dAsP te) := by
  refine ⟨fun F H σ δ Q S q => (h.run F H σ δ _ S q).imp fun v H' z => ?_⟩
  obtain ⟨F', b, δ', e, S', r, hs, x, y, w, n, rfl, hp, q⟩ := z
  obtain ⟨c, rfl, h1, h2, xs, h3, h4⟩ := r
  have e3 : xs = [V.int x, V.int y, V.int w] := RpL.int (ns := [x, y, w]) h4
  rw [e3] at h3
  exact ⟨F', .u false n, δ', e, S', ⟨c, x, y, w, rfl, h1, by rw [if_neg Bool.false_ne_true]; exact h2, h3, hp⟩, hs, q⟩

/-! ### names -/
theorem de_v (i : Nat) {pos : Pos} (hN : X.N[i]? = some x := by rfl) (hv : Vis X.env.scope x := by first | exact Or.inl rfl | exact Or.inr (Or.inl rfl) | exact Or.inr (Or.inr rfl)) (hd : (x == ("__debug__" : Str)) = false := by decide) (hcd : (x == ("__classdict__" : Str)) = false := by decide) :
    DE X W (.Name x pos) (dV i) := de_var hN hv hd hcd
theorem de_m (i : Nat) {pos : Pos} (hN : X.N[i]? = some x := by rfl) (hv : Vis X.env.scope x := by first | exact Or.inl rfl | exact Or.inr (Or.inl rfl) | exact Or.inr (Or.inr rfl)) (hd : (x == ("__debug__" : Str)) = false := by decide) (hcd : (x == ("__classdict__" : Str)) = false := by decide) :
    DE X W (.Name x pos) (dM i) := de_move hN hv hd hcd
/-- a built-in class as a value -/
theorem de_ty {n : String} {pos : Pos} (hm : X.mg x = none) (hv : bootBuiltins x = some (.type n)) (hg : Gl X x := by exact rfl) (hn : x ≠ "__name__" := by decide) (hd : (x == ("__debug__" : Str)) = false := by decide) : DE X W (.Name x pos) (dC (.ty n)) :=
  de_bltn (v := .ty n) hg hm hv rfl (fun F => by unfold Rp; rfl) hn hd
/-- a module's constant -/
structure ConAt (K : PySem.W.Frag) (mg : Str → Option Value) (x : Str) (d : D) : Prop where
  ex : ∃ u v, mg x = some u ∧ RelV v u ∧ ∀ F, Rp K F d v
theorem de_con {d : D} {pos : Pos} (c : ConAt X.K X.mg x d) (hg : Gl X x := by exact rfl) (hd : (x == ("__debug__" : Str)) = false := by decide) : DE X W (.Name x pos) (dC d) := by
  obtain ⟨u, v, h1, h2, h3⟩ := c.ex
  exact de_glob hg h1 h2 h3 hd
theorem con_ref {K : PySem.W.Frag} {mg : Str → Option Value} {a : Addr} (h : mg x = some (.ref a)) : ConAt K mg x (.ref a) := ⟨_, .ref a, h, rfl, fun F => by unfold Rp; rfl⟩
theorem con_str {K : PySem.W.Frag} {mg : Str → Option Value} {z : Str} {tk : Tok} (h : mg x = some (.str z tk)) : ConAt K mg x (.str z) := ⟨_, .str z, h, ⟨tk, rfl⟩, fun F => by unfold Rp; rfl⟩
theorem con_int {K : PySem.W.Frag} {mg : Str → Option Value} {z : Int} {tk : Tok} (h : mg x = some (.int z tk)) : ConAt K mg x (.int z) := ⟨_, .int z, h, ⟨tk, rfl⟩, fun F => by unfold Rp; rfl⟩
theorem vals_strs : ∀ {vs : List Value} {ss : List Str}, Paired (fun (s : Str) (v : Value) => ∃ t, v = .str s t) ss vs → Vals (ss.map V.str) vs
  | _, _, .nil => .nil
  | _, _, .cons h t => .cons h (vals_strs t)
theorem con_strs {K : PySem.W.Frag} {mg : Str → Option Value} {a : Addr} {o : Obj} {vs : List Value} {n : Nat} {ss : List Str} (h : mg x = some (.ref a)) (hk : K.lookup a = some o) (hc : o.cls = .type "tuple") (hd : o.data = .seq vs.toArray n)
    (hz : vs.length ≤ sizeLine) (hs : Paired (fun (s : Str) (v : Value) => ∃ t, v = .str s t) ss vs) : ConAt K mg x (.tup (ss.map D.str)) := by
  refine ⟨_, .ref a, h, rfl, fun F => ?_⟩
  unfold Rp
  exact ⟨a, ss.map V.str, rfl, .inr ⟨o, vs.toArray, n, hk, hc, hd, by simpa using hz, by simpa using vals_strs hs⟩, .ofStr ss⟩

/-! ### built-in functions -/
theorem bt_len : bootBuiltins "len" = some (.builtin "len") := by decide +kernel
theorem bt_isinstance : bootBuiltins "isinstance" = some (.builtin "isinstance") := by decide +kernel
theorem bt_repr : bootBuiltins "repr" = some (.builtin "repr") := by decide +kernel
theorem bt_max : bootBuiltins "max" = some (.builtin "max") := by decide +kernel
theorem bt_sorted : bootBuiltins "sorted" = some (.builtin "sorted") := by decide +kernel
theorem bt_int : bootBuiltins "int" = some (.type "int") := by decide +kernel
theorem bt_bool : bootBuiltins "bool" = some (.type "bool") := by decide +kernel
theorem bt_str : bootBuiltins "str" = some (.type "str") := by decide +kernel
theorem bt_list : bootBuiltins "list" = some (.type "list") := by decide +kernel
theorem bt_tuple : bootBuiltins "tuple" = some (.type "tuple") := by decide +kernel
theorem bt_set : bootBuiltins "set" = some (.type "set") := by decide +kernel
end
end DD

set_option Elab.async false
set_option linter.all false
set_option maxRecDepth 100000
set_option maxHeartbeats 4000000
/-! DD16: what the readings come to. -/
namespace DD
open PySem PySem.Spec PyProof.Rows L2

/-! ### a list comprehension whose test and item are plain -/
theorem lcL_map {g : TGD} {tt : TDT} {te : TD} {vs : List Nat} {Q : List D → Env' → Prop} {δ : Env'} (f : D → Bool) (h : D → D) (e1 e2 : D → Env') : ∀ {ds acc : List D},
    (∀ d ∈ ds, ∀ (Y : D → Env' → Prop) (N : Env' → Prop), (f d = true → Y (h d) (e1 d)) → (f d = false → N (e2 d)) → g d δ fun δ1 => tt δ1 fun k δ2 => if k = true then dp te δ2 Y else N δ2) →
    (∀ d ∈ ds, wipeE (e1 d) vs = δ ∧ wipeE (e2 d) vs = δ) → acc.length + ds.length ≤ sizeLine → Q (acc ++ (ds.filter f).map h) δ → lcL g tt te vs Q ds acc δ
  | [], acc, _, _, _, q => by
    have q : Q (acc ++ []) δ := q
    rw [List.append_nil] at q
    exact q
  | d :: ds, acc, hs, hw, hz, q => by
    obtain ⟨w1, w2⟩ := hw d List.mem_cons_self
    rw [List.length_cons] at hz
    refine hs d List.mem_cons_self _ _ (fun hf => ⟨by omega, ?_⟩) fun hf => ?_
    · rw [w1]
      refine lcL_map f h e1 e2 (fun d' hd' => hs d' (List.mem_cons_of_mem _ hd')) (fun d' hd' => hw d' (List.mem_cons_of_mem _ hd')) (by rw [List.length_append, List.length_singleton]; omega) ?_
      rw [List.filter_cons_of_pos hf, List.map_cons] at q
      rw [List.append_assoc]
      exact q
    · rw [w2]
      refine lcL_map f h e1 e2 (fun d' hd' => hs d' (List.mem_cons_of_mem _ hd')) (fun d' hd' => hw d' (List.mem_cons_of_mem _ hd')) (by omega) ?_
      rw [List.filter_cons_of_neg (by rw [hf]; decide)] at q
      exact q

/-! ### isinstance of data -/
/-- data whose class is built in -/
def dat (d : D) : Bool := (tyD d).isSome
theorem isZ_iff {K : PySem.W.Frag} {d : D} {t u : String} {b : Bool} {Q : B → Prop} (hk : tyD d = some t) (hb : PySem.W.kitOne K (.type t) (.type u) = some b) : isZG K [d, .ty u] Q ↔ Q (.p (.bl b)) := by
  constructor
  · rintro (⟨x, c, t', u', b', e, h1, h2, h3, q⟩ | ⟨C, y, c, u', b', e, _⟩)
    · cases e
      rw [hk] at h1
      cases h1
      cases h2
      rw [hb] at h3
      cases h3
      exact q
    · cases e
      cases hk
  · exact fun q => .inl ⟨d, _, t, _, b, rfl, hk, rfl, hb, q⟩
def isInt : D → Bool
  | .int _ => true
  | .bl _ => true
  | _ => false
theorem isZ_Int {K : PySem.W.Frag} {d : D} {Q : B → Prop} (h : dat d = true) : isZG K [d, .ty "int"] Q ↔ Q (.p (.bl (isInt d))) := by
  cases d <;> first | (cases h; done) | skip
  · exact isZ_iff rfl (by first | rfl | kernel_rfl)
  · exact isZ_iff rfl (by first | rfl | kernel_rfl)
  · exact isZ_iff rfl (by first | rfl | kernel_rfl)
  · exact isZ_iff rfl (by first | rfl | kernel_rfl)
  · exact isZ_iff rfl (by first | rfl | kernel_rfl)
  · exact isZ_iff rfl (by first | rfl | kernel_rfl)
  · exact isZ_iff rfl (by first | rfl | kernel_rfl)
  · exact isZ_iff rfl (by first | rfl | kernel_rfl)
def isBool : D → Bool
  | .bl _ => true
  | _ => false
theorem isZ_Bool {K : PySem.W.Frag} {d : D} {Q : B → Prop} (h : dat d = true) : isZG K [d, .ty "bool"] Q ↔ Q (.p (.bl (isBool d))) := by
  cases d <;> first | (cases h; done) | skip
  · exact isZ_iff rfl (by first | rfl | kernel_rfl)
  · exact isZ_iff rfl (by first | rfl | kernel_rfl)
  · exact isZ_iff rfl (by first | rfl | kernel_rfl)
  · exact isZ_iff rfl (by first | rfl | kernel_rfl)
  · exact isZ_iff rfl (by first | rfl | kernel_rfl)
  · exact isZ_iff rfl (by first | rfl | kernel_rfl)
  · exact isZ_iff rfl (by first | rfl | kernel_rfl)
  · exact isZ_iff rfl (by first | rfl | kernel_rfl)
def isStr : D → Bool
  | .str _ => true
  | _ => false
theorem isZ_Str {K : PySem.W.Frag} {d : D} {Q : B → Prop} (h : dat d = true) : isZG K [d, .ty "str"] Q ↔ Q (.p (.bl (isStr d))) := by
  cases d <;> first | (cases h; done) | skip
  · exact isZ_iff rfl (by first | rfl | kernel_rfl)
  · exact isZ_iff rfl (by first | rfl | kernel_rfl)
  · exact isZ_iff rfl (by first | rfl | kernel_rfl)
  · exact isZ_iff rfl (by first | rfl | kernel_rfl)
  · exact isZ_iff rfl (by first | rfl | kernel_rfl)
  · exact isZ_iff rfl (by first | rfl | kernel_rfl)
  · exact isZ_iff rfl (by first | rfl | kernel_rfl)
  · exact isZ_iff rfl (by first | rfl | kernel_rfl)
def isLst : D → Bool
  | .lst _ => true
  | _ => false
theorem isZ_Lst {K : PySem.W.Frag} {d : D} {Q : B → Prop} (h : dat d = true) : isZG K [d, .ty "list"] Q ↔ Q (.p (.bl (isLst d))) := by
  cases d <;> first | (cases h; done) | skip
  · exact isZ_iff rfl (by first | rfl | kernel_rfl)
  · exact isZ_iff rfl (by first | rfl | kernel_rfl)
  · exact isZ_iff rfl (by first | rfl | kernel_rfl)
  · exact isZ_iff rfl (by first | rfl | kernel_rfl)
  · exact isZ_iff rfl (by first | rfl | kernel_rfl)
  · exact isZ_iff rfl (by first | rfl | kernel_rfl)
  · exact isZ_iff rfl (by first | rfl | kernel_rfl)
  · exact isZ_iff rfl (by first | rfl | kernel_rfl)
def isTup : D → Bool
  | .tup _ => true
  | _ => false
theorem isZ_Tup {K : PySem.W.Frag} {d : D} {Q : B → Prop} (h : dat d = true) : isZG K [d, .ty "tuple"] Q ↔ Q (.p (.bl (isTup d))) := by
  cases d <;> first | (cases h; done) | skip
  · exact isZ_iff rfl (by first | rfl | kernel_rfl)
  · exact isZ_iff rfl (by first | rfl | kernel_rfl)
  · exact isZ_iff rfl (by first | rfl | kernel_rfl)
  · exact isZ_iff rfl (by first | rfl | kernel_rfl)
  · exact isZ_iff rfl (by first | rfl | kernel_rfl)
  · exact isZ_iff rfl (by first | rfl | kernel_rfl)
  · exact isZ_iff rfl (by first | rfl | kernel_rfl)
  · exact isZ_iff rfl (by first | rfl | kernel_rfl)

/-! ### == of data -/
theorem eqD_str {a b : Str} : eqD (.str a) (.str b) = some (decide (a = b)) := by
  unfold eqD
  have h : (flatD (.str a) && flatD (.str b) && scal (flatV' (.str a)) (flatV' (.str b))) = true := rfl
  rw [if_pos h]
  by_cases e : a = b
  · rw [e]
    simp [flatV']
  · have e2 : ¬ flatV' (.str a) = flatV' (.str b) := fun z => e (V.str.inj z)
    rw [decide_eq_false e, decide_eq_false e2]
theorem eqD_int {a b : Int} : eqD (.int a) (.int b) = some (decide (a = b)) := by
  unfold eqD
  have h : (flatD (.int a) && flatD (.int b) && scal (flatV' (.int a)) (flatV' (.int b))) = true := rfl
  rw [if_pos h]
  by_cases e : a = b
  · rw [e]
    simp [flatV']
  · have e2 : ¬ flatV' (.int a) = flatV' (.int b) := fun z => e (V.int.inj z)
    rw [decide_eq_false e, decide_eq_false e2]
/-- data that == may walk -/
def Sh (k : Nat) (d : D) : Prop := ∃ c, toPy d = some c ∧ c.canLay0 = true ∧ c.depth ≤ k
theorem sh_all {k : Nat} : ∀ {ds : List D}, (∀ d ∈ ds, Sh k d) → ∃ cs, toPyL ds = some cs ∧ PyData.canLayAll0 cs = true ∧ PyData.depthAll cs ≤ k ∧ cs.length = ds.length
  | [], _ => ⟨[], rfl, rfl, Nat.zero_le _, rfl⟩
  | d :: ds, h => by
    obtain ⟨c, h1, h2, h3⟩ := h d List.mem_cons_self
    obtain ⟨cs, h4, h5, h6, h7⟩ := sh_all (ds := ds) fun d' hd => h d' (List.mem_cons_of_mem _ hd)
    refine ⟨c :: cs, ?_, ?_, Nat.max_le.mpr ⟨h3, h6⟩, by rw [List.length_cons, List.length_cons, h7]⟩
    · show (toPy d).bind (fun x => (toPyL ds).map fun xs => x :: xs) = _
      rw [h1, h4]
      rfl
    · show (c.canLay0 && PyData.canLayAll0 cs) = true
      rw [h2, h5]
      rfl
theorem sh_lst {k : Nat} {ds : List D} (h : ∀ d ∈ ds, Sh k d) : Sh (k + 1) (.lst ds) := by
  obtain ⟨cs, h1, h2, h3, _⟩ := sh_all h
  exact ⟨.list cs, by show (toPyL ds).map _ = _; rw [h1]; rfl, h2, Nat.succ_le_succ h3⟩
theorem sh_tup {k : Nat} {ds : List D} (h : ∀ d ∈ ds, Sh k d) : Sh (k + 1) (.tup ds) := by
  obtain ⟨cs, h1, h2, h3, _⟩ := sh_all h
  exact ⟨.tuple cs, by show (toPyL ds).map _ = _; rw [h1]; rfl, h2, Nat.succ_le_succ h3⟩
theorem Sh.mono {k k' : Nat} {d : D} (h : Sh k d) (hk : k ≤ k') : Sh k' d := by
  obtain ⟨c, h1, h2, h3⟩ := h
  exact ⟨c, h1, h2, Nat.le_trans h3 hk⟩
theorem sh_int {i : Int} : Sh 0 (.int i) := ⟨_, rfl, rfl, Nat.le_refl _⟩
theorem sh_bl {i : Bool} : Sh 0 (.bl i) := ⟨_, rfl, rfl, Nat.le_refl _⟩
theorem sh_non : Sh 0 .non := ⟨_, rfl, rfl, Nat.le_refl _⟩
theorem sh_str {x : Str} (h : ∀ c ∈ x.cps.toList, c < 1114112) : Sh 0 (.str x) := by
  refine ⟨_, rfl, ?_, Nat.le_refl _⟩
  show PyData.strOk x = true
  unfold PyData.strOk
  rw [Array.all_eq_true_iff_forall_mem]
  intro c hc
  exact decide_eq_true (h c (Array.mem_toList_iff.mpr hc))
theorem eqD_nil {k : Nat} {ds : List D} (hk : k ≤ 60) (h : ∀ d ∈ ds, Sh k d) : eqD (.lst ds) (.lst []) = some ds.isEmpty := by
  obtain ⟨cs, h1, h2, h3, h4⟩ := sh_all h
  unfold eqD
  rw [if_neg (by simp [flatD])]
  have e1 : toPy (.lst ds) = some (.list cs) := by
    show (toPyL ds).map _ = _
    rw [h1]
    rfl
  rw [e1]
  show (if (SeqAt.shaped (.list cs) && SeqAt.shaped (.list [])) = true then some (PyData.eqv (.list cs) (.list [])) else none) = _
  have s1 : SeqAt.shaped (.list cs) = true := by
    unfold SeqAt.shaped
    rw [Bool.and_eq_true]
    exact ⟨h2, decide_eq_true (by show PyData.depthAll cs + 1 ≤ 64; omega)⟩
  rw [s1, if_pos (by rfl)]
  cases ds with
  | nil =>
    have : cs = [] := List.length_eq_zero_iff.mp h4
    rw [this]
    rfl
  | cons d ds =>
    cases cs with
    | nil => cases h4
    | cons c cs => rfl

/-! ### for, by what stays true -/
theorem forL_inv (I : Env' → Prop) {g : TGD} {tb : TSD} {Z : EndsD} : ∀ {ds : List D}, (∀ d ∈ ds, ∀ δ, I δ → ∀ N : Env' → Prop, (∀ δ', I δ' → N δ') → g d δ fun δ1 => tb { Z with nx := N, ct := N, bk := Z.nx } δ1) → (∀ δ, I δ → Z.nx δ) → ∀ {δ}, I δ → forL g tb Z ds δ
  | [], _, hz, δ, h => hz δ h
  | d :: ds, hs, hz, δ, h => hs d List.mem_cons_self δ h _ fun δ' h' => forL_inv I (ds := ds) (fun d' hd => hs d' (List.mem_cons_of_mem _ hd)) hz h'
end DD

set_option Elab.async false
set_option linter.all false
set_option maxRecDepth 100000
set_option maxHeartbeats 4000000
/-! DD17: repr((x, y)) of two names, which stay one's own. -/
namespace DD
open PySem PySem.Spec PyProof.Rows L2
section
variable {K : PySem.W.Frag} {W : Fix} {F H : Hp} {σ : L2.St} {δ : Env'}
/-- data of a slot, read over a larger frozen part -/
theorem RB.reads {b : B} {v : V} (h : RB K W F H b v) (hu : b.isU = false) (fh : Same F H) : ∃ F', Same F F' ∧ Same F' H ∧ Rp K F' b.d v := by
  cases b with
  | p d => exact ⟨F, Same.refl F, fh, h⟩
  | u w n => cases hu
  | n ds =>
    obtain ⟨t, xs, rfl, h1, h2, _⟩ := h
    refine ⟨F, Same.refl F, fh, ?_⟩
    show Rp K F (.tup ds) (.ref t)
    unfold Rp
    exact ⟨t, xs, rfl, h1, h2⟩
  | o d =>
    obtain ⟨a, rfl, h1, h2, h3⟩ := h
    obtain ⟨o, ho⟩ := h3.some
    refine ⟨upd F a o, same_upd h1, fun c u e => ?_, own_frozen h3 ho h1⟩
    by_cases q : c = a
    · subst q
      rw [upd_same] at e
      rw [ho]
      exact e
    · rw [upd_ne q] at e
      exact fh c u e
end
section
variable {X : Cx} {W : Fix} {x y : Str} {i j : Nat} {p p1 p2 p3 pos : Pos} {kk : Nat}
def dReprPair (i j : Nat) : TD := fun δ Q => ∃ b1 b2 c, δ[i]? = some (some b1) ∧ δ[j]? = some (some b2) ∧ b1.isU = false ∧ b2.isU = false ∧ toPyR (.tup [b1.d, b2.d]) = some c ∧ Shw c ∧ Q (.p (.str c.shown)) δ
theorem de_reprPair (gu : X.A.guards = some []) (hu : X.A.units + 64 < cLine) (hsy : ∃ o, X.K.lookup sysModules = some o) (hm : X.mg "repr" = none) (hi : X.N[i]? = some x) (hj : X.N[j]? = some y) (hg : Gl X "repr" := by exact rfl)
    (hv : Vis X.env.scope x := by first | exact Or.inl rfl | exact Or.inr (Or.inl rfl) | exact Or.inr (Or.inr rfl)) (hw : Vis X.env.scope y := by first | exact Or.inl rfl | exact Or.inr (Or.inl rfl) | exact Or.inr (Or.inr rfl))
    (d1 : (x == ("__debug__" : Str)) = false := by decide) (d2 : (x == ("__classdict__" : Str)) = false := by decide) (d3 : (y == ("__debug__" : Str)) = false := by decide) (d4 : (y == ("__classdict__" : Str)) = false := by decide) :
    DE X W (.Call (.Name "repr" p) [.Tuple [.Name x p1, .Name y p2] kk p3] [] pos) (dReprPair i j) :=
  .of (pe_callB (X := X) (call_repr gu hu hsy) hg hm bt_repr (pa_cons (pe_tup (pa_cons (pe_var hi hv d1 d2) (pa_cons (pe_var hj hw d3 d4) pa_nil))) pa_nil)) fun F H σ δ Q S q => by
    obtain ⟨b1, b2, c, e1, e2, u1, u2, tc, sh, q⟩ := q
    obtain ⟨v1, g1, r1⟩ := S.get i _ e1
    obtain ⟨v2, g2, r2⟩ := S.get j _ e2
    refine ⟨v1, g1, v2, g2, by show 2 ≤ sizeLine; decide, fun t ht => ?_⟩
    obtain ⟨F1, s1, s2, z1⟩ := r1.reads u1 S.fh
    have r2' : ∃ F2, Same F1 F2 ∧ Same F2 H ∧ Rp X.K F2 b2.d v2 := by
      obtain ⟨F2, t1, t2, z2⟩ := r2.reads u2 S.fh
      refine ⟨fun a => match F1 a with | some o => some o | none => F2 a, fun a o h => by simp only [h], fun a o h => ?_, Rp.mono (fun a o h => ?_) _ _ z2⟩
      · cases e : F1 a with
        | some u =>
          simp only [e] at h
          cases h
          exact s2 a o e
        | none =>
          simp only [e] at h
          exact t2 a o h
      · cases e : F1 a with
        | some u =>
          have h3 := s2 a u e
          rw [t2 a o h] at h3
          exact h3.symm
        | none => exact h
    obtain ⟨F2, s3, s4, z2⟩ := r2'
    have nF2 : F2 t = none := s4.free ht
    refine ⟨.ref t, c, rfl, ⟨upd F2 t (.tup [v1, v2]), .tup [b1.d, b2.d], fun a o h => ?_, ?_, tc⟩, sh, ?_⟩
    · by_cases e : a = t
      · subst e
        rw [upd_same] at h ⊢
        exact h
      · rw [upd_ne e] at h ⊢
        exact s4 a o h
    · unfold Rp
      have m := same_upd (o := .tup [v1, v2]) nF2
      exact ⟨t, _, rfl, .inl (.inl upd_same), .cons (Rp.mono (s3.trans m) _ _ z1) (.cons (Rp.mono m _ _ z2) .nil)⟩
    · exact .mk (S.newO ht) (by unfold Rp; rfl) q
end
end DD

set_option Elab.async false
set_option linter.all false
set_option maxRecDepth 100000
set_option maxHeartbeats 4000000
/-! DD18: what may be shown, by data; dict displays; d[k]; str(int). -/
namespace DD
open PySem PySem.Spec PyProof.Rows L2

/-! ### data that may be shown -/
structure Rs (n k : Nat) (d : D) : Prop where
  ex : ∃ c, toPyR d = some c ∧ c.showable = true ∧ c.depth ≤ k ∧ c.leavesShort 60 = true ∧ c.bulk ≤ n
theorem Rs.mono {n k n' k' : Nat} {d : D} (h : Rs n k d) (hn : n ≤ n') (hk : k ≤ k') : Rs n' k' d := by
  obtain ⟨c, h1, h2, h3, h4, h5⟩ := h.ex
  exact ⟨c, h1, h2, Nat.le_trans h3 hk, h4, Nat.le_trans h5 hn⟩
theorem Rs.shw {n k : Nat} {d : D} (h : Rs n k d) (hk : k ≤ 50) (hn : n ≤ 100000) : ∃ c, toPyR d = some c ∧ Shw c := by
  obtain ⟨c, h1, h2, h3, h4, h5⟩ := h.ex
  refine ⟨c, h1, h2, Nat.le_trans h3 hk, ?_⟩
  have := PyData.shown_le_bulk 60 (by decide) c h4
  rw [sizeLine_eq]
  have h6 : (60 + 2) * c.bulk ≤ 62 * 100000 := Nat.mul_le_mul (Nat.le_refl _) (Nat.le_trans h5 hn)
  omega
theorem rs_non : Rs 0 0 .non := ⟨_, rfl, rfl, Nat.le_refl _, rfl, Nat.le_refl _⟩
theorem rs_bl {b : Bool} : Rs 0 0 (.bl b) := ⟨_, rfl, rfl, Nat.le_refl _, rfl, Nat.le_refl _⟩
theorem rs_int {i : Int} (h : i.natAbs < 10 ^ 50) : Rs 0 0 (.int i) := by
  refine ⟨_, rfl, ?_, Nat.le_refl _, ?_, Nat.le_refl _⟩
  · refine decide_eq_true ?_
    by_cases h0 : i.natAbs = 0
    · rw [h0]
      decide
    · exact (Nat.log2_lt h0).mpr (Nat.lt_of_lt_of_le h (by decide +kernel))
  · show decide _ = true
    refine decide_eq_true ?_
    have := int_text_length_le10 (k := 50) (by decide) h
    show (Str.ofString (toString i)).length ≤ 60
    rw [PySem.ofString_length]
    omega
theorem rs_str {x : Str} {n : Nat} (h : ∀ c ∈ x.cps.toList, c < 1114112) (hl : x.length ≤ n) : Rs n 0 (.str x) := by
  refine ⟨_, rfl, rfl, Nat.le_refl _, ?_, hl⟩
  simp only [PyData.leavesShort, List.all_eq_true, decide_eq_true_eq]
  intro c hc
  exact Nat.lt_of_lt_of_le (h c hc) (by decide)
theorem rs_all {n k : Nat} : ∀ {ds : List D}, (∀ d ∈ ds, Rs n k d) → ∃ cs, toPyRL ds = some cs ∧ PyData.showableAll cs = true ∧ PyData.depthAll cs ≤ k ∧ PyData.leavesShortAll 60 cs = true ∧ PyData.bulkAll cs ≤ ds.length * (n + 1)
  | [], _ => ⟨[], rfl, rfl, Nat.zero_le _, rfl, Nat.zero_le _⟩
  | d :: ds, h => by
    obtain ⟨cs, h1, h2, h3, h4, h5⟩ := rs_all (ds := ds) fun d hd => h d (List.mem_cons_of_mem _ hd)
    obtain ⟨c, g1, g2, g3, g4, g5⟩ := (h d List.mem_cons_self).ex
    refine ⟨c :: cs, ?_, by simp only [PyData.showableAll, g2, h2, Bool.and_self], Nat.max_le.mpr ⟨g3, h3⟩, by simp only [PyData.leavesShortAll, g4, h4, Bool.and_self], ?_⟩
    · show (toPyR d).bind _ = _
      rw [g1, Option.bind_some, h1] <;> rfl
    · show c.bulk + 1 + PyData.bulkAll cs ≤ (ds.length + 1) * (n + 1)
      rw [Nat.add_mul]
      omega
theorem rs_lst {n k m : Nat} {ds : List D} (h : ∀ d ∈ ds, Rs n k d) (hm : ds.length ≤ m) : Rs (m * (n + 1)) (k + 1) (.lst ds) := by
  obtain ⟨cs, h1, h2, h3, h4, h5⟩ := rs_all h
  refine ⟨.list cs, ?_, h2, Nat.succ_le_succ h3, h4, Nat.le_trans h5 (Nat.mul_le_mul_right _ hm)⟩
  show (toPyRL ds).map _ = _
  rw [h1] <;> rfl
theorem rs_tup {n k m : Nat} {ds : List D} (h : ∀ d ∈ ds, Rs n k d) (hm : ds.length ≤ m) : Rs (m * (n + 1)) (k + 1) (.tup ds) := by
  obtain ⟨cs, h1, h2, h3, h4, h5⟩ := rs_all h
  refine ⟨.tuple cs, ?_, h2, Nat.succ_le_succ h3, h4, Nat.le_trans h5 (Nat.mul_le_mul_right _ hm)⟩
  show (toPyRL ds).map _ = _
  rw [h1] <;> rfl
theorem rs_dct0 : Rs 0 1 (.dct [] []) := ⟨_, rfl, rfl, by decide, rfl, Nat.le_refl _⟩

/-! ### == of equal data -/
theorem eqD_same {k : Nat} {d : D} (hk : k ≤ 60) (h : Sh k d) : eqD d d = some true := by
  obtain ⟨c, h1, h2, h3⟩ := h
  unfold eqD
  split
  · rw [decide_eq_true rfl]
  · have hs : SeqAt.shaped c = true := by
      unfold SeqAt.shaped
      rw [h2, decide_eq_true (show c.depth ≤ 64 by omega)]
      rfl
    rw [h1, Option.bind_some, Option.bind_some, hs, if_pos (by rfl), SeqAt.eqv_refl c h2]

/-! ### dicts as they are written -/
section
variable {X : Cx} {W : Fix} {pos : Pos}
structure DV (X : Cx) (ks : List Key) (keys : List (Option Expr)) (values : List Expr) (trs : List (TE × TE)) (t : TDA) : Prop where
  pp : ∀ pos, PPs X pos keys values trs
  run : ∀ (W : Fix) (F H : Hp) (σ : L2.St) (δ : Env') (Q : List D → Env' → Prop), SD X.K W F H σ δ → t δ Q →
    tPairs trs σ H fun ps H' => ∃ (F' : Hp) (xs : List V) (ds : List D) (δ' : Env'), ps = (ks.zip xs).map (fun kv => (kV kv.1, kv.2)) ∧ xs.length = ks.length ∧ Same F F' ∧ SD X.K W F' H' σ δ' ∧ RpL X.K F' ds xs ∧ Q ds δ'
theorem tPairs_imp : ∀ {trs : List (TE × TE)} {σ : L2.St} {H : Hp} {Q Q' : List (V × V) → Hp → Prop}, (∀ p ∈ trs, ∀ (σ : L2.St) (H : Hp) (Q Q' : VK), p.1 σ H Q → (∀ v H', Q v H' → Q' v H') → p.1 σ H Q') → (∀ p ∈ trs, ∀ (σ : L2.St) (H : Hp) (Q Q' : VK), p.2 σ H Q → (∀ v H', Q v H' → Q' v H') → p.2 σ H Q') →
    tPairs trs σ H Q → (∀ ps H', Q ps H' → Q' ps H') → tPairs trs σ H Q'
  | [], _, _, _, _, _, _, h, i => i _ _ h
  | (tk, tv) :: r, σ, H, Q, Q', m1, m2, h, i => m1 _ List.mem_cons_self _ _ _ _ h fun x H1 h1 => m2 _ List.mem_cons_self _ _ _ _ h1 fun y H2 h2 =>
    tPairs_imp (fun p hp => m1 p (List.mem_cons_of_mem _ hp)) (fun p hp => m2 p (List.mem_cons_of_mem _ hp)) h2 fun ps H3 h3 => i _ _ h3
structure DVm (trs : List (TE × TE)) : Prop where
  m1 : ∀ p ∈ trs, ∀ (σ : L2.St) (H : Hp) (Q Q' : VK), p.1 σ H Q → (∀ v H', Q v H' → Q' v H') → p.1 σ H Q'
  m2 : ∀ p ∈ trs, ∀ (σ : L2.St) (H : Hp) (Q Q' : VK), p.2 σ H Q → (∀ v H', Q v H' → Q' v H') → p.2 σ H Q'
structure DVs (X : Cx) (ks : List Key) (keys : List (Option Expr)) (values : List Expr) (t : TDA) : Prop where
  ex : ∃ trs, DV X ks keys values trs t ∧ DVm trs
theorem dv_nil : DVs X [] [] [] dNil := ⟨[], ⟨fun _ => pps_nil, fun W F H σ δ Q S q => ⟨F, [], [], δ, rfl, rfl, Same.refl F, S, .nil, q⟩⟩, ⟨(fun _ h => by cases h), fun _ h => by cases h⟩⟩
theorem dv_cons {ek e : Expr} {k : Key} {ks : List Key} {keys : List (Option Expr)} {values : List Expr} {te : TD} {t : TDA} (hk : keyE ek = some k) (h : ∀ W, DE X W e te) (g : DVs X ks keys values t) : DVs X (k :: ks) (some ek :: keys) (e :: values) (dCons te t) := by
  obtain ⟨trs, g, m⟩ := g.ex
  refine ⟨(tC (kV k), cE X e) :: trs, ⟨fun pos => pps_cons (key_pe hk) cE_pe (g.pp pos), fun W F H σ δ Q S q => ?_⟩, ⟨fun p hp => ?_, fun p hp => ?_⟩⟩
  · refine ((h W).plain S q).imp fun y H2 h2 => ?_
    obtain ⟨F1, d, δ1, e1, S1, r1, q1⟩ := h2
    refine tPairs_imp m.m1 m.m2 (g.run W F1 H2 σ δ1 _ S1 q1) fun ps H3 h3 => ?_
    obtain ⟨F2, xs, ds, δ2, rfl, hl, e2, S2, r2, q2⟩ := h3
    exact ⟨F2, y :: xs, d :: ds, δ2, rfl, by rw [List.length_cons, List.length_cons, hl], e1.trans e2, S2, .cons (Rp.mono e2 d y r1) r2, q2⟩
  · rcases List.mem_cons.mp hp with rfl | hp
    · exact fun σ H Q Q' h i => i _ _ h
    · exact m.m1 p hp
  · rcases List.mem_cons.mp hp with rfl | hp
    · exact fun σ H Q Q' h i => cE.imp h i
    · exact m.m2 p hp
theorem mergeK_new : ∀ {more kvs : List (Key × V)}, (more.map (·.1)).Nodup → (∀ kv ∈ more, valV kvs kv.1 = none) → mergeK kvs more = kvs ++ more
  | [], kvs, _, _ => (List.append_nil _).symm
  | (k, v) :: more, kvs, nd, hn => by
    have e : mergeK kvs ((k, v) :: more) = mergeK (putK kvs k v) more := rfl
    rw [e, putK_new v (hn _ List.mem_cons_self)]
    have nd' := List.nodup_cons.mp (show (k :: more.map (·.1)).Nodup from nd)
    rw [mergeK_new nd'.2 fun kv hkv => ?_, List.append_assoc]
    · rfl
    · have h1 := hn kv (List.mem_cons_of_mem _ hkv)
      have h2 : ¬ k = kv.1 := fun z => nd'.1 (by rw [z]; exact List.mem_map_of_mem hkv)
      unfold valV at h1 ⊢
      rw [List.find?_append]
      cases hf : kvs.find? fun p => decide (p.1 = kv.1) with
      | some p =>
        rw [hf] at h1
        cases h1
      | none => simp [h2]
theorem zip_keys : ∀ {ks : List Key} {xs : List V}, xs.length = ks.length → (ks.zip xs).map (·.1) = ks
  | [], _, _ => rfl
  | k :: ks, [], h => by simp at h
  | k :: ks, x :: xs, h => by rw [List.zip_cons_cons, List.map_cons, zip_keys (ks := ks) (xs := xs) (by simpa using h)]
def dDctN (ks : List Key) (t : TDA) : TD := fun δ Q => t δ fun ds δ1 => Q (.o (.dct ks ds)) δ1
theorem de_dctN {keys : List (Option Expr)} {values : List Expr} {ks : List Key} {t : TDA} (g : DVs X ks keys values t) (nd : ks.Nodup) (hall : keys.all (·.isSome) = true) (hl : keys.length = values.length) (h0 : keys ≠ []) (h15 : keys.length ≤ 15) (hk : ks.length ≤ 15) : DE X W (.Dict keys values pos) (dDctN ks t) := by
  obtain ⟨trs, g, m⟩ := g.ex
  refine .of (pe_disp (X := X) (g.pp pos) hall hl h0 h15) fun F H σ δ Q S q p hp => ?_
  have S1 := S.newO (o := .dK []) hp
  have h0 := S.fresh0 hp
  have hF := S.freshF hp
  have hP : W.P ≠ some p := fun z => by
    obtain ⟨_, ⟨o, z2⟩, _⟩ := S.fp p z
    rw [hp] at z2
    cases z2
  have Sh := S1.held (o := .dK []) upd_same h0 hF hP fun j c h1 h2 h3 => by
    obtain ⟨u, h4, h5⟩ := S.get j c h1
    rw [h3] at h4
    cases h4
    obtain ⟨a', o, z, h6, _⟩ := h5.there h2
    cases z
    rw [hp] at h6
    cases h6
  refine tPairs_imp m.m1 m.m2 (g.run (W.hold p (.dK [])) F _ σ δ _ Sh q) fun ps H1 h1 => ?_
  obtain ⟨F1, xs, ds, δ1, rfl, hlx, e1, S2, r1, q1⟩ := h1
  obtain ⟨S3, h3, hF1, hn⟩ := S2.unheld h0 (S.f0.free hF) hP
  refine ⟨h3, ks.zip xs, rfl, by rw [List.length_zip]; omega, ?_⟩
  have em : mergeK [] (ks.zip xs) = ks.zip xs := by
    rw [mergeK_new (by rw [zip_keys hlx]; exact nd) (fun _ _ => rfl), List.nil_append]
  rw [em]
  exact ⟨F1, .o (.dct ks ds), δ1, e1, S3.turn h0 hF1 hn, ⟨p, rfl, hF1, h0, xs, upd_same, r1, hlx.symm⟩, fun _ => hn, q1⟩

/-! ### d[k], too -/
def keyD : D → Option Key
  | .int i => some (.inl i)
  | .str x => some (.inr x)
  | _ => none
def lookD : List Key → List D → Key → Option D
  | k :: ks, d :: ds, j => if k = j then some d else lookD ks ds j
  | _, _, _ => none
theorem rp_key {K : PySem.W.Frag} {F : Hp} {d : D} {v : V} {k : Key} (h : Rp K F d v) (e : keyD d = some k) : v = kV k := by
  cases d <;> first | (cases e; done) | skip
  · cases e
    exact rpInt h
  · cases e
    exact rpStr h
theorem look_val {K : PySem.W.Frag} {F : Hp} : ∀ {ks : List Key} {ds : List D} {xs : List V} {k : Key} {d : D}, RpL K F ds xs → lookD ks ds k = some d → ∃ x, valV (ks.zip xs) k = some x ∧ Rp K F d x
  | [], _, _, _, _, _, e => by cases e
  | _ :: _, [], _, _, _, _, e => by cases e
  | j :: ks, d' :: ds, xs, k, d, h, e => by
    unfold RpL at h
    obtain ⟨x, r, rfl, h1, h2⟩ := h
    unfold lookD at e
    rw [List.zip_cons_cons]
    by_cases hj : j = k
    · rw [if_pos hj] at e
      cases e
      exact ⟨x, valV_pos hj, h1⟩
    · rw [if_neg hj] at e
      obtain ⟨y, e1, e2⟩ := look_val h2 e
      exact ⟨y, by rw [valV_neg hj]; exact e1, e2⟩
def rIxDct : R2 := fun x y H Q => ∃ a v, x = .ref a ∧ DGet H a y (some v) ∧ Q v H
theorem ix_dct (hu : X.A.units + 64 < cLine) : IxR X rIxDct := by
  intro value slice pins s σ H x y v u Q I rx ry h hs
  obtain ⟨a, z, rfl, g, q⟩ := h
  cases rx
  exact tail_any (dict_typeIs I g) PySem.F.slot_dict_getitem.lookup (d_getItem (by omega) I g ry fun w' s' I' r' => ⟨z, H, I', r', q⟩) hs
def itemD2 : D → D → Option D
  | .dct ks ds, y => (keyD y).bind (lookD ks ds)
  | x, y => itemD x y
def ixG2 : D → D → (B → Prop) → Prop := fun x y Q => ∃ d, itemD2 x y = some d ∧ Q (.p d)
theorem rd_ix2 {K : PySem.W.Frag} : RD K (fun x y H Q => rIx K x y H Q ∨ rIxDct x y H Q) ixG2 := by
  intro W F H σ δ x y c d Q Z S rc rd g hZ
  obtain ⟨e, he, q⟩ := g
  have other : itemD c d = some e → rIx K x y H Z := fun he => rd_ix W F H σ δ x y c d Q Z S rc rd ⟨e, he, q⟩ hZ
  cases c <;> first | exact .inl (other he) | skip
  rename_i ks ds
  have he : (keyD d).bind (lookD ks ds) = some e := he
  cases hk : keyD d with
  | none =>
    rw [hk] at he
    cases he
  | some k =>
    rw [hk] at he
    unfold Rp at rc
    obtain ⟨a, xs, rfl, h1, h2, _⟩ := rc
    obtain ⟨v, e1, e2⟩ := look_val h2 (show lookD ks ds k = some e from he)
    have ey := rp_key rd hk
    subst ey
    refine .inr ⟨a, v, rfl, ?_, hZ _ _ (mkP S e2 q)⟩
    rw [← e1]
    exact DGet.k (S.fh _ _ h1)
theorem de_ix2 {a b : Expr} {ta tb : TD} (hu : X.A.units + 64 < cLine) (ha : DE X W a ta) (hb : DE X W b tb) (hs : PlainIx b) : DE X W (.Subscript a b pos) (dOp ixG2 ta tb) :=
  .of (pe_ix (X := X) (ix_seq.or (ix_dct hu)) cE_pe cE_pe hs) fun _ _ _ _ _ S q => two ha hb rd_ix2 S q

/-! ### str(i) -/
def rStr2 : List V → Hp → VK → Prop := fun xs H Q => (∃ a, xs = [.str a] ∧ Q (.str a) H) ∨ ∃ i, xs = [.int i] ∧ i.natAbs.log2 < 1920 ∧ Q (.str (toString i)) H
theorem call_str2 : CallR X (.type "str") rStr2 := by
  intro pins s σ H xs us Q I r h
  rcases h with h | h
  · exact SkE.call_str_str pins s σ H xs us Q I r h
  · exact call_str_int pins s σ H xs us Q I r h
def strG2 : List D → (B → Prop) → Prop := fun ds Q => ∃ d, ds = [d] ∧ match d with
  | .str s => Q (.p (.str s))
  | .int i => i.natAbs.log2 < 1920 ∧ Q (.p (.str (Str.ofString (toString i))))
  | _ => False
theorem rc_str2 {K : PySem.W.Frag} : RC K rStr2 strG2 := by
  intro W F H σ δ xs ds Q Z S r g hZ
  obtain ⟨d, rfl, g⟩ := g
  obtain ⟨y, rfl, ry⟩ := rpL1x r
  cases d <;> first | exact g.elim | skip
  · rename_i i
    rw [rpInt ry]
    exact .inr ⟨i, rfl, g.1, hZ _ _ (mkP S (by unfold Rp; rfl) g.2)⟩
  · rename_i x
    rw [rpStr ry]
    exact .inl ⟨x, rfl, hZ _ _ (mkP S (by unfold Rp; rfl) g)⟩
end
/-! ### slices from the start, to the end -/
theorem cutD_take {ds : List D} {k : Nat} (h : k ≤ ds.length) : cutD ds none (some (k : Int)) = ds.take k := by
  unfold cutD
  rw [HT.sIx_nat, HT.sIx_none, List.drop_zero, Nat.sub_zero, Nat.min_eq_left h]
theorem cutD_drop {ds : List D} {k : Nat} (h : k ≤ ds.length) : cutD ds (some (k : Int)) none = ds.drop k := by
  unfold cutD
  rw [HT.sIx_nat, HT.sIx_none, Nat.min_eq_left h]
  exact List.take_of_length_le (by rw [List.length_drop]; omega)
/-! ### for, by what stays true of what was walked -/
theorem forL_pre (I : List D → Env' → Prop) {g : TGD} {tb : TSD} {Z : EndsD} : ∀ {ds pre : List D}, (∀ (p : List D) (d : D) (r : List D) (δ : Env'), pre ++ ds = p ++ d :: r → I p δ → ∀ N : Env' → Prop, (∀ δ', I (p ++ [d]) δ' → N δ') → g d δ fun δ1 => tb { Z with nx := N, ct := N, bk := Z.nx } δ1) → (∀ δ, I (pre ++ ds) δ → Z.nx δ) → ∀ {δ}, I pre δ → forL g tb Z ds δ
  | [], pre, _, hz, δ, h => hz δ (by rw [List.append_nil]; exact h)
  | d :: ds, pre, hs, hz, δ, h => hs pre d ds δ rfl h _ fun δ' h' => forL_pre I (ds := ds) (pre := pre ++ [d]) (fun p d' r δ e => hs p d' r δ (by rw [← e, List.append_assoc]; rfl)) (fun δ q => hz δ (by rw [List.append_assoc] at q; exact q)) h'
/-- one statement at a time -/
theorem dseq {t u : TSD} {Z : EndsD} {δ : Env'} (h : t { Z with nx := u Z } δ) : dSeq t u Z δ := h
/-- a comprehension, by what stays true of what was walked and made -/
theorem lcL_pre (I : List D → List D → Env' → Prop) {g : TGD} {tt : TDT} {te : TD} {vs : List Nat} {Q : List D → Env' → Prop} (hz : ∀ p acc δ, I p acc δ → acc.length < sizeLine) : ∀ {ds pre acc : List D} {δ : Env'},
    (∀ (p : List D) (d : D) (r acc : List D) (δ : Env'), pre ++ ds = p ++ d :: r → I p acc δ → ∀ (N : D → Env' → Prop) (M : Env' → Prop), (∀ y δ', I (p ++ [d]) (acc ++ [y]) (wipeE δ' vs) → N y δ') → (∀ δ', I (p ++ [d]) acc (wipeE δ' vs) → M δ') → g d δ fun δ1 => tt δ1 fun k δ2 => if k = true then dp te δ2 N else M δ2) →
    (∀ acc δ, I (pre ++ ds) acc δ → Q acc δ) → I pre acc δ → lcL g tt te vs Q ds acc δ
  | [], pre, acc, δ, _, hq, h => hq acc δ (by rw [List.append_nil]; exact h)
  | d :: ds, pre, acc, δ, hs, hq, h => by
    have more : ∀ acc' δ', I (pre ++ [d]) acc' δ' → lcL g tt te vs Q ds acc' δ' := fun acc' δ' h' => lcL_pre I hz (pre := pre ++ [d]) (fun p d' r a e q => hs p d' r a e (by rw [← q, List.append_assoc]; rfl)) (fun a e q => hq a e (by rw [List.append_assoc] at q; exact q)) h'
    exact hs pre d ds acc δ rfl h (fun y δ3 => acc.length < sizeLine ∧ lcL g tt te vs Q ds (acc ++ [y]) (wipeE δ3 vs)) (fun δ2 => lcL g tt te vs Q ds acc (wipeE δ2 vs)) (fun y δ' q => ⟨hz _ _ _ h, more _ _ q⟩) fun δ' q => more _ _ q
end DD

set_option Elab.async false
set_option linter.all false
set_option maxRecDepth 100000
set_option maxHeartbeats 8000000
namespace K
open PySem PySem.Spec PyProof.Rows L2 DD
def topS (i : Nat) : Stmt := PySem.Challenge.pw_everypair_k05_marks_of_lists.main.body.getD i (.Pass ⟨0, 0, 0, 0⟩)
section
variable {P : Program} {w : World} {K : PySem.W.Frag} {mg : Str → Option Value} {base : Heap}
abbrev s__law_draw : Stmt := topS 14
theorem sc__law_draw : FnScope ["_law_purse_here", "_law_many", "_law_drawn", "_law_turn", "_law_number"] ["_law_purse_here", "_law_many"] (defScope s__law_draw) := ⟨rfl, rfl, rfl, by decide +kernel, rfl, by decide +kernel, by decide +kernel⟩
/-- a draw: any number below k -/
def spdDraw : Spd := fun bs R _ => ∃ n k, bs = [.u true n, .p (.int k)] ∧ 0 < k ∧ k < 10 ^ 2000 ∧ n < 10 ^ 6 ∧ ∀ d, 0 ≤ d → d < k → R (.p (.int d)) (n + 1)
theorem cal_draw (D : DefAt K mg "_law_draw" s__law_draw) (mi : mg "int" = none) : Cal P w K mg base "_law_draw" 1 ["_law_purse_here", "_law_many"] spdDraw := by
  obtain ⟨f, fd, F, hm⟩ := D.ex
  refine ⟨f, fd, gn_of F sc__law_draw (fun vs H Q E h => ?_) (fun cdv A outer s H vs Q E hg hr h => ?_), hm, F.kp, F.binds fun _ _ _ _ _ _ us hl => match us, hl with | [_, _], _ => rfl⟩
  · obtain ⟨F0, P0, bs, R, ED, _, ra, _, ⟨n, k, rfl, _⟩, _⟩ := h
    rw [← Paired.length ra]
    rfl
  · obtain ⟨F0, P0, bs, R, ED, fh, ra, hP, ⟨n, k, rfl, k0, kb, nb, q⟩, hQ, _⟩ := h
    have nd := sc__law_draw.nd
    have cI : ∀ {X : Cx}, CallR X (.type "int") (fun xs H Q => (∃ i, xs = [.int i] ∧ Q (.int i) H) ∨ ∃ k, xs = [.bl k] ∧ Q (.int (if k then 1 else 0)) H) := call_int1
    have px0 := fun (X : Cx) (e : Expr) => trivial
    refine ⟨_, pss_cons (ps_if (pt_cmpR op_gt (pe_ix ix_seq (pv 0) pe_int fun _ _ => rfl) pe_int rfl)
        (pss_cons (ps_set (i := 2) nd rfl (.inl rfl) (pe_op op_mod (pe_callTy call_int1 (by exact rfl) mi bt_int (pa_cons (pe_ix ix_seq (pv 0) pe_int fun _ _ => rfl) pa_nil)) (pv 1)))
          (pss_cons (ps_asg (pe_op op_fdivW (pe_ix ix_seq (pv 0) pe_int fun _ _ => rfl) (pv 1)) (pg_sub (pv 0) pe_int set_list))
            (pss_one (ps_ret (pv 2))))) pss_nil)
      (pss_cons (ps_set (i := 3) nd rfl (.inl rfl) (pe_op op_add (pe_ix ix_seq (pv 0) pe_int fun _ _ => rfl) pe_int))
      (pss_cons (ps_asg (pv 3) (pg_sub (pv 0) pe_int set_list))
      (pss_cons (ps_set (i := 4) nd rfl (.inl rfl) (pe_op op_mod (pe_callTy call_int1 (by exact rfl) mi bt_int (pa_cons (pe_op op_mulW (pe_op op_add (pe_ix ix_seq (pv 0) pe_int fun _ _ => rfl) (pe_op op_mulW pe_int (pv 3))) (pe_op op_add (pe_op op_mulW (pv 3) (pv 3)) pe_int)) pa_nil)) pe_int))
      (pss_cons (ps_set (i := 4) nd rfl (.inl rfl) (pe_op op_mod (pe_callTy call_int1 (by exact rfl) mi bt_int (pa_cons (pe_op op_add (pe_op op_mulW (pv 4) (pv 4)) (pv 3)) pa_nil)) pe_int))
      (pss_one (ps_ret (pe_op op_mod (pe_op op_fdivW (pe_op op_mod (pe_callTy call_int1 (by exact rfl) mi bt_int (pa_cons (pe_op op_mulW (pv 4) pe_int) pa_nil)) pe_int) pe_int) (pv 1)))))))), ?_⟩
    cases ra with
    | cons r0 rr =>
    cases rr with
    | cons r1 rr =>
    cases rr
    obtain ⟨_, p, x, y, z, rfl, rfl, hF, hH, hx0, hx1, hy0, hy1, hz0, hz1⟩ := r0
    have e1 := rpInt (K := K) (F := F0) r1
    subst e1
    -- what the draw leaves
    have fin : ∀ (x' z' d : Int), 0 ≤ x' → x' < 10 ^ 400 → 0 ≤ z' → z' ≤ (n + 1 : Nat) → 0 ≤ d → d < k → Q (.int d) (upd H p (.lst [.int x', .int y, .int z'])) := by
      intro x' z' d h1 h2 h3 h4 h5 h6
      refine hQ (.int d) _ F0 (.p (.int d)) (n + 1) ⟨Same.refl F0, fun a o e => ?_, fun a o e ne => ?_, fun a o e => .inl e, fun a e => ?_⟩ (by show Rp K F0 (.int d) (.int d); unfold Rp; rfl) (q d h5 h6)
      · rw [upd_ne (fun z => by rw [z, hF] at e; cases e)]
        exact fh a o e
      · rw [upd_ne (fun z => ne (by rw [z]))]
        exact e
      · cases e
        exact ⟨hF, x', y, z', upd_same, h1, h2, hy0, hy1, h3, h4⟩
    have hS : SqL K H p [.int x, .int y, .int z] := .of hH
    have i0 : ∀ {H' : Hp} {a b c : V} {Z : VK}, SqL K H' p [a, b, c] → Z a H' → rIx K (.ref p) (.int 0) H' Z := fun hs q => .inl ⟨p, _, 0, _, rfl, rfl, hs, rfl, q⟩
    have i1 : ∀ {H' : Hp} {a b c : V} {Z : VK}, SqL K H' p [a, b, c] → Z b H' → rIx K (.ref p) (.int 1) H' Z := fun hs q => .inl ⟨p, _, 1, _, rfl, rfl, hs, rfl, q⟩
    have i2 : ∀ {H' : Hp} {a b c : V} {Z : VK}, SqL K H' p [a, b, c] → Z c H' → rIx K (.ref p) (.int 2) H' Z := fun hs q => .inl ⟨p, _, 2, _, rfl, rfl, hs, rfl, q⟩
    have kn : k.natAbs < 2 ^ 8000 := by
      have : (10 : Int) ^ 2000 < 2 ^ 8000 := by decide +kernel
      omega
    refine ⟨.ref p, rfl, i0 hS ⟨x, 0, rfl, rfl, decide (0 < x), rfl, ?_⟩⟩
    refine ite2 (fun hx => ?_) (fun hx => ?_)
    · refine ⟨.ref p, rfl, i0 hS (.inl ⟨x, rfl, .int k, rfl, x, k, rfl, rfl, k0, ?_⟩)⟩
      refine ⟨.ref p, rfl, i0 hS ⟨.int k, rfl, x, k, rfl, rfl, wide_div k0 kn (by decide) (by decide), .ref p, rfl, p, _, 0, 0, rfl, rfl, hH, rfl, ?_⟩⟩
      refine ⟨.int (x % k), rfl, fin (x / k) z (x % k) (Int.ediv_nonneg hx0 (Int.le_of_lt k0)) (Int.lt_of_le_of_lt (Int.ediv_le_self _ hx0) hx1) hz0 (by omega) (Int.emod_nonneg _ (by omega)) (Int.emod_lt_of_pos _ k0)⟩
    · have zb : z + 1 < 2 ^ 32 := by omega
      refine ⟨.ref p, rfl, i2 hS ⟨z, 1, rfl, rfl, ?_⟩⟩
      refine ⟨.int (z + 1), rfl, .ref p, rfl, p, _, 2, 2, rfl, rfl, hH, rfl, ?_⟩
      have hS2 : SqL K (upd H p (.lst [.int x, .int y, .int (z + 1)])) p [.int x, .int y, .int (z + 1)] := .of upd_same
      refine ⟨.ref p, rfl, i1 hS2 ⟨.int (z + 1), rfl, 104729, z + 1, rfl, rfl, ?_, y, _, rfl, rfl, .int (z + 1), rfl, .int (z + 1), rfl, z + 1, z + 1, rfl, rfl, ?_, _, 7919, rfl, rfl, _, _, rfl, rfl, ?_, .inl ⟨_, rfl, _, _, rfl, rfl, (by show (0 : Int) < 2147483629; decide), ?_⟩⟩⟩
      · exact wide_mul (a := 20) (b := 40) (by decide) (by omega) (by decide) (by decide) (by decide)
      · exact wide_mul (a := 40) (b := 40) (by omega) (by omega) (by decide) (by decide) (by decide)
      · exact wide_mul (a := 60) (b := 90) (by omega) (by
          have h1 : (z + 1).natAbs * (z + 1).natAbs ≤ 2 ^ 32 * 2 ^ 32 := Nat.mul_le_mul (by omega) (by omega)
          have h2 : ((z + 1) * (z + 1)).natAbs = (z + 1).natAbs * (z + 1).natAbs := Int.natAbs_mul _ _
          omega) (by decide) (by decide) (by decide)
      · have bd : ∀ i : Int, 0 ≤ i % 2147483629 ∧ i % 2147483629 < 2147483629 := fun i => ⟨Int.emod_nonneg _ (by decide), Int.emod_lt_of_pos _ (by decide)⟩
        have bd2 : ∀ i : Int, 0 ≤ i % 2147483587 ∧ i % 2147483587 < 2147483587 := fun i => ⟨Int.emod_nonneg _ (by decide), Int.emod_lt_of_pos _ (by decide)⟩
        dsimp only
        generalize (y + 104729 * (z + 1)) * ((z + 1) * (z + 1) + 7919) = N1
        obtain ⟨u1, u2⟩ := bd N1
        generalize N1 % 2147483629 = N2 at u1 u2
        refine ⟨.int N2, rfl, .int N2, rfl, N2, N2, rfl, rfl, wide_mul (a := 40) (b := 40) (by omega) (by omega) (by decide) (by decide) (by decide), .int (z + 1), rfl, N2 * N2, z + 1, rfl, rfl, .inl ⟨_, rfl, _, _, rfl, rfl, (by show (0 : Int) < 2147483587; decide), ?_⟩⟩
        dsimp only
        obtain ⟨v1, v2⟩ := bd2 (N2 * N2 + (z + 1))
        generalize (N2 * N2 + (z + 1)) % 2147483587 = N3 at v1 v2
        refine ⟨.int N3, rfl, N3, 48271, rfl, rfl, wide_mul (a := 40) (b := 20) (by omega) (by decide) (by decide) (by decide) (by decide), .inl ⟨_, rfl, N3 * 48271, 2147483647, rfl, rfl, (by show (0 : Int) < 2147483647; decide), _, 64, rfl, rfl, wide_div (b := 10) (by decide) (by decide) (by decide) (by decide), .int k, rfl, _, k, rfl, rfl, k0, ?_⟩⟩
        exact fin x (z + 1) _ hx0 hx1 (by omega) (by omega) (Int.emod_nonneg _ (by omega)) (Int.emod_lt_of_pos _ k0)


abbrev s__law_purse : Stmt := topS 13
theorem sc__law_purse : FnScope ["_law_script", "_law_at", "_law_cell"] ["_law_script", "_law_at"] (defScope s__law_purse) := ⟨rfl, rfl, rfl, by decide +kernel, rfl, by decide +kernel, by decide +kernel⟩
def spdPurse : Spd := fun bs R _ => ∃ (ns : List Int) (j : Nat), bs = [.p (.scr ns), .p (.int j)] ∧ ∀ x y : Int, 0 ≤ x → x < 10 ^ 400 → 0 ≤ y → y < 2147483629 → R (.o (.lst [.int x, .int y, .int 0])) 0
theorem cal_purse (Da : DefAt K mg "_law_purse" s__law_purse) (mi : mg "int" = none) (ml : mg "len" = none) (mm : mg "max" = none) : Cal P w K mg base "_law_purse" 1 ["_law_script", "_law_at"] spdPurse := by
  refine cal_mk none Da sc__law_purse (fun _ _ _ _ _ _ us hl => match us, hl with | [_, _], _ => rfl) (fun bs R E h => ?_) (fun bs R E h => ?_) fun f cdv A outer s H E W bs R ED hg hr te h fh => ?_
  · obtain ⟨ns, j, rfl, _⟩ := h
    rfl
  · obtain ⟨ns, j, rfl, _⟩ := h
    exact pur_none (by simp [B.own])
  · obtain ⟨ns, j, rfl, q⟩ := h
    have nd := sc__law_purse.nd
    refine ⟨_, dss_cons (ds_set (i := 2) nd rfl (.inl rfl) de_int)
      (dss_cons (ds_if (dt_cmp op_lt rd_intB0 (de_v 1) (de_callB cr_lenAll rc_len (by exact rfl) ml bt_len (da_cons (de_v 0) da_nil)) rfl)
          (dss_one (ds_set (i := 2) nd rfl (.inl rfl) (de_ix (de_v 0) (de_v 1) fun _ _ => rfl))) dss_nil)
      (dss_one (ds_ret (de_lst (da_cons (de_op op_mod rd_intI (de_callTy call_int1 rc_int (by exact rfl) mi bt_int (da_cons (de_callB (call_max2 rfl) rc_max (by exact rfl) mm bt_max (da_cons (de_op op_sub rd_intI0 (de_v 2) (de_op op_powW rd_intI de_int de_int)) (da_cons de_int da_nil))) da_nil)) (de_op op_powW rd_intI (de_op op_powW rd_intI de_int de_int) de_int))
        (da_cons (de_op op_mod rd_intI (de_callTy call_int1 rc_int (by exact rfl) mi bt_int (da_cons (de_v 2) da_nil)) de_int) (da_cons de_int da_nil))))))), ?_⟩
    have c1 : CPowW 10 18 := ⟨by decide, by decide +kernel⟩
    have c2 : CPowW 10 40 := ⟨by decide, by decide +kernel⟩
    have c3 : CPowW (10 ^ Int.toNat 40) 10 := ⟨by decide, by decide +kernel⟩
    have fin : ∀ a b : Int, R (.o (.lst [.int (a % (10 ^ Int.toNat 40) ^ Int.toNat 10), .int (b % 2147483629), .int 0])) 0 := fun a b => by
      refine q _ _ (Int.emod_nonneg _ (by decide +kernel)) ?_ (Int.emod_nonneg _ (by decide)) (Int.emod_lt_of_pos _ (by decide))
      have e : ((10 : Int) ^ Int.toNat 40) ^ Int.toNat 10 = 10 ^ 400 := by decide +kernel
      rw [e]
      exact Int.emod_lt_of_pos _ (by decide +kernel)
    by_cases hj : j < ns.length
    · have hg : atI ns (j : Int) = some ns[j] := atI_nat (List.getElem?_eq_getElem hj)
      simp only [startD, List.map_cons, List.map_nil, List.length_cons, List.length_nil, Nat.reduceAdd, Nat.reduceSub, List.replicate, List.cons_append, List.nil_append, dSeq, dSet, dIfS, dT, dOp, dCB, dCons, dNil, dV, dC, dp, dNext, dRet, dLst, intG, intG0, lenG, lenD, ixG, itemD, intCG, intOf, maxG, List.getElem?_cons_zero, List.getElem?_cons_succ, List.set_cons_zero, List.set_cons_succ, Option.some.injEq, B.isU, B.d, B.rd, exists_eq_left', exists_eq_left, exists_and_left, true_and, and_true, B.p.injEq, DD.D.bl.injEq, DD.D.int.injEq, List.cons.injEq, DD.PC, decide_eq_true_eq, and_assoc, Option.map_some, hg, if_pos (show (j : Int) < (ns.length : Int) by omega)]
      exact ⟨c1, c2, c3, by decide +kernel, by decide, by decide, 0, fin _ _⟩
    · simp only [startD, List.map_cons, List.map_nil, List.length_cons, List.length_nil, Nat.reduceAdd, Nat.reduceSub, List.replicate, List.cons_append, List.nil_append, dSeq, dSet, dIfS, dT, dOp, dCB, dCons, dNil, dV, dC, dp, dNext, dRet, dLst, intG, intG0, lenG, lenD, ixG, itemD, intCG, intOf, maxG, List.getElem?_cons_zero, List.getElem?_cons_succ, List.set_cons_zero, List.set_cons_succ, Option.some.injEq, B.isU, B.d, B.rd, exists_eq_left', exists_eq_left, exists_and_left, true_and, and_true, B.p.injEq, DD.D.bl.injEq, DD.D.int.injEq, List.cons.injEq, DD.PC, decide_eq_true_eq, and_assoc, Option.map_some, if_neg (show ¬ (j : Int) < (ns.length : Int) by omega)]
      exact ⟨c1, c2, c3, by decide +kernel, by decide, by decide, 0, fin _ _⟩


def isWh : D → Bool
  | .int _ => true
  | _ => false

abbrev s_is_whole : Stmt := topS 1
theorem sc_is_whole : FnScope ["value"] ["value"] (defScope s_is_whole) := ⟨rfl, rfl, rfl, by decide +kernel, rfl, by decide +kernel, by decide +kernel⟩
def spd_is_whole  : Spd := fun bs R _ => ∃ d, bs = [.p d] ∧ dat d = true ∧ R (.p (.bl (isWh d))) 0
theorem cal_is_whole (Da : DefAt K mg "is_whole" s_is_whole) (m_isinstance : mg "isinstance" = none) (m_int : mg "int" = none) (m_bool : mg "bool" = none) : Cal P w K mg base "is_whole" 1 ["value"] spd_is_whole := by
  refine cal_mk none Da sc_is_whole (fun _ _ _ _ _ _ us hl => match us, hl with | [_], _ => rfl) (fun bs R E h => ?_) (fun bs R E h => ?_) fun f cdv A outer s H E W bs R ED gu hr te h fh => ?_
  · obtain ⟨d, rfl, hd, q⟩ := h
    rfl
  · obtain ⟨d, rfl, hd, q⟩ := h
    exact pur_none (by simp [B.own])
  · obtain ⟨d, rfl, hd, q⟩ := h
    have nd := sc_is_whole.nd
    have hu := hr.units
    refine ⟨_, (dss_one (ds_ret (de_and (de_callB call_isZ rc_isZ rfl m_isinstance bt_isinstance (da_cons (de_v 0) (da_cons (de_ty m_int bt_int) da_nil))) (de_one (de_not (de_callB call_isZ rc_isZ rfl m_isinstance bt_isinstance (da_cons (de_v 0) (da_cons (de_ty m_bool bt_bool) da_nil)))))))), ?_⟩
    simp only [startD, List.map_cons, List.map_nil, List.length_cons, List.length_nil, Nat.reduceAdd, Nat.reduceSub, List.replicate, List.cons_append, List.nil_append, dSeq, dSet, dIfS, dT, dOp, dCB, dCons, dNil, dV, dM, dC, dp, dNext, dRet, dRetN, dLst, dTup, dDrop, dNot, dAnd, dOr, dAndV, dOrV, dNotV, intG, intG0, lenG, lenD, ixG, itemD, intCG, intOf, maxG, List.getElem?_cons_zero, List.getElem?_cons_succ, List.set_cons_zero, List.set_cons_succ, Option.some.injEq, B.isU, B.d, B.rd, exists_eq_left', exists_eq_left, exists_and_left, true_and, and_true, B.p.injEq, DD.D.bl.injEq, DD.D.int.injEq, List.cons.injEq, DD.PC, decide_eq_true_eq, and_assoc, Option.map_some, dLc, iAny, walked, wipeE, gN, dCall, dCallP, dCallF, eqG, neG, Bool.not_true, Bool.not_false, if_true, if_false, Bool.false_eq_true, reduceIte, List.append_nil, dCBK, addG, dM1, gT, gsCons, gsNil, iEnumD, dAsP, iR1, dPart, dNo, dSl, freB, lstD, List.all_cons, List.all_nil, litD, Bool.and_self, dReprPair, dDctN, itemD2, ixG2, keyD, lookD, strG2, dPar, bCons, bNil, dFor, List.zip_cons_cons, List.zip_nil_right, List.foldl_cons, List.foldl_nil, dApp, B.o.injEq, DD.D.lst.injEq, DD.D.tup.injEq, exists_eq', dDct0, B.u.injEq, sizeLine_eq, Nat.reduceLeDiff, Nat.reduceLT, Nat.zero_le, true_implies, slG, List.length_map, tupleG, seqD, listG, iR2, List.length_take, List.length_drop, List.length_append, DD.D.str.injEq, isZ_Int hd, isZ_Bool hd]
    cases d <;> first | (cases hd; done) | exact ⟨0, q⟩

def leAt (ns : List Int) : D → Bool
  | .int i => decide ((atI ns (i - 1)).getD 0 ≤ (atI ns i).getD 0)
  | _ => false
/-- each int below the one before it -/
def isDesc (ns : List Int) : Bool := ((upto 1 (ns.length - 1)).filter (leAt ns)).isEmpty

abbrev s_is_choices : Stmt := topS 7
theorem sc_is_choices : FnScope ["value", "choice", "at"] ["value"] (defScope s_is_choices) := ⟨rfl, rfl, rfl, by decide +kernel, rfl, by decide +kernel, by decide +kernel⟩
def spd_is_choices  : Spd := fun bs R _ => ∃ d, bs = [.p d] ∧ ((dat d = true ∧ isLst d = false ∧ R (.p (.bl false)) 0) ∨ ∃ ds, d = .lst ds ∧ (∀ x ∈ ds, dat x = true ∧ Sh 40 x) ∧ ds.length ≤ 1000000 ∧ ((ds.all isWh = false ∧ R (.p (.bl false)) 0) ∨ ∃ ns : List Int, ds = ns.map D.int ∧ R (.p (.bl (isDesc ns))) 0))
theorem cal_is_choices (Da : DefAt K mg "is_choices" s_is_choices) (c_is_whole : Cal P w K mg base "is_whole" 1 ["value"] spd_is_whole) (m_isinstance : mg "isinstance" = none) (m_list : mg "list" = none) (m_len : mg "len" = none) (m_range : mg "range" = none) : Cal P w K mg base "is_choices" 2 ["value"] spd_is_choices := by
  refine cal_mk none Da sc_is_choices (fun _ _ _ _ _ _ us hl => match us, hl with | [_], _ => rfl) (fun bs R E h => ?_) (fun bs R E h => ?_) fun f cdv A outer s H E W bs R ED gu hr te h fh => ?_
  · obtain ⟨d, rfl, q⟩ := h
    rfl
  · obtain ⟨d, rfl, q⟩ := h
    exact pur_none (by simp [B.own])
  · obtain ⟨d, rfl, q⟩ := h
    have nd := sc_is_choices.nd
    have hu := hr.units
    refine ⟨_, (dss_cons (ds_if (DW.dt (dw_or (dt_not (dt_val (he := fun _ => rfl) (de_callB call_isZ rc_isZ rfl m_isinstance bt_isinstance (da_cons (de_v 0) (da_cons (de_ty m_list bt_list) da_nil))))) (dw_or1 (dt_cmp (op_neAll hu) rd_ne (de_lc rfl nd (di_any (de_v 0)) (own := [("choice", 1)]) (blkOk_by (by kernel_rfl)) (fun _ _ _ _ _ _ => (dgc_name (i := 1) (by decide) nd rfl (by first | exact Or.inl rfl | exact Or.inr rfl))) (fun _ _ _ _ _ _ => (dts_one (dt_not (dt_val (he := fun _ => rfl) (de_c c_is_whole gu hr (da_cons (de_v 1) da_nil)))))) (fun _ _ _ _ _ _ => (de_v 1))) (de_lst da_nil) rfl)))) (dss_one (ds_ret de_bl)) dss_nil) (dss_one (ds_ret (de_cmp (op_eqAll hu) rd_eq (de_lc rfl nd (DI0.di (di_range2 rfl m_range (da_cons de_int (da_cons (de_callB cr_lenAll rc_len rfl m_len bt_len (da_cons (de_v 0) da_nil)) da_nil)))) (own := [("at", 2)]) (blkOk_by (by kernel_rfl)) (fun _ _ _ _ _ _ => (dgc_name (i := 2) (by decide) nd rfl (by first | exact Or.inl rfl | exact Or.inr rfl))) (fun _ _ _ _ _ _ => (dts_one (dt_cmp op_le rd_intB0 (de_ix2 hu (de_v 0) (de_op op_sub rd_intI0 (de_v 2) de_int) fun _ _ => rfl) (de_ix2 hu (de_v 0) (de_v 2) fun _ _ => rfl) rfl))) (fun _ _ _ _ _ _ => (de_v 2))) (de_lst da_nil) rfl)))), ?_⟩
    rcases q with ⟨hd, hl, q⟩ | ⟨ds, rfl, hds, hz, q⟩
    · simp only [startD, List.map_cons, List.map_nil, List.length_cons, List.length_nil, Nat.reduceAdd, Nat.reduceSub, List.replicate, List.cons_append, List.nil_append, dSeq, dSet, dIfS, dT, dOp, dCB, dCons, dNil, dV, dM, dC, dp, dNext, dRet, dRetN, dLst, dTup, dDrop, dNot, dAnd, dOr, dAndV, dOrV, dNotV, intG, intG0, lenG, lenD, ixG, itemD, intCG, intOf, maxG, List.getElem?_cons_zero, List.getElem?_cons_succ, List.set_cons_zero, List.set_cons_succ, Option.some.injEq, B.isU, B.d, B.rd, exists_eq_left', exists_eq_left, exists_and_left, true_and, and_true, B.p.injEq, DD.D.bl.injEq, DD.D.int.injEq, List.cons.injEq, DD.PC, decide_eq_true_eq, and_assoc, Option.map_some, dLc, iAny, walked, wipeE, gN, dCall, dCallP, dCallF, eqG, neG, Bool.not_true, Bool.not_false, if_true, if_false, Bool.false_eq_true, reduceIte, List.append_nil, dCBK, addG, dM1, gT, gsCons, gsNil, iEnumD, dAsP, iR1, dPart, dNo, dSl, freB, lstD, List.all_cons, List.all_nil, litD, Bool.and_self, dReprPair, dDctN, itemD2, ixG2, keyD, lookD, strG2, dPar, bCons, bNil, dFor, List.zip_cons_cons, List.zip_nil_right, List.foldl_cons, List.foldl_nil, dApp, B.o.injEq, DD.D.lst.injEq, DD.D.tup.injEq, exists_eq', dDct0, B.u.injEq, sizeLine_eq, Nat.reduceLeDiff, Nat.reduceLT, Nat.zero_le, true_implies, slG, List.length_map, tupleG, seqD, listG, iR2, List.length_take, List.length_drop, List.length_append, DD.D.str.injEq, isZ_Lst hd, hl]
      exact ⟨0, q⟩
    · simp only [startD, List.map_cons, List.map_nil, List.length_cons, List.length_nil, Nat.reduceAdd, Nat.reduceSub, List.replicate, List.cons_append, List.nil_append, dSeq, dSet, dIfS, dT, dOp, dCB, dCons, dNil, dV, dM, dC, dp, dNext, dRet, dRetN, dLst, dTup, dDrop, dNot, dAnd, dOr, dAndV, dOrV, dNotV, intG, intG0, lenG, lenD, ixG, itemD, intCG, intOf, maxG, List.getElem?_cons_zero, List.getElem?_cons_succ, List.set_cons_zero, List.set_cons_succ, Option.some.injEq, B.isU, B.d, B.rd, exists_eq_left', exists_eq_left, exists_and_left, true_and, and_true, B.p.injEq, DD.D.bl.injEq, DD.D.int.injEq, List.cons.injEq, DD.PC, decide_eq_true_eq, and_assoc, Option.map_some, dLc, iAny, walked, wipeE, gN, dCall, dCallP, dCallF, eqG, neG, Bool.not_true, Bool.not_false, if_true, if_false, Bool.false_eq_true, reduceIte, List.append_nil, dCBK, addG, dM1, gT, gsCons, gsNil, iEnumD, dAsP, iR1, dPart, dNo, dSl, freB, lstD, List.all_cons, List.all_nil, litD, Bool.and_self, dReprPair, dDctN, itemD2, ixG2, keyD, lookD, strG2, dPar, bCons, bNil, dFor, List.zip_cons_cons, List.zip_nil_right, List.foldl_cons, List.foldl_nil, dApp, B.o.injEq, DD.D.lst.injEq, DD.D.tup.injEq, exists_eq', dDct0, B.u.injEq, sizeLine_eq, Nat.reduceLeDiff, Nat.reduceLT, Nat.zero_le, true_implies, slG, List.length_map, tupleG, seqD, listG, iR2, List.length_take, List.length_drop, List.length_append, DD.D.str.injEq, isZ_Lst (d := .lst ds) rfl, isLst]
      refine lcL_map (fun x => !isWh x) (fun x => x) (fun x => [some (.p (.lst ds)), some (.p x), none]) (fun x => [some (.p (.lst ds)), some (.p x), none]) (fun x hx Y N y n => ?_) (fun x hx => ⟨rfl, rfl⟩) (by rw [sizeLine_eq, List.length_nil]; omega) ?_
      · simp only [startD, List.map_cons, List.map_nil, List.length_cons, List.length_nil, Nat.reduceAdd, Nat.reduceSub, List.replicate, List.cons_append, List.nil_append, dSeq, dSet, dIfS, dT, dOp, dCB, dCons, dNil, dV, dM, dC, dp, dNext, dRet, dRetN, dLst, dTup, dDrop, dNot, dAnd, dOr, dAndV, dOrV, dNotV, intG, intG0, lenG, lenD, ixG, itemD, intCG, intOf, maxG, List.getElem?_cons_zero, List.getElem?_cons_succ, List.set_cons_zero, List.set_cons_succ, Option.some.injEq, B.isU, B.d, B.rd, exists_eq_left', exists_eq_left, exists_and_left, true_and, and_true, B.p.injEq, DD.D.bl.injEq, DD.D.int.injEq, List.cons.injEq, DD.PC, decide_eq_true_eq, and_assoc, Option.map_some, dLc, iAny, walked, wipeE, gN, dCall, dCallP, dCallF, eqG, neG, Bool.not_true, Bool.not_false, if_true, if_false, Bool.false_eq_true, reduceIte, List.append_nil, dCBK, addG, dM1, gT, gsCons, gsNil, iEnumD, dAsP, iR1, dPart, dNo, dSl, freB, lstD, List.all_cons, List.all_nil, litD, Bool.and_self, dReprPair, dDctN, itemD2, ixG2, keyD, lookD, strG2, dPar, bCons, bNil, dFor, List.zip_cons_cons, List.zip_nil_right, List.foldl_cons, List.foldl_nil, dApp, B.o.injEq, DD.D.lst.injEq, DD.D.tup.injEq, exists_eq', dDct0, B.u.injEq, sizeLine_eq, Nat.reduceLeDiff, Nat.reduceLT, Nat.zero_le, true_implies, slG, List.length_map, tupleG, seqD, listG, iR2, List.length_take, List.length_drop, List.length_append, DD.D.str.injEq, spd_is_whole]
        refine ⟨(hds x hx).1, ?_⟩
        cases hw : isWh x
        · exact y (by rw [hw]; rfl)
        · exact n (by rw [hw]; rfl)
      · have hsh : ∀ x ∈ (ds.filter fun x => !isWh x).map (fun x => x), Sh 40 x := fun x hx => by
          rw [List.map_id'] at hx
          exact (hds x (List.mem_filter.mp hx).1).2
        simp only [startD, List.map_cons, List.map_nil, List.length_cons, List.length_nil, Nat.reduceAdd, Nat.reduceSub, List.replicate, List.cons_append, List.nil_append, dSeq, dSet, dIfS, dT, dOp, dCB, dCons, dNil, dV, dM, dC, dp, dNext, dRet, dRetN, dLst, dTup, dDrop, dNot, dAnd, dOr, dAndV, dOrV, dNotV, intG, intG0, lenG, lenD, ixG, itemD, intCG, intOf, maxG, List.getElem?_cons_zero, List.getElem?_cons_succ, List.set_cons_zero, List.set_cons_succ, Option.some.injEq, B.isU, B.d, B.rd, exists_eq_left', exists_eq_left, exists_and_left, true_and, and_true, B.p.injEq, DD.D.bl.injEq, DD.D.int.injEq, List.cons.injEq, DD.PC, decide_eq_true_eq, and_assoc, Option.map_some, dLc, iAny, walked, wipeE, gN, dCall, dCallP, dCallF, eqG, neG, Bool.not_true, Bool.not_false, if_true, if_false, Bool.false_eq_true, reduceIte, List.append_nil, dCBK, addG, dM1, gT, gsCons, gsNil, iEnumD, dAsP, iR1, dPart, dNo, dSl, freB, lstD, List.all_cons, List.all_nil, litD, Bool.and_self, dReprPair, dDctN, itemD2, ixG2, keyD, lookD, strG2, dPar, bCons, bNil, dFor, List.zip_cons_cons, List.zip_nil_right, List.foldl_cons, List.foldl_nil, dApp, B.o.injEq, DD.D.lst.injEq, DD.D.tup.injEq, exists_eq', dDct0, B.u.injEq, sizeLine_eq, Nat.reduceLeDiff, Nat.reduceLT, Nat.zero_le, true_implies, slG, List.length_map, tupleG, seqD, listG, iR2, List.length_take, List.length_drop, List.length_append, DD.D.str.injEq, eqD_nil (by decide) hsh, List.nil_append]
        rcases q with ⟨hw, q⟩ | ⟨ns, rfl, q⟩
        · have he : ((ds.filter fun x => !isWh x).map fun x => x).isEmpty = false := by
            rw [List.map_id']
            cases hf : ds.filter fun x => !isWh x with
            | cons _ _ => rfl
            | nil =>
              have : ds.all isWh = true := by
                rw [List.all_eq_true]
                intro x hx
                have h1 := List.filter_eq_nil_iff.mp hf x hx
                simpa using h1
              rw [this] at hw
              cases hw
          rw [he]
          exact ⟨0, q⟩
        · have hf : (ns.map D.int).filter (fun x => !isWh x) = [] := by
            rw [List.filter_eq_nil_iff]
            intro x hx
            obtain ⟨n, _, rfl⟩ := List.mem_map.mp hx
            simp [isWh]
          have hn : ns.length ≤ 1000000 := by
            rw [List.length_map] at hz
            exact hz
          rw [hf]
          simp only [startD, List.map_cons, List.map_nil, List.length_cons, List.length_nil, Nat.reduceAdd, Nat.reduceSub, List.replicate, List.cons_append, List.nil_append, dSeq, dSet, dIfS, dT, dOp, dCB, dCons, dNil, dV, dM, dC, dp, dNext, dRet, dRetN, dLst, dTup, dDrop, dNot, dAnd, dOr, dAndV, dOrV, dNotV, intG, intG0, lenG, lenD, ixG, itemD, intCG, intOf, maxG, List.getElem?_cons_zero, List.getElem?_cons_succ, List.set_cons_zero, List.set_cons_succ, Option.some.injEq, B.isU, B.d, B.rd, exists_eq_left', exists_eq_left, exists_and_left, true_and, and_true, B.p.injEq, DD.D.bl.injEq, DD.D.int.injEq, List.cons.injEq, DD.PC, decide_eq_true_eq, and_assoc, Option.map_some, dLc, iAny, walked, wipeE, gN, dCall, dCallP, dCallF, eqG, neG, Bool.not_true, Bool.not_false, if_true, if_false, Bool.false_eq_true, reduceIte, List.append_nil, dCBK, addG, dM1, gT, gsCons, gsNil, iEnumD, dAsP, iR1, dPart, dNo, dSl, freB, lstD, List.all_cons, List.all_nil, litD, Bool.and_self, dReprPair, dDctN, itemD2, ixG2, keyD, lookD, strG2, dPar, bCons, bNil, dFor, List.zip_cons_cons, List.zip_nil_right, List.foldl_cons, List.foldl_nil, dApp, B.o.injEq, DD.D.lst.injEq, DD.D.tup.injEq, exists_eq', dDct0, B.u.injEq, sizeLine_eq, Nat.reduceLeDiff, Nat.reduceLT, Nat.zero_le, true_implies, slG, List.length_map, tupleG, seqD, listG, iR2, List.length_take, List.length_drop, List.length_append, DD.D.str.injEq, iR2, List.isEmpty_nil, List.length_map]
          refine ⟨by decide, by decide, by omega, by omega, ?_⟩
          have hup : ((ns.length : Int) - 1).toNat = ns.length - 1 := by omega
          rw [hup]
          refine lcL_map (leAt ns) (fun x => x) (fun x => [some (.p (.lst (ns.map D.int))), none, some (.p x)]) (fun x => [some (.p (.lst (ns.map D.int))), none, some (.p x)]) (fun x hx Y N y n => ?_) (fun x hx => ⟨rfl, rfl⟩) (by rw [sizeLine_eq, List.length_nil]; unfold upto; rw [List.length_map, List.length_range]; omega) ?_
          · obtain ⟨i, hi, rfl⟩ := List.mem_map.mp (show x ∈ (List.range (ns.length - 1)).map _ from hx)
            have hi := List.mem_range.mp hi
            have e1 : atI ns (1 + (i : Int) - 1) = some ns[i] := by
              rw [show (1 : Int) + i - 1 = (i : Nat) by omega]
              exact atI_nat (List.getElem?_eq_getElem (by omega))
            have e2 : atI ns (1 + (i : Int)) = some ns[i + 1] := by
              rw [show (1 : Int) + i = ((i + 1 : Nat) : Int) by omega]
              exact atI_nat (List.getElem?_eq_getElem (by omega))
            have m1 : ∀ (k : Int) (v : Int), atI ns k = some v → atI (ns.map D.int) k = some (.int v) := fun k v e => by
              unfold atI at e ⊢
              rw [List.length_map]
              cases q : ixN ns.length k with
              | none =>
                rw [q] at e
                cases e
              | some l =>
                rw [q] at e
                have e : ns[l]? = some v := e
                show (ns.map D.int)[l]? = _
                rw [List.getElem?_map, e]
                rfl
            simp only [startD, List.map_cons, List.map_nil, List.length_cons, List.length_nil, Nat.reduceAdd, Nat.reduceSub, List.replicate, List.cons_append, List.nil_append, dSeq, dSet, dIfS, dT, dOp, dCB, dCons, dNil, dV, dM, dC, dp, dNext, dRet, dRetN, dLst, dTup, dDrop, dNot, dAnd, dOr, dAndV, dOrV, dNotV, intG, intG0, lenG, lenD, ixG, itemD, intCG, intOf, maxG, List.getElem?_cons_zero, List.getElem?_cons_succ, List.set_cons_zero, List.set_cons_succ, Option.some.injEq, B.isU, B.d, B.rd, exists_eq_left', exists_eq_left, exists_and_left, true_and, and_true, B.p.injEq, DD.D.bl.injEq, DD.D.int.injEq, List.cons.injEq, DD.PC, decide_eq_true_eq, and_assoc, Option.map_some, dLc, iAny, walked, wipeE, gN, dCall, dCallP, dCallF, eqG, neG, Bool.not_true, Bool.not_false, if_true, if_false, Bool.false_eq_true, reduceIte, List.append_nil, dCBK, addG, dM1, gT, gsCons, gsNil, iEnumD, dAsP, iR1, dPart, dNo, dSl, freB, lstD, List.all_cons, List.all_nil, litD, Bool.and_self, dReprPair, dDctN, itemD2, ixG2, keyD, lookD, strG2, dPar, bCons, bNil, dFor, List.zip_cons_cons, List.zip_nil_right, List.foldl_cons, List.foldl_nil, dApp, B.o.injEq, DD.D.lst.injEq, DD.D.tup.injEq, exists_eq', dDct0, B.u.injEq, sizeLine_eq, Nat.reduceLeDiff, Nat.reduceLT, Nat.zero_le, true_implies, slG, List.length_map, tupleG, seqD, listG, iR2, List.length_take, List.length_drop, List.length_append, DD.D.str.injEq, m1 _ _ e1, m1 _ _ e2]
            have hle : leAt ns (.int (1 + (i : Int))) = decide (ns[i] ≤ ns[i + 1]) := by
              show decide ((atI ns (1 + (i : Int) - 1)).getD 0 ≤ (atI ns (1 + (i : Int))).getD 0) = _
              rw [e1, e2]
              rfl
            rw [hle] at y n
            refine ite2 (fun z => y (decide_eq_true z)) (fun z => n (decide_eq_false z))
          · have hu' : ∀ x ∈ ((upto 1 (ns.length - 1)).filter (leAt ns)).map (fun x => x), Sh 40 x := fun x hx => by
              rw [List.map_id'] at hx
              obtain ⟨i, _, rfl⟩ := List.mem_map.mp (show x ∈ (List.range (ns.length - 1)).map _ from (List.mem_filter.mp hx).1)
              exact sh_int.mono (by decide)
            simp only [startD, List.map_cons, List.map_nil, List.length_cons, List.length_nil, Nat.reduceAdd, Nat.reduceSub, List.replicate, List.cons_append, List.nil_append, dSeq, dSet, dIfS, dT, dOp, dCB, dCons, dNil, dV, dM, dC, dp, dNext, dRet, dRetN, dLst, dTup, dDrop, dNot, dAnd, dOr, dAndV, dOrV, dNotV, intG, intG0, lenG, lenD, ixG, itemD, intCG, intOf, maxG, List.getElem?_cons_zero, List.getElem?_cons_succ, List.set_cons_zero, List.set_cons_succ, Option.some.injEq, B.isU, B.d, B.rd, exists_eq_left', exists_eq_left, exists_and_left, true_and, and_true, B.p.injEq, DD.D.bl.injEq, DD.D.int.injEq, List.cons.injEq, DD.PC, decide_eq_true_eq, and_assoc, Option.map_some, dLc, iAny, walked, wipeE, gN, dCall, dCallP, dCallF, eqG, neG, Bool.not_true, Bool.not_false, if_true, if_false, Bool.false_eq_true, reduceIte, List.append_nil, dCBK, addG, dM1, gT, gsCons, gsNil, iEnumD, dAsP, iR1, dPart, dNo, dSl, freB, lstD, List.all_cons, List.all_nil, litD, Bool.and_self, dReprPair, dDctN, itemD2, ixG2, keyD, lookD, strG2, dPar, bCons, bNil, dFor, List.zip_cons_cons, List.zip_nil_right, List.foldl_cons, List.foldl_nil, dApp, B.o.injEq, DD.D.lst.injEq, DD.D.tup.injEq, exists_eq', dDct0, B.u.injEq, sizeLine_eq, Nat.reduceLeDiff, Nat.reduceLT, Nat.zero_le, true_implies, slG, List.length_map, tupleG, seqD, listG, iR2, List.length_take, List.length_drop, List.length_append, DD.D.str.injEq, List.nil_append, eqD_nil (by decide) hu']
            refine ⟨0, ?_⟩
            rw [List.map_id']
            exact q

abbrev s_check_choices : Stmt := topS 8
theorem sc_check_choices : FnScope ["value"] ["value"] (defScope s_check_choices) := ⟨rfl, rfl, rfl, by decide +kernel, rfl, by decide +kernel, by decide +kernel⟩
def spd_check_choices (aL : Addr) : Spd := fun bs R E => ∃ d, bs = [.p d] ∧ ((dat d = true ∧ isLst d = false ∧ E aL [d] 0) ∨ ∃ ds, d = .lst ds ∧ (∀ x ∈ ds, dat x = true ∧ Sh 40 x) ∧ ds.length ≤ 1000000 ∧ ((ds.all isWh = false ∧ E aL [d] 0) ∨ ∃ ns : List Int, ds = ns.map D.int ∧ ((isDesc ns = true ∧ R (.p .non) 0) ∨ (isDesc ns = false ∧ E aL [d] 0))))
theorem cal_check_choices (Da : DefAt K mg "check_choices" s_check_choices) (c_is_choices : Cal P w K mg base "is_choices" 2 ["value"] spd_is_choices) {aL fL : Addr} (o_InvalidList : OwnX P K aL fL) (m_InvalidList : mg "InvalidList" = some (.ref aL)) : Cal P w K mg base "check_choices" 3 ["value"] (spd_check_choices aL) := by
  refine cal_mk none Da sc_check_choices (fun _ _ _ _ _ _ us hl => match us, hl with | [_], _ => rfl) (fun bs R E h => ?_) (fun bs R E h => ?_) fun f cdv A outer s H E W bs R ED gu hr te h fh => ?_
  · obtain ⟨d, rfl, q⟩ := h
    rfl
  · obtain ⟨d, rfl, q⟩ := h
    exact pur_none (by simp [B.own])
  · obtain ⟨d, rfl, q⟩ := h
    have nd := sc_check_choices.nd
    have hu := hr.units
    refine ⟨_, (dss_one (ds_if (dt_not (dt_val (he := fun _ => rfl) (de_c c_is_choices gu hr (da_cons (de_v 0) da_nil)))) (dss_one (ds_raise te o_InvalidList rfl hr rfl m_InvalidList (da_cons (de_v 0) da_nil))) dss_nil)), ?_⟩
    simp only [startD, List.map_cons, List.map_nil, List.length_cons, List.length_nil, Nat.reduceAdd, Nat.reduceSub, List.replicate, List.cons_append, List.nil_append, dSeq, dSet, dIfS, dT, dOp, dCB, dCons, dNil, dV, dM, dC, dp, dNext, dRet, dRetN, dLst, dTup, dDrop, dNot, dAnd, dOr, dAndV, dOrV, dNotV, intG, intG0, lenG, lenD, ixG, itemD, intCG, intOf, maxG, List.getElem?_cons_zero, List.getElem?_cons_succ, List.set_cons_zero, List.set_cons_succ, Option.some.injEq, B.isU, B.d, B.rd, exists_eq_left', exists_eq_left, exists_and_left, true_and, and_true, B.p.injEq, DD.D.bl.injEq, DD.D.int.injEq, List.cons.injEq, DD.PC, decide_eq_true_eq, and_assoc, Option.map_some, dLc, iAny, walked, wipeE, gN, dCall, dCallP, dCallF, eqG, neG, Bool.not_true, Bool.not_false, if_true, if_false, Bool.false_eq_true, reduceIte, List.append_nil, dCBK, addG, dM1, gT, gsCons, gsNil, iEnumD, dAsP, iR1, dPart, dNo, dSl, freB, lstD, List.all_cons, List.all_nil, litD, Bool.and_self, dReprPair, dDctN, itemD2, ixG2, keyD, lookD, strG2, dPar, bCons, bNil, dFor, List.zip_cons_cons, List.zip_nil_right, List.foldl_cons, List.foldl_nil, dApp, B.o.injEq, DD.D.lst.injEq, DD.D.tup.injEq, exists_eq', dDct0, B.u.injEq, sizeLine_eq, Nat.reduceLeDiff, Nat.reduceLT, Nat.zero_le, true_implies, slG, List.length_map, tupleG, seqD, listG, iR2, List.length_take, List.length_drop, List.length_append, DD.D.str.injEq, dRaise]
    rcases q with ⟨hd, hl, q⟩ | ⟨ds, rfl, hds, hz, q⟩
    · refine ⟨d, rfl, .inl ⟨hd, hl, ?_⟩⟩
      simp only [startD, List.map_cons, List.map_nil, List.length_cons, List.length_nil, Nat.reduceAdd, Nat.reduceSub, List.replicate, List.cons_append, List.nil_append, dSeq, dSet, dIfS, dT, dOp, dCB, dCons, dNil, dV, dM, dC, dp, dNext, dRet, dRetN, dLst, dTup, dDrop, dNot, dAnd, dOr, dAndV, dOrV, dNotV, intG, intG0, lenG, lenD, ixG, itemD, intCG, intOf, maxG, List.getElem?_cons_zero, List.getElem?_cons_succ, List.set_cons_zero, List.set_cons_succ, Option.some.injEq, B.isU, B.d, B.rd, exists_eq_left', exists_eq_left, exists_and_left, true_and, and_true, B.p.injEq, DD.D.bl.injEq, DD.D.int.injEq, List.cons.injEq, DD.PC, decide_eq_true_eq, and_assoc, Option.map_some, dLc, iAny, walked, wipeE, gN, dCall, dCallP, dCallF, eqG, neG, Bool.not_true, Bool.not_false, if_true, if_false, Bool.false_eq_true, reduceIte, List.append_nil, dCBK, addG, dM1, gT, gsCons, gsNil, iEnumD, dAsP, iR1, dPart, dNo, dSl, freB, lstD, List.all_cons, List.all_nil, litD, Bool.and_self, dReprPair, dDctN, itemD2, ixG2, keyD, lookD, strG2, dPar, bCons, bNil, dFor, List.zip_cons_cons, List.zip_nil_right, List.foldl_cons, List.foldl_nil, dApp, B.o.injEq, DD.D.lst.injEq, DD.D.tup.injEq, exists_eq', dDct0, B.u.injEq, sizeLine_eq, Nat.reduceLeDiff, Nat.reduceLT, Nat.zero_le, true_implies, slG, List.length_map, tupleG, seqD, listG, iR2, List.length_take, List.length_drop, List.length_append, DD.D.str.injEq]
      exact ⟨0, q⟩
    · refine ⟨_, rfl, .inr ⟨ds, rfl, hds, hz, ?_⟩⟩
      rcases q with ⟨hw, q⟩ | ⟨ns, rfl, q⟩
      · refine .inl ⟨hw, ?_⟩
        simp only [startD, List.map_cons, List.map_nil, List.length_cons, List.length_nil, Nat.reduceAdd, Nat.reduceSub, List.replicate, List.cons_append, List.nil_append, dSeq, dSet, dIfS, dT, dOp, dCB, dCons, dNil, dV, dM, dC, dp, dNext, dRet, dRetN, dLst, dTup, dDrop, dNot, dAnd, dOr, dAndV, dOrV, dNotV, intG, intG0, lenG, lenD, ixG, itemD, intCG, intOf, maxG, List.getElem?_cons_zero, List.getElem?_cons_succ, List.set_cons_zero, List.set_cons_succ, Option.some.injEq, B.isU, B.d, B.rd, exists_eq_left', exists_eq_left, exists_and_left, true_and, and_true, B.p.injEq, DD.D.bl.injEq, DD.D.int.injEq, List.cons.injEq, DD.PC, decide_eq_true_eq, and_assoc, Option.map_some, dLc, iAny, walked, wipeE, gN, dCall, dCallP, dCallF, eqG, neG, Bool.not_true, Bool.not_false, if_true, if_false, Bool.false_eq_true, reduceIte, List.append_nil, dCBK, addG, dM1, gT, gsCons, gsNil, iEnumD, dAsP, iR1, dPart, dNo, dSl, freB, lstD, List.all_cons, List.all_nil, litD, Bool.and_self, dReprPair, dDctN, itemD2, ixG2, keyD, lookD, strG2, dPar, bCons, bNil, dFor, List.zip_cons_cons, List.zip_nil_right, List.foldl_cons, List.foldl_nil, dApp, B.o.injEq, DD.D.lst.injEq, DD.D.tup.injEq, exists_eq', dDct0, B.u.injEq, sizeLine_eq, Nat.reduceLeDiff, Nat.reduceLT, Nat.zero_le, true_implies, slG, List.length_map, tupleG, seqD, listG, iR2, List.length_take, List.length_drop, List.length_append, DD.D.str.injEq]
        exact ⟨0, q⟩
      · refine .inr ⟨ns, rfl, ?_⟩
        rcases q with ⟨hw, q⟩ | ⟨hw, q⟩
        · simp only [startD, List.map_cons, List.map_nil, List.length_cons, List.length_nil, Nat.reduceAdd, Nat.reduceSub, List.replicate, List.cons_append, List.nil_append, dSeq, dSet, dIfS, dT, dOp, dCB, dCons, dNil, dV, dM, dC, dp, dNext, dRet, dRetN, dLst, dTup, dDrop, dNot, dAnd, dOr, dAndV, dOrV, dNotV, intG, intG0, lenG, lenD, ixG, itemD, intCG, intOf, maxG, List.getElem?_cons_zero, List.getElem?_cons_succ, List.set_cons_zero, List.set_cons_succ, Option.some.injEq, B.isU, B.d, B.rd, exists_eq_left', exists_eq_left, exists_and_left, true_and, and_true, B.p.injEq, DD.D.bl.injEq, DD.D.int.injEq, List.cons.injEq, DD.PC, decide_eq_true_eq, and_assoc, Option.map_some, dLc, iAny, walked, wipeE, gN, dCall, dCallP, dCallF, eqG, neG, Bool.not_true, Bool.not_false, if_true, if_false, Bool.false_eq_true, reduceIte, List.append_nil, dCBK, addG, dM1, gT, gsCons, gsNil, iEnumD, dAsP, iR1, dPart, dNo, dSl, freB, lstD, List.all_cons, List.all_nil, litD, Bool.and_self, dReprPair, dDctN, itemD2, ixG2, keyD, lookD, strG2, dPar, bCons, bNil, dFor, List.zip_cons_cons, List.zip_nil_right, List.foldl_cons, List.foldl_nil, dApp, B.o.injEq, DD.D.lst.injEq, DD.D.tup.injEq, exists_eq', dDct0, B.u.injEq, sizeLine_eq, Nat.reduceLeDiff, Nat.reduceLT, Nat.zero_le, true_implies, slG, List.length_map, tupleG, seqD, listG, iR2, List.length_take, List.length_drop, List.length_append, DD.D.str.injEq, hw]
          exact ⟨0, q⟩
        · simp only [startD, List.map_cons, List.map_nil, List.length_cons, List.length_nil, Nat.reduceAdd, Nat.reduceSub, List.replicate, List.cons_append, List.nil_append, dSeq, dSet, dIfS, dT, dOp, dCB, dCons, dNil, dV, dM, dC, dp, dNext, dRet, dRetN, dLst, dTup, dDrop, dNot, dAnd, dOr, dAndV, dOrV, dNotV, intG, intG0, lenG, lenD, ixG, itemD, intCG, intOf, maxG, List.getElem?_cons_zero, List.getElem?_cons_succ, List.set_cons_zero, List.set_cons_succ, Option.some.injEq, B.isU, B.d, B.rd, exists_eq_left', exists_eq_left, exists_and_left, true_and, and_true, B.p.injEq, DD.D.bl.injEq, DD.D.int.injEq, List.cons.injEq, DD.PC, decide_eq_true_eq, and_assoc, Option.map_some, dLc, iAny, walked, wipeE, gN, dCall, dCallP, dCallF, eqG, neG, Bool.not_true, Bool.not_false, if_true, if_false, Bool.false_eq_true, reduceIte, List.append_nil, dCBK, addG, dM1, gT, gsCons, gsNil, iEnumD, dAsP, iR1, dPart, dNo, dSl, freB, lstD, List.all_cons, List.all_nil, litD, Bool.and_self, dReprPair, dDctN, itemD2, ixG2, keyD, lookD, strG2, dPar, bCons, bNil, dFor, List.zip_cons_cons, List.zip_nil_right, List.foldl_cons, List.foldl_nil, dApp, B.o.injEq, DD.D.lst.injEq, DD.D.tup.injEq, exists_eq', dDct0, B.u.injEq, sizeLine_eq, Nat.reduceLeDiff, Nat.reduceLT, Nat.zero_le, true_implies, slG, List.length_map, tupleG, seqD, listG, iR2, List.length_take, List.length_drop, List.length_append, DD.D.str.injEq, hw]
          exact ⟨0, q⟩
abbrev s_mark_of : Stmt := topS 9
theorem sc_mark_of : FnScope ["is_call", "is_host"] ["is_call", "is_host"] (defScope s_mark_of) := ⟨rfl, rfl, rfl, by decide +kernel, rfl, by decide +kernel, by decide +kernel⟩
def spd_mark_of  : Spd := fun bs R _ => ∃ a b, bs = [.p (.bl a), .p (.bl b)] ∧ R (.p (.str (if a && b then "b" else if a then "c" else "h"))) 0
theorem cal_mark_of (Da : DefAt K mg "mark_of" s_mark_of)  : Cal P w K mg base "mark_of" 1 ["is_call", "is_host"] spd_mark_of := by
  refine cal_mk none Da sc_mark_of (fun _ _ _ _ _ _ us hl => match us, hl with | [_, _], _ => rfl) (fun bs R E h => ?_) (fun bs R E h => ?_) fun f cdv A outer s H E W bs R ED gu hr te h fh => ?_
  · obtain ⟨a, b, rfl, q⟩ := h
    rfl
  · obtain ⟨a, b, rfl, q⟩ := h
    exact pur_none (by simp [B.own])
  · obtain ⟨a, b, rfl, q⟩ := h
    have nd := sc_mark_of.nd
    have hu := hr.units
    refine ⟨_, (dss_cons (ds_if (DW.dt (dw_and (dt_val (he := fun _ => rfl) (de_v 0)) (dw_and1 (dt_val (he := fun _ => rfl) (de_v 1))))) (dss_one (ds_ret de_str)) dss_nil) (dss_cons (ds_if (dt_val (he := fun _ => rfl) (de_v 0)) (dss_one (ds_ret de_str)) dss_nil) (dss_one (ds_ret de_str)))), ?_⟩
    cases a <;> cases b <;> (simp only [startD, List.map_cons, List.map_nil, List.length_cons, List.length_nil, Nat.reduceAdd, Nat.reduceSub, List.replicate, List.cons_append, List.nil_append, dSeq, dSet, dIfS, dT, dOp, dCB, dCons, dNil, dV, dM, dC, dp, dNext, dRet, dRetN, dLst, dTup, dDrop, dNot, dAnd, dOr, dAndV, dOrV, dNotV, intG, intG0, lenG, lenD, ixG, itemD, intCG, intOf, maxG, List.getElem?_cons_zero, List.getElem?_cons_succ, List.set_cons_zero, List.set_cons_succ, Option.some.injEq, B.isU, B.d, B.rd, exists_eq_left', exists_eq_left, exists_and_left, true_and, and_true, B.p.injEq, DD.D.bl.injEq, DD.D.int.injEq, List.cons.injEq, DD.PC, decide_eq_true_eq, and_assoc, Option.map_some, dLc, iAny, walked, wipeE, gN, dCall, dCallP, dCallF, eqG, neG, Bool.not_true, Bool.not_false, if_true, if_false, Bool.false_eq_true, reduceIte, List.append_nil, dCBK, addG, dM1, gT, gsCons, gsNil, iEnumD, dAsP, iR1, dPart, dNo, dSl, freB, lstD, List.all_cons, List.all_nil, litD, Bool.and_self, dReprPair, dDctN, itemD2, ixG2, keyD, lookD, strG2, dPar, bCons, bNil, dFor, List.zip_cons_cons, List.zip_nil_right, List.foldl_cons, List.foldl_nil, dApp, B.o.injEq, DD.D.lst.injEq, DD.D.tup.injEq, exists_eq', dDct0, B.u.injEq, sizeLine_eq, Nat.reduceLeDiff, Nat.reduceLT, Nat.zero_le, true_implies, slG, List.length_map, tupleG, seqD, listG, iR2, List.length_take, List.length_drop, List.length_append, DD.D.str.injEq]; exact ⟨0, q⟩)

def newIn (cs : List Int) : D → Bool
  | .int i => !metIn cs i
  | _ => false
theorem new_filter (cs : List Int) : ∀ hs : List Int, (hs.map D.int).filter (newIn cs) = (hs.filter fun i => !metIn cs i).map D.int
  | [] => rfl
  | h :: hs => by
    rw [List.map_cons, List.filter_cons, List.filter_cons, new_filter cs hs]
    show (if (!metIn cs h) = true then _ else _) = _
    by_cases e : (!metIn cs h) = true
    · rw [if_pos e, if_pos e]
      rfl
    · rw [if_neg e, if_neg e]

abbrev s_merged : Stmt := topS 10
theorem sc_merged : FnScope ["calls", "hosts", "known", "choice", "one"] ["calls", "hosts"] (defScope s_merged) := ⟨rfl, rfl, rfl, by decide +kernel, rfl, by decide +kernel, by decide +kernel⟩
def spd_merged  : Spd := fun bs R _ => ∃ cs hs : List Int, bs = [.p (.lst (cs.map D.int)), .p (.lst (hs.map D.int))] ∧ cs.length < 4000 ∧ hs.length < 4000 ∧ ∀ ns : List Int, ns.Perm (cs ++ hs.filter fun i => !metIn cs i) → OrdB true ns → R (.o (.lst (ns.map D.int))) 0
theorem cal_merged (Da : DefAt K mg "merged" s_merged) (m_set : mg "set" = none) (m_sorted : mg "sorted" = none) (m_int : mg "int" = none) : Cal P w K mg base "merged" 1 ["calls", "hosts"] spd_merged := by
  refine cal_mk none Da sc_merged (fun _ _ _ _ _ _ us hl => match us, hl with | [_, _], _ => rfl) (fun bs R E h => ?_) (fun bs R E h => ?_) fun f cdv A outer s H E W bs R ED gu hr te h fh => ?_
  · obtain ⟨cs, hs, rfl, hc, hh, q⟩ := h
    rfl
  · obtain ⟨cs, hs, rfl, hc, hh, q⟩ := h
    exact pur_none (by simp [B.own])
  · obtain ⟨cs, hs, rfl, hc, hh, q⟩ := h
    have nd := sc_merged.nd
    have hu := hr.units
    refine ⟨_, (dss_cons (ds_set (i := 2) nd rfl (by first | exact Or.inl rfl | exact Or.inr rfl) (de_callTy (cr_setL rfl) rc_setL rfl m_set bt_set (da_cons (de_v 0) da_nil))) (dss_one (ds_ret (de_callBK (cr_sortedRev (b := true)) (rc_sortedRev (b := true)) rfl m_sorted bt_sorted (da_cons (de_lc rfl nd (di_any (de_op op_addAll rd_add (de_v 0) (de_lc rfl nd (di_any (de_v 1)) (own := [("one", 4)]) (blkOk_by (by kernel_rfl)) (fun _ _ _ _ _ _ => (dgc_name (i := 4) (by decide) nd rfl (by first | exact Or.inl rfl | exact Or.inr rfl))) (fun _ _ _ _ _ _ => (dts_one (dt_cmp op_notInAll rd_in (de_v 4) (de_v 2) rfl))) (fun _ _ _ _ _ _ => (de_v 4))))) (own := [("choice", 3)]) (blkOk_by (by kernel_rfl)) (fun _ _ _ _ _ _ => (dgc_name (i := 3) (by decide) nd rfl (by first | exact Or.inl rfl | exact Or.inr rfl))) (fun _ _ _ _ _ _ => dts_nil) (fun _ _ _ _ _ _ => (de_callTy call_int1 rc_int rfl m_int bt_int (da_cons (de_v 3) da_nil)))) da_nil) (dk_cons de_bl dk_nil))))), ?_⟩
    simp only [startD, List.map_cons, List.map_nil, List.length_cons, List.length_nil, Nat.reduceAdd, Nat.reduceSub, List.replicate, List.cons_append, List.nil_append, dSeq, dSet, dIfS, dT, dOp, dCB, dCons, dNil, dV, dM, dC, dp, dNext, dRet, dRetN, dLst, dTup, dDrop, dNot, dAnd, dOr, dAndV, dOrV, dNotV, intG, intG0, lenG, lenD, ixG, itemD, intCG, intOf, maxG, List.getElem?_cons_zero, List.getElem?_cons_succ, List.set_cons_zero, List.set_cons_succ, Option.some.injEq, B.isU, B.d, B.rd, exists_eq_left', exists_eq_left, exists_and_left, true_and, and_true, B.p.injEq, DD.D.bl.injEq, DD.D.int.injEq, List.cons.injEq, DD.PC, decide_eq_true_eq, and_assoc, Option.map_some, dLc, iAny, walked, wipeE, gN, dCall, dCallP, dCallF, eqG, neG, Bool.not_true, Bool.not_false, if_true, if_false, Bool.false_eq_true, reduceIte, List.append_nil, dCBK, addG, dM1, gT, gsCons, gsNil, iEnumD, dAsP, iR1, dPart, dNo, dSl, freB, lstD, List.all_cons, List.all_nil, litD, Bool.and_self, dReprPair, dDctN, itemD2, ixG2, keyD, lookD, strG2, dPar, bCons, bNil, dFor, List.zip_cons_cons, List.zip_nil_right, List.foldl_cons, List.foldl_nil, dApp, B.o.injEq, DD.D.lst.injEq, DD.D.tup.injEq, exists_eq', dDct0, B.u.injEq, sizeLine_eq, Nat.reduceLeDiff, Nat.reduceLT, Nat.zero_le, true_implies, slG, List.length_map, tupleG, seqD, listG, iR2, List.length_take, List.length_drop, List.length_append, DD.D.str.injEq]
    refine ⟨cs, rfl, hc, fun n => ?_⟩
    simp only [startD, List.map_cons, List.map_nil, List.length_cons, List.length_nil, Nat.reduceAdd, Nat.reduceSub, List.replicate, List.cons_append, List.nil_append, dSeq, dSet, dIfS, dT, dOp, dCB, dCons, dNil, dV, dM, dC, dp, dNext, dRet, dRetN, dLst, dTup, dDrop, dNot, dAnd, dOr, dAndV, dOrV, dNotV, intG, intG0, lenG, lenD, ixG, itemD, intCG, intOf, maxG, List.getElem?_cons_zero, List.getElem?_cons_succ, List.set_cons_zero, List.set_cons_succ, Option.some.injEq, B.isU, B.d, B.rd, exists_eq_left', exists_eq_left, exists_and_left, true_and, and_true, B.p.injEq, DD.D.bl.injEq, DD.D.int.injEq, List.cons.injEq, DD.PC, decide_eq_true_eq, and_assoc, Option.map_some, dLc, iAny, walked, wipeE, gN, dCall, dCallP, dCallF, eqG, neG, Bool.not_true, Bool.not_false, if_true, if_false, Bool.false_eq_true, reduceIte, List.append_nil, dCBK, addG, dM1, gT, gsCons, gsNil, iEnumD, dAsP, iR1, dPart, dNo, dSl, freB, lstD, List.all_cons, List.all_nil, litD, Bool.and_self, dReprPair, dDctN, itemD2, ixG2, keyD, lookD, strG2, dPar, bCons, bNil, dFor, List.zip_cons_cons, List.zip_nil_right, List.foldl_cons, List.foldl_nil, dApp, B.o.injEq, DD.D.lst.injEq, DD.D.tup.injEq, exists_eq', dDct0, B.u.injEq, sizeLine_eq, Nat.reduceLeDiff, Nat.reduceLT, Nat.zero_le, true_implies, slG, List.length_map, tupleG, seqD, listG, iR2, List.length_take, List.length_drop, List.length_append, DD.D.str.injEq]
    refine lcL_map (newIn cs) (fun x => x) (fun x => [some (.p (.lst (cs.map D.int))), some (.p (.lst (hs.map D.int))), some (.p (.iset (metIn cs) n)), none, some (.p x)]) (fun x => [some (.p (.lst (cs.map D.int))), some (.p (.lst (hs.map D.int))), some (.p (.iset (metIn cs) n)), none, some (.p x)]) (fun x hx Y N y n => ?_) (fun x hx => ⟨rfl, rfl⟩) (by rw [sizeLine_eq, List.length_nil, List.length_map]; omega) ?_
    · obtain ⟨i, _, rfl⟩ := List.mem_map.mp hx
      simp only [startD, List.map_cons, List.map_nil, List.length_cons, List.length_nil, Nat.reduceAdd, Nat.reduceSub, List.replicate, List.cons_append, List.nil_append, dSeq, dSet, dIfS, dT, dOp, dCB, dCons, dNil, dV, dM, dC, dp, dNext, dRet, dRetN, dLst, dTup, dDrop, dNot, dAnd, dOr, dAndV, dOrV, dNotV, intG, intG0, lenG, lenD, ixG, itemD, intCG, intOf, maxG, List.getElem?_cons_zero, List.getElem?_cons_succ, List.set_cons_zero, List.set_cons_succ, Option.some.injEq, B.isU, B.d, B.rd, exists_eq_left', exists_eq_left, exists_and_left, true_and, and_true, B.p.injEq, DD.D.bl.injEq, DD.D.int.injEq, List.cons.injEq, DD.PC, decide_eq_true_eq, and_assoc, Option.map_some, dLc, iAny, walked, wipeE, gN, dCall, dCallP, dCallF, eqG, neG, Bool.not_true, Bool.not_false, if_true, if_false, Bool.false_eq_true, reduceIte, List.append_nil, dCBK, addG, dM1, gT, gsCons, gsNil, iEnumD, dAsP, iR1, dPart, dNo, dSl, freB, lstD, List.all_cons, List.all_nil, litD, Bool.and_self, dReprPair, dDctN, itemD2, ixG2, keyD, lookD, strG2, dPar, bCons, bNil, dFor, List.zip_cons_cons, List.zip_nil_right, List.foldl_cons, List.foldl_nil, dApp, B.o.injEq, DD.D.lst.injEq, DD.D.tup.injEq, exists_eq', dDct0, B.u.injEq, sizeLine_eq, Nat.reduceLeDiff, Nat.reduceLT, Nat.zero_le, true_implies, slG, List.length_map, tupleG, seqD, listG, iR2, List.length_take, List.length_drop, List.length_append, DD.D.str.injEq, inG, isIn]
      exact ite2 y fun z => n (by simpa [newIn] using z)
    · rw [List.map_id', new_filter, List.nil_append]
      simp only [startD, List.map_cons, List.map_nil, List.length_cons, List.length_nil, Nat.reduceAdd, Nat.reduceSub, List.replicate, List.cons_append, List.nil_append, dSeq, dSet, dIfS, dT, dOp, dCB, dCons, dNil, dV, dM, dC, dp, dNext, dRet, dRetN, dLst, dTup, dDrop, dNot, dAnd, dOr, dAndV, dOrV, dNotV, intG, intG0, lenG, lenD, ixG, itemD, intCG, intOf, maxG, List.getElem?_cons_zero, List.getElem?_cons_succ, List.set_cons_zero, List.set_cons_succ, Option.some.injEq, B.isU, B.d, B.rd, exists_eq_left', exists_eq_left, exists_and_left, true_and, and_true, B.p.injEq, DD.D.bl.injEq, DD.D.int.injEq, List.cons.injEq, DD.PC, decide_eq_true_eq, and_assoc, Option.map_some, dLc, iAny, walked, wipeE, gN, dCall, dCallP, dCallF, eqG, neG, Bool.not_true, Bool.not_false, if_true, if_false, Bool.false_eq_true, reduceIte, List.append_nil, dCBK, addG, dM1, gT, gsCons, gsNil, iEnumD, dAsP, iR1, dPart, dNo, dSl, freB, lstD, List.all_cons, List.all_nil, litD, Bool.and_self, dReprPair, dDctN, itemD2, ixG2, keyD, lookD, strG2, dPar, bCons, bNil, dFor, List.zip_cons_cons, List.zip_nil_right, List.foldl_cons, List.foldl_nil, dApp, B.o.injEq, DD.D.lst.injEq, DD.D.tup.injEq, exists_eq', dDct0, B.u.injEq, sizeLine_eq, Nat.reduceLeDiff, Nat.reduceLT, Nat.zero_le, true_implies, slG, List.length_map, tupleG, seqD, listG, iR2, List.length_take, List.length_drop, List.length_append, DD.D.str.injEq, List.length_map]
      have hf : (hs.filter fun i => !metIn cs i).length < 4000 := Nat.lt_of_le_of_lt (List.length_filter_le _ _) hh
      refine ⟨by omega, ?_⟩
      rw [← List.map_append]
      generalize hk : cs ++ hs.filter (fun i => !metIn cs i) = ks at q
      have hkl : ks.length < 8000 := by
        rw [← hk, List.length_append]
        omega
      refine lcL_map (fun _ => true) (fun x => x) (fun x => [some (.p (.lst (cs.map D.int))), some (.p (.lst (hs.map D.int))), some (.p (.iset (metIn cs) n)), some (.p x), none]) (fun x => [some (.p (.lst (cs.map D.int))), some (.p (.lst (hs.map D.int))), some (.p (.iset (metIn cs) n)), some (.p x), none]) (fun x hx Y N y n => ?_) (fun x hx => ⟨rfl, rfl⟩) (by rw [sizeLine_eq, List.length_nil, List.length_map]; omega) ?_
      · obtain ⟨i, _, rfl⟩ := List.mem_map.mp hx
        simp only [startD, List.map_cons, List.map_nil, List.length_cons, List.length_nil, Nat.reduceAdd, Nat.reduceSub, List.replicate, List.cons_append, List.nil_append, dSeq, dSet, dIfS, dT, dOp, dCB, dCons, dNil, dV, dM, dC, dp, dNext, dRet, dRetN, dLst, dTup, dDrop, dNot, dAnd, dOr, dAndV, dOrV, dNotV, intG, intG0, lenG, lenD, ixG, itemD, intCG, intOf, maxG, List.getElem?_cons_zero, List.getElem?_cons_succ, List.set_cons_zero, List.set_cons_succ, Option.some.injEq, B.isU, B.d, B.rd, exists_eq_left', exists_eq_left, exists_and_left, true_and, and_true, B.p.injEq, DD.D.bl.injEq, DD.D.int.injEq, List.cons.injEq, DD.PC, decide_eq_true_eq, and_assoc, Option.map_some, dLc, iAny, walked, wipeE, gN, dCall, dCallP, dCallF, eqG, neG, Bool.not_true, Bool.not_false, if_true, if_false, Bool.false_eq_true, reduceIte, List.append_nil, dCBK, addG, dM1, gT, gsCons, gsNil, iEnumD, dAsP, iR1, dPart, dNo, dSl, freB, lstD, List.all_cons, List.all_nil, litD, Bool.and_self, dReprPair, dDctN, itemD2, ixG2, keyD, lookD, strG2, dPar, bCons, bNil, dFor, List.zip_cons_cons, List.zip_nil_right, List.foldl_cons, List.foldl_nil, dApp, B.o.injEq, DD.D.lst.injEq, DD.D.tup.injEq, exists_eq', dDct0, B.u.injEq, sizeLine_eq, Nat.reduceLeDiff, Nat.reduceLT, Nat.zero_le, true_implies, slG, List.length_map, tupleG, seqD, listG, iR2, List.length_take, List.length_drop, List.length_append, DD.D.str.injEq, dYes]
        exact y rfl
      · rw [List.map_id', List.filter_eq_self.mpr (fun _ _ => rfl), List.nil_append]
        exact ⟨ks, rfl, rfl, fun ns h1 h2 => ⟨rfl, 0, q ns h1 h2⟩⟩

theorem isIn_ints {i : Int} {cs : List Int} : isIn (.int i) (.lst (cs.map D.int)) = some (decide (i ∈ cs)) := by
  have hf : (cs.map D.int).all flatD = true := by
    rw [List.all_eq_true]
    intro x hx
    obtain ⟨n, _, rfl⟩ := List.mem_map.mp hx
    rfl
  show (if (flatD (.int i) && (cs.map D.int).all flatD) = true then some (inD (.int i) (cs.map D.int)) else none) = _
  rw [hf, if_pos (by rfl)]
  congr 1
  unfold inD
  rw [List.map_map]
  unfold inV
  rw [Bool.eq_iff_iff, decide_eq_true_eq]
  simp only [List.any_map, List.any_eq_true, Function.comp, flatV']
  constructor
  · rintro ⟨x, hx, e⟩
    have e2 : x = i := by simpa [eqV] using e
    rw [← e2]
    exact hx
  · exact fun h => ⟨i, h, by simp [eqV]⟩
theorem ints_ok {ns : List Int} : ∀ x ∈ ns.map D.int, dat x = true ∧ Sh 40 x := fun x hx => by
  obtain ⟨n, _, rfl⟩ := List.mem_map.mp hx
  exact ⟨rfl, sh_int.mono (by decide)⟩
def signAt (cs hs : List Int) (i : Int) : Str := if decide (i ∈ cs) && decide (i ∈ hs) then "b" else if decide (i ∈ cs) then "c" else "h"
theorem signAt_len {cs hs : List Int} {i : Int} : (signAt cs hs i).length = 1 := by
  unfold signAt
  split
  · rfl
  · split <;> rfl
theorem sum_ones {cs hs : List Int} : ∀ ns : List Int, ((ns.map (signAt cs hs)).map (·.length)).sum = ns.length
  | [] => rfl
  | n :: ns => by
    rw [List.map_cons, List.map_cons, List.sum_cons, sum_ones ns, signAt_len, List.length_cons]
    omega


def BadL (d : D) : Prop := (dat d = true ∧ isLst d = false) ∨ ∃ ds, d = .lst ds ∧ (∀ x ∈ ds, dat x = true ∧ Sh 40 x) ∧ ds.length ≤ 1000000 ∧ (ds.all isWh = false ∨ ∃ ns : List Int, ds = ns.map D.int ∧ isDesc ns = false)
def GoodL (d : D) (cs : List Int) : Prop := d = .lst (cs.map D.int) ∧ isDesc cs = true ∧ cs.length < 4000
theorem bad_check {aL : Addr} {d : D} {R : B → Nat → Prop} {E : Addr → List D → Nat → Prop} (h : BadL d) (e : E aL [d] 0) : spd_check_choices aL [.p d] R E := by
  rcases h with ⟨h1, h2⟩ | ⟨ds, rfl, h1, h2, h3⟩
  · exact ⟨d, rfl, .inl ⟨h1, h2, e⟩⟩
  · refine ⟨_, rfl, .inr ⟨ds, rfl, h1, h2, ?_⟩⟩
    rcases h3 with h3 | ⟨ns, rfl, h3⟩
    · exact .inl ⟨h3, e⟩
    · exact .inr ⟨ns, rfl, .inr ⟨h3, e⟩⟩
theorem good_check {aL : Addr} {d : D} {cs : List Int} {R : B → Nat → Prop} {E : Addr → List D → Nat → Prop} (h : GoodL d cs) (r : R (.p .non) 0) : spd_check_choices aL [.p d] R E := by
  obtain ⟨rfl, h1, h2⟩ := h
  exact ⟨_, rfl, .inr ⟨_, rfl, ints_ok, by rw [List.length_map]; omega, .inr ⟨cs, rfl, .inl ⟨h1, r⟩⟩⟩⟩

abbrev s_marks_of : Stmt := topS 11
theorem sc_marks_of : FnScope ["calls", "hosts", "choice"] ["calls", "hosts"] (defScope s_marks_of) := ⟨rfl, rfl, rfl, by decide +kernel, rfl, by decide +kernel, by decide +kernel⟩
def spd_marks_of (aL : Addr) : Spd := fun bs R E => ∃ d1 d2, bs = [.p d1, .p d2] ∧ ((BadL d1 ∧ E aL [d1] 0) ∨ ∃ cs, GoodL d1 cs ∧ ((BadL d2 ∧ E aL [d2] 0) ∨ ∃ hs, GoodL d2 hs ∧ ∀ ns : List Int, ns.Perm (cs ++ hs.filter fun i => !metIn cs i) → OrdB true ns → R (.p (.str (Txt.join "" (ns.map (signAt cs hs))))) 0))
theorem cal_marks_of (Da : DefAt K mg "marks_of" s_marks_of) {aL : Addr} (c_check_choices : Cal P w K mg base "check_choices" 3 ["value"] (spd_check_choices aL)) (c_merged : Cal P w K mg base "merged" 1 ["calls", "hosts"] spd_merged) (c_mark_of : Cal P w K mg base "mark_of" 1 ["is_call", "is_host"] spd_mark_of) : Cal P w K mg base "marks_of" 4 ["calls", "hosts"] (spd_marks_of aL) := by
  refine cal_mk none Da sc_marks_of (fun _ _ _ _ _ _ us hl => match us, hl with | [_, _], _ => rfl) (fun bs R E h => ?_) (fun bs R E h => ?_) fun f cdv A outer s H E W bs R ED gu hr te h fh => ?_
  · obtain ⟨d1, d2, rfl, q⟩ := h
    rfl
  · obtain ⟨d1, d2, rfl, q⟩ := h
    exact pur_none (by simp [B.own])
  · obtain ⟨d1, d2, rfl, q⟩ := h
    have nd := sc_marks_of.nd
    have hu := hr.units
    refine ⟨_, (dss_cons (ds_expr (de_cX te c_check_choices gu hr (da_cons (de_v 0) da_nil))) (dss_cons (ds_expr (de_cX te c_check_choices gu hr (da_cons (de_v 1) da_nil))) (dss_one (ds_ret (de_join de_str (de_lc rfl nd (di_any (de_c c_merged gu hr (da_cons (de_v 0) (da_cons (de_v 1) da_nil)))) (own := [("choice", 2)]) (blkOk_by (by kernel_rfl)) (fun _ _ _ _ _ _ => (dgc_name (i := 2) (by decide) nd rfl (by first | exact Or.inl rfl | exact Or.inr rfl))) (fun _ _ _ _ _ _ => dts_nil) (fun _ _ _ _ _ _ => (de_c c_mark_of gu hr (da_cons (de_cmp op_inAll rd_in (de_v 2) (de_v 0) rfl) (da_cons (de_cmp op_inAll rd_in (de_v 2) (de_v 1) rfl) da_nil)))))))))), ?_⟩
    simp only [startD, List.map_cons, List.map_nil, List.length_cons, List.length_nil, Nat.reduceAdd, Nat.reduceSub, List.replicate, List.cons_append, List.nil_append, dSeq, dSet, dIfS, dT, dOp, dCB, dCons, dNil, dV, dM, dC, dp, dNext, dRet, dRetN, dLst, dTup, dDrop, dNot, dAnd, dOr, dAndV, dOrV, dNotV, intG, intG0, lenG, lenD, ixG, itemD, intCG, intOf, maxG, List.getElem?_cons_zero, List.getElem?_cons_succ, List.set_cons_zero, List.set_cons_succ, Option.some.injEq, B.isU, B.d, B.rd, exists_eq_left', exists_eq_left, exists_and_left, true_and, and_true, B.p.injEq, DD.D.bl.injEq, DD.D.int.injEq, List.cons.injEq, DD.PC, decide_eq_true_eq, and_assoc, Option.map_some, dLc, iAny, walked, wipeE, gN, dCall, dCallP, dCallF, eqG, neG, Bool.not_true, Bool.not_false, if_true, if_false, Bool.false_eq_true, reduceIte, List.append_nil, dCBK, addG, dM1, gT, gsCons, gsNil, iEnumD, dAsP, iR1, dPart, dNo, dSl, freB, lstD, List.all_cons, List.all_nil, litD, Bool.and_self, dReprPair, dDctN, itemD2, ixG2, keyD, lookD, strG2, dPar, bCons, bNil, dFor, List.zip_cons_cons, List.zip_nil_right, List.foldl_cons, List.foldl_nil, dApp, B.o.injEq, DD.D.lst.injEq, DD.D.tup.injEq, exists_eq', dDct0, B.u.injEq, sizeLine_eq, Nat.reduceLeDiff, Nat.reduceLT, Nat.zero_le, true_implies, slG, List.length_map, tupleG, seqD, listG, iR2, List.length_take, List.length_drop, List.length_append, DD.D.str.injEq]
    rcases q with ⟨b, q⟩ | ⟨cs, g1, q⟩
    · exact bad_check b ⟨0, q⟩
    refine good_check g1 ⟨rfl, ?_⟩
    rcases q with ⟨b, q⟩ | ⟨hs, g2, q⟩
    · exact bad_check b ⟨0, q⟩
    refine good_check g2 ⟨rfl, ?_⟩
    obtain ⟨rfl, d1, hc⟩ := g1
    obtain ⟨rfl, d2, hh⟩ := g2
    refine ⟨cs, hs, rfl, hc, hh, fun ns h1 h2 => ?_⟩
    have hl : ns.length < 8000 := by
      have e1 := h1.length_eq
      have e2 : (hs.filter fun i => !metIn cs i).length ≤ hs.length := List.length_filter_le _ _
      rw [List.length_append] at e1
      omega
    refine ⟨rfl, rfl, _, rfl, ?_⟩
    refine lcL_map (fun _ => true) (fun x => match x with | .int i => .str (signAt cs hs i) | d => d) (fun x => [some (.p (.lst (cs.map D.int))), some (.p (.lst (hs.map D.int))), some (.p x)]) (fun x => [some (.p (.lst (cs.map D.int))), some (.p (.lst (hs.map D.int))), some (.p x)]) (fun x hx Y N y n => ?_) (fun x hx => ⟨rfl, rfl⟩) (by rw [sizeLine_eq, List.length_nil, List.length_map]; omega) ?_
    · obtain ⟨i, _, rfl⟩ := List.mem_map.mp hx
      simp only [startD, List.map_cons, List.map_nil, List.length_cons, List.length_nil, Nat.reduceAdd, Nat.reduceSub, List.replicate, List.cons_append, List.nil_append, dSeq, dSet, dIfS, dT, dOp, dCB, dCons, dNil, dV, dM, dC, dp, dNext, dRet, dRetN, dLst, dTup, dDrop, dNot, dAnd, dOr, dAndV, dOrV, dNotV, intG, intG0, lenG, lenD, ixG, itemD, intCG, intOf, maxG, List.getElem?_cons_zero, List.getElem?_cons_succ, List.set_cons_zero, List.set_cons_succ, Option.some.injEq, B.isU, B.d, B.rd, exists_eq_left', exists_eq_left, exists_and_left, true_and, and_true, B.p.injEq, DD.D.bl.injEq, DD.D.int.injEq, List.cons.injEq, DD.PC, decide_eq_true_eq, and_assoc, Option.map_some, dLc, iAny, walked, wipeE, gN, dCall, dCallP, dCallF, eqG, neG, Bool.not_true, Bool.not_false, if_true, if_false, Bool.false_eq_true, reduceIte, List.append_nil, dCBK, addG, dM1, gT, gsCons, gsNil, iEnumD, dAsP, iR1, dPart, dNo, dSl, freB, lstD, List.all_cons, List.all_nil, litD, Bool.and_self, dReprPair, dDctN, itemD2, ixG2, keyD, lookD, strG2, dPar, bCons, bNil, dFor, List.zip_cons_cons, List.zip_nil_right, List.foldl_cons, List.foldl_nil, dApp, B.o.injEq, DD.D.lst.injEq, DD.D.tup.injEq, exists_eq', dDct0, B.u.injEq, sizeLine_eq, Nat.reduceLeDiff, Nat.reduceLT, Nat.zero_le, true_implies, slG, List.length_map, tupleG, seqD, listG, iR2, List.length_take, List.length_drop, List.length_append, DD.D.str.injEq, dYes, inG, isIn_ints]
      exact ⟨_, _, rfl, rfl, rfl, y rfl⟩
    · rw [List.filter_eq_self.mpr (fun _ _ => rfl), List.nil_append, List.map_map]
      refine ⟨ns.map (signAt cs hs), ?_, ?_, rfl, 0, q ns h1 h2⟩
      · show some _ = some _
        rw [List.map_map]
        rfl
      · rw [sum_ones, List.length_map]
        have e0 : (Str.ofString "").length = 0 := rfl
        rw [e0]
        omega
abbrev s__law_pick : Stmt := topS 15
theorem sc__law_pick : FnScope ["_law_purse_here", "_law_items"] ["_law_purse_here", "_law_items"] (defScope s__law_pick) := ⟨rfl, rfl, rfl, by decide +kernel, rfl, by decide +kernel, by decide +kernel⟩
def spd__law_pick  : Spd := fun bs R _ => ∃ (n : Nat) (ds : List D), bs = [.u true n, .p (.lst ds)] ∧ 0 < ds.length ∧ ds.length < 1000000 ∧ n < 10 ^ 6 ∧ ∀ d ∈ ds, R (.p d) (n + 1)
theorem cal__law_pick (Da : DefAt K mg "_law_pick" s__law_pick) (c__law_draw : Cal P w K mg base "_law_draw" 1 ["_law_purse_here", "_law_many"] spdDraw) (m_len : mg "len" = none) : Cal P w K mg base "_law_pick" 2 ["_law_purse_here", "_law_items"] spd__law_pick := by
  refine cal_mk (some 0) Da sc__law_pick (fun _ _ _ _ _ _ us hl => match us, hl with | [_, _], _ => rfl) (fun bs R E h => ?_) (fun bs R E h => ?_) fun f cdv A outer s H E W bs R ED gu hr te h fh => ?_
  · obtain ⟨n, ds, rfl, h0, h1, hn, q⟩ := h
    rfl
  · obtain ⟨n, ds, rfl, h0, h1, hn, q⟩ := h
    exact pur_zero (by simp [B.own])
  · obtain ⟨n, ds, rfl, h0, h1, hn, q⟩ := h
    have nd := sc__law_pick.nd
    have hu := hr.units
    refine ⟨_, (dss_one (ds_ret (de_ix2 hu (de_v 1) (de_cP c__law_draw gu hr (i := 0) rfl (da_cons (de_callB cr_lenAll rc_len rfl m_len bt_len (da_cons (de_v 1) da_nil)) da_nil)) fun _ _ => rfl))), ?_⟩
    simp only [startD, List.map_cons, List.map_nil, List.length_cons, List.length_nil, Nat.reduceAdd, Nat.reduceSub, List.replicate, List.cons_append, List.nil_append, dSeq, dSet, dIfS, dT, dOp, dCB, dCons, dNil, dV, dM, dC, dp, dNext, dRet, dRetN, dLst, dTup, dDrop, dNot, dAnd, dOr, dAndV, dOrV, dNotV, intG, intG0, lenG, lenD, ixG, itemD, intCG, intOf, maxG, List.getElem?_cons_zero, List.getElem?_cons_succ, List.set_cons_zero, List.set_cons_succ, Option.some.injEq, B.isU, B.d, B.rd, exists_eq_left', exists_eq_left, exists_and_left, true_and, and_true, B.p.injEq, DD.D.bl.injEq, DD.D.int.injEq, List.cons.injEq, DD.PC, decide_eq_true_eq, and_assoc, Option.map_some, dLc, iAny, walked, wipeE, gN, dCall, dCallP, dCallF, eqG, neG, Bool.not_true, Bool.not_false, if_true, if_false, Bool.false_eq_true, reduceIte, List.append_nil, dCBK, addG, dM1, gT, gsCons, gsNil, iEnumD, dAsP, iR1, dPart, dNo, dSl, freB, lstD, List.all_cons, List.all_nil, litD, Bool.and_self, dReprPair, dDctN, itemD2, ixG2, keyD, lookD, strG2, dPar, bCons, bNil, dFor, List.zip_cons_cons, List.zip_nil_right, List.foldl_cons, List.foldl_nil, dApp, B.o.injEq, DD.D.lst.injEq, DD.D.tup.injEq, exists_eq', dDct0, B.u.injEq, sizeLine_eq, Nat.reduceLeDiff, Nat.reduceLT, Nat.zero_le, true_implies, slG, List.length_map, tupleG, seqD, listG, iR2, List.length_take, List.length_drop, List.length_append, DD.D.str.injEq]
    have big : (1000000 : Int) < 10 ^ 2000 := by decide +kernel
    refine ⟨n, _, rfl, by omega, by omega, hn, fun d h2 h3 => ?_⟩
    obtain ⟨i, rfl⟩ := Int.eq_ofNat_of_zero_le h2
    have hi : i < ds.length := by omega
    exact ⟨rfl, rfl, ds[i], atI_nat (List.getElem?_eq_getElem hi), q _ (List.getElem_mem hi)⟩
end
end K

set_option Elab.async false
set_option linter.all false
set_option maxRecDepth 100000
set_option maxHeartbeats 4000000
namespace K
open PySem PySem.Spec PyProof.Rows L2 DD
theorem isDesc_of {ns : List Int} (h : ns.Pairwise (· > ·)) : isDesc ns = true := by
  unfold isDesc
  rw [List.isEmpty_iff, List.filter_eq_nil_iff]
  intro x hx
  obtain ⟨i, hi, rfl⟩ := List.mem_map.mp (show x ∈ (List.range (ns.length - 1)).map _ from hx)
  have hi := List.mem_range.mp hi
  have e1 : atI ns (1 + (i : Int) - 1) = some ns[i] := by
    rw [show (1 : Int) + i - 1 = (i : Nat) by omega]
    exact atI_nat (List.getElem?_eq_getElem (by omega))
  have e2 : atI ns (1 + (i : Int)) = some ns[i + 1] := by
    rw [show (1 : Int) + i = ((i + 1 : Nat) : Int) by omega]
    exact atI_nat (List.getElem?_eq_getElem (by omega))
  show ¬ decide ((atI ns (1 + (i : Int) - 1)).getD 0 ≤ (atI ns (1 + (i : Int))).getD 0) = true
  rw [e1, e2]
  have := List.pairwise_iff_getElem.mp h i (i + 1) (by omega) (by omega) (Nat.lt_succ_self i)
  simp only [Option.getD_some, decide_eq_true_eq]
  omega
theorem metIn_eq {ns : List Int} {k : Int} : metIn ns k = decide (k ∈ ns) := by
  unfold metIn
  rw [Bool.eq_iff_iff, List.any_eq_true, decide_eq_true_eq]
  exact ⟨fun ⟨x, h1, h2⟩ => by rw [← beq_iff_eq.mp h2]; exact h1, fun h => ⟨k, h, beq_self_eq_true k⟩⟩
theorem join_back : ∀ l : List Nat, Txt.join "" (l.map fun c => (⟨#[c]⟩ : Str)) = ⟨l.toArray⟩ := by
  intro l
  show Builtin.Str.glued _ _ = _
  rw [StrLaws.glued_eq_join]
  have key : ∀ l : List Nat, _root_.TL.tl (Str.join "" (l.map fun c => (⟨#[c]⟩ : Str))) = l := by
    intro l
    rw [_root_.TL.tl_join]
    induction l with
    | nil => rfl
    | cons c l ih =>
      cases l with
      | nil => rfl
      | cons d l =>
        show [c] ++ (_root_.TL.tl "" ++ _root_.TL.joinL (_root_.TL.tl "") (((d :: l).map fun c => (⟨#[c]⟩ : Str)).map _root_.TL.tl)) = _
        rw [ih]
        rfl
  have := key l
  have e : ∀ (s : Str) (l : List Nat), _root_.TL.tl s = l → s = ⟨l.toArray⟩ := fun s l h => by
    subst h
    cases s with
    | mk a => rfl
  exact e _ _ this
def MkT (x : Str) : Prop := ∀ c ∈ x.cps.toList, c = 98 ∨ c = 99 ∨ c = 104
theorem singles {ys : List Str} (h : ∀ y ∈ ys, y = "c" ∨ y = "h" ∨ y = "b") : ∃ l : List Nat, ys = l.map (fun c => (⟨#[c]⟩ : Str)) ∧ ∀ c ∈ l, c = 98 ∨ c = 99 ∨ c = 104 := by
  induction ys with
  | nil => exact ⟨[], rfl, fun _ h => by cases h⟩
  | cons y ys ih =>
    obtain ⟨l, h1, h2⟩ := ih fun y hy => h y (List.mem_cons_of_mem _ hy)
    have one : ∃ c : Nat, y = ⟨#[c]⟩ ∧ (c = 98 ∨ c = 99 ∨ c = 104) := by
      rcases h y List.mem_cons_self with rfl | rfl | rfl
      · exact ⟨99, rfl, .inr (.inl rfl)⟩
      · exact ⟨104, rfl, .inr (.inr rfl)⟩
      · exact ⟨98, rfl, .inl rfl⟩
    obtain ⟨c, e, hc⟩ := one
    refine ⟨c :: l, by rw [List.map_cons, ← h1, e], fun d hd => ?_⟩
    rcases List.mem_cons.mp hd with z | z
    · rw [z]
      exact hc
    · exact h2 d z
theorem mk_join {ys : List Str} (h : ∀ y ∈ ys, y = "c" ∨ y = "h" ∨ y = "b") : MkT (Txt.join "" ys) ∧ (Txt.join "" ys).length = ys.length ∧ (ys.map (·.length)).sum = ys.length := by
  obtain ⟨l, rfl, hl⟩ := singles h
  refine ⟨?_, ?_, ?_⟩
  · rw [join_back]
    intro c hc
    exact hl c (by simpa using hc)
  · rw [join_back, List.length_map]
    show l.toArray.size = _
    simp
  · rw [List.map_map]
    clear hl h
    induction l with
    | nil => rfl
    | cons c l ih =>
      rw [List.map_cons, List.sum_cons, ih]
      show 1 + _ = _
      rw [List.length_map, List.length_map, List.length_cons]
      omega
theorem mk_app {x y : Str} (h1 : MkT x) (h2 : MkT y) : MkT (x ++ y) := fun c hc => by
  have e : (x ++ y).cps.toList = x.cps.toList ++ y.cps.toList := _root_.TL.tl_append x y
  rw [e] at hc
  rcases List.mem_append.mp hc with z | z
  · exact h1 c z
  · exact h2 c z
theorem fold_mem {x : Array Nat} {c : Nat} : ∀ (n : Nat) (a : Array Nat), c ∈ ((List.replicate n x).foldl (· ++ ·) a).toList → c ∈ a.toList ∨ c ∈ x.toList
  | 0, a, h => .inl h
  | n + 1, a, h => by
    have h : c ∈ ((List.replicate n x).foldl (· ++ ·) (a ++ x)).toList := h
    rcases fold_mem n (a ++ x) h with z | z
    · rw [Array.toList_append] at z
      exact (List.mem_append.mp z)
    · exact .inr z
theorem fold_size {x : Array Nat} : ∀ (n : Nat) (a : Array Nat), ((List.replicate n x).foldl (· ++ ·) a).size = a.size + n * x.size
  | 0, a => by
    show a.size = a.size + 0 * x.size
    omega
  | n + 1, a => by
    show ((List.replicate n x).foldl (· ++ ·) (a ++ x)).size = _
    rw [fold_size n (a ++ x), Array.size_append, Nat.add_mul]
    omega
theorem mk_mul {x : Str} {k : Int} (h : MkT x) (h1 : x.length = 1) (h0 : 0 ≤ k) (hk : k < 1000) : MkT (Txt.mul x k) ∧ (Txt.mul x k).length ≤ k.toNat ∧ MulOk x k := by
  refine ⟨?_, ?_, ?_⟩
  · intro c hc
    unfold Txt.mul at hc
    split at hc
    · exact absurd (show c ∈ ([] : List Nat) from hc) (by simp)
    · split at hc
      · exact h c hc
      · rcases fold_mem _ _ hc with z | z
        · exact absurd z (by simp)
        · exact h c z
  · unfold Txt.mul
    split
    · exact Nat.zero_le _
    · rename_i hn
      split
      · rw [h1]
        omega
      · show ((List.replicate k.toNat x.cps).foldl (· ++ ·) #[]).size ≤ _
        rw [fold_size]
        have e : x.cps.size = 1 := h1
        rw [e]
        simp
  · refine ⟨?_, fun hn _ => ?_, fun hn _ => ?_⟩
    · rw [decide_eq_false (by omega), decide_eq_false (by omega)]
      rfl
    · rw [h1]
      have : (1 : Int) ≤ (2 ^ 63 - 1) / k := by
        rw [Int.le_ediv_iff_mul_le (by omega)]
        omega
      omega
    · rw [h1, Nat.one_mul]
      unfold Builtin.Str.tooLong
      simp
      have e := sizeLine_eq
      omega
theorem mk_cut {x : Str} {lo hi : Option Int} (h : MkT x) : MkT (L2.cutS x lo hi) := fun c hc => by
  unfold L2.cutS at hc
  have hc : c ∈ (x.cps.toList.drop (HT.sIx x.length 0 lo)).take (HT.sIx x.length x.length hi - HT.sIx x.length 0 lo) := by simpa using hc
  exact h c (List.mem_of_mem_drop (List.mem_of_mem_take hc))
theorem mk_small {x : Str} (h : MkT x) : ∀ c ∈ x.cps.toList, c < 1114112 := fun c hc => by
  rcases h c hc with rfl | rfl | rfl <;> decide
theorem cut_le {x : Str} {lo hi : Option Int} : (L2.cutS x lo hi).length ≤ x.length := by
  unfold L2.cutS
  show ((x.cps.toList.drop _).take _).toArray.size ≤ _
  rw [List.size_toArray, List.length_take, List.length_drop]
  show _ ≤ x.cps.size
  rw [← Array.length_toList]
  omega

/-- choices and their marks: those whose mark isn't t -/
def sel (t : Nat) (zs : List (Int × Nat)) : List Int := (zs.filter fun z => !decide (z.2 = t)).map (·.1)
theorem mem_sel {t : Nat} {zs : List (Int × Nat)} {i : Int} : i ∈ sel t zs ↔ ∃ c, (i, c) ∈ zs ∧ c ≠ t := by
  unfold sel
  rw [List.mem_map]
  constructor
  · rintro ⟨z, hz, rfl⟩
    obtain ⟨h1, h2⟩ := List.mem_filter.mp hz
    exact ⟨z.2, h1, by simpa using h2⟩
  · rintro ⟨c, h1, h2⟩
    exact ⟨(i, c), List.mem_filter.mpr ⟨h1, by simpa using h2⟩, rfl⟩
abbrev Dsc (zs : List (Int × Nat)) : Prop := zs.Pairwise fun a b => a.1 > b.1
theorem dsc_uniq {zs : List (Int × Nat)} (h : Dsc zs) {i : Int} {c d : Nat} (h1 : (i, c) ∈ zs) (h2 : (i, d) ∈ zs) : c = d := by
  induction zs with
  | nil => cases h1
  | cons z zs ih =>
    obtain ⟨a, b⟩ := List.pairwise_cons.mp h
    rcases List.mem_cons.mp h1 with e1 | e1
    · rcases List.mem_cons.mp h2 with e2 | e2
      · rw [← e1] at e2
        cases e2
        rfl
      · have := a _ e2
        rw [← e1] at this
        exact absurd this (by simp)
    · rcases List.mem_cons.mp h2 with e2 | e2
      · have := a _ e1
        rw [← e2] at this
        exact absurd this (by simp)
      · exact ih b e1 e2
theorem sel_desc {t : Nat} {zs : List (Int × Nat)} (h : Dsc zs) : (sel t zs).Pairwise (· > ·) := by
  unfold sel
  rw [List.pairwise_map]
  exact h.filter _
theorem sel_len {t : Nat} {zs : List (Int × Nat)} : (sel t zs).length ≤ zs.length := by
  unfold sel
  rw [List.length_map]
  exact List.length_filter_le _ _
def IsC (c : Nat) : Prop := c = 98 ∨ c = 99 ∨ c = 104
theorem sel_parts {zs : List (Int × Nat)} (h : Dsc zs) (hc : ∀ z ∈ zs, IsC z.2) : (sel 104 zs ++ (sel 99 zs).filter fun i => !metIn (sel 104 zs) i).Perm (zs.map (·.1)) := by
  have e : (sel 99 zs).filter (fun i => !metIn (sel 104 zs) i) = (zs.filter fun z => !(!decide (z.2 = 104))).map (·.1) := by
    unfold sel
    rw [List.filter_map, List.filter_filter]
    congr 1
    apply List.filter_congr
    intro z hz
    show ((!metIn (sel 104 zs) z.1) && !decide (z.2 = 99)) = !(!decide (z.2 = 104))
    rw [metIn_eq]
    by_cases h4 : z.2 = 104
    · have e1 : ¬ z.1 ∈ sel 104 zs := fun q => by
        obtain ⟨c, h1, h2⟩ := mem_sel.mp q
        exact h2 ((dsc_uniq h h1 (show (z.1, z.2) ∈ zs from hz)).trans h4)
      rw [decide_eq_false e1, h4]
      rfl
    · have e1 : z.1 ∈ sel 104 zs := mem_sel.mpr ⟨z.2, hz, h4⟩
      rw [decide_eq_true e1, decide_eq_false h4]
      rfl
  rw [e]
  unfold sel
  rw [← List.map_append]
  exact (List.filter_append_perm (fun z : Int × Nat => !decide (z.2 = 104)) zs).map _
theorem sign_of_sel {zs : List (Int × Nat)} (h : Dsc zs) {i : Int} {c : Nat} (hz : (i, c) ∈ zs) (hc : IsC c) : signAt (sel 104 zs) (sel 99 zs) i = ⟨#[c]⟩ := by
  have h1 : i ∈ sel 104 zs ↔ c ≠ 104 := ⟨fun q => by
    obtain ⟨d, g1, g2⟩ := mem_sel.mp q
    rw [dsc_uniq h hz g1]
    exact g2, fun q => mem_sel.mpr ⟨c, hz, q⟩⟩
  have h2 : i ∈ sel 99 zs ↔ c ≠ 99 := ⟨fun q => by
    obtain ⟨d, g1, g2⟩ := mem_sel.mp q
    rw [dsc_uniq h hz g1]
    exact g2, fun q => mem_sel.mpr ⟨c, hz, q⟩⟩
  unfold signAt
  rcases hc with rfl | rfl | rfl
  · rw [decide_eq_true (h1.mpr (by decide)), decide_eq_true (h2.mpr (by decide))]
    rfl
  · rw [decide_eq_true (h1.mpr (by decide)), decide_eq_false (fun z => (h2.mp z) rfl)]
    rfl
  · rw [decide_eq_false (fun z => (h1.mp z) rfl)]
    rfl
/-- the marks come back -/
theorem marks_back {zs : List (Int × Nat)} {ns : List Int} (h : Dsc zs) (hc : ∀ z ∈ zs, IsC z.2) (hp : ns.Perm (sel 104 zs ++ (sel 99 zs).filter fun i => !metIn (sel 104 zs) i)) (ho : OrdB true ns) :
    Txt.join "" (ns.map (signAt (sel 104 zs) (sel 99 zs))) = ⟨(zs.map (·.2)).toArray⟩ := by
  have hp2 := hp.trans (sel_parts h hc)
  have ho : ns.Pairwise (· ≥ ·) := ho
  have hd : (zs.map (·.1)).Pairwise (· ≥ ·) := by
    rw [List.pairwise_map]
    exact h.imp fun q => by
      have q := q
      omega
  have e : ns = zs.map (·.1) := List.Perm.eq_of_pairwise (fun x y _ _ h1 h2 => Int.le_antisymm h2 h1) ho hd hp2
  rw [e, List.map_map, ← join_back, List.map_map]
  congr 1
  apply List.map_congr_left
  intro z hz
  exact sign_of_sel h (show (z.1, z.2) ∈ zs from hz) (hc z hz)
/-- the two lists exchanged -/
def turn (c : Nat) : Nat := if c = 99 then 104 else if c = 104 then 99 else c
def turned (zs : List (Int × Nat)) : List (Int × Nat) := zs.map fun z => (z.1, turn z.2)
theorem turn_99 {c : Nat} : turn c = 99 ↔ c = 104 := by
  unfold turn
  split
  · rename_i h
    rw [h]
    decide
  · split
    · rename_i h
      simp [h]
    · rename_i h1 h2
      simp [h1, h2]
theorem turn_104 {c : Nat} : turn c = 104 ↔ c = 99 := by
  unfold turn
  split
  · rename_i h
    simp [h]
  · split
    · rename_i h1 h
      simp [h]
    · rename_i h1 h2
      simp [h1, h2]
theorem turn_is {c : Nat} (h : IsC c) : IsC (turn c) := by
  rcases h with rfl | rfl | rfl
  · exact .inl rfl
  · exact .inr (.inr rfl)
  · exact .inr (.inl rfl)
theorem sel_turned {zs : List (Int × Nat)} : sel 104 (turned zs) = sel 99 zs ∧ sel 99 (turned zs) = sel 104 zs := by
  unfold sel turned
  constructor
  · rw [List.filter_map, List.map_map]
    congr 1
    apply List.filter_congr
    intro z _
    show (!decide (turn z.2 = 104)) = !decide (z.2 = 99)
    by_cases e : z.2 = 99
    · rw [decide_eq_true e, decide_eq_true (turn_104.mpr e)]
    · rw [decide_eq_false e, decide_eq_false fun q => e (turn_104.mp q)]
  · rw [List.filter_map, List.map_map]
    congr 1
    apply List.filter_congr
    intro z _
    show (!decide (turn z.2 = 99)) = !decide (z.2 = 104)
    by_cases e : z.2 = 104
    · rw [decide_eq_true e, decide_eq_true (turn_99.mpr e)]
    · rw [decide_eq_false e, decide_eq_false fun q => e (turn_99.mp q)]
theorem turned_dsc {zs : List (Int × Nat)} (h : Dsc zs) : Dsc (turned zs) := by
  unfold turned
  rw [Dsc, List.pairwise_map]
  exact h
theorem turned_is {zs : List (Int × Nat)} (h : ∀ z ∈ zs, IsC z.2) : ∀ z ∈ turned zs, IsC z.2 := fun z hz => by
  obtain ⟨y, hy, rfl⟩ := List.mem_map.mp hz
  exact turn_is (h y hy)
theorem turned_snd {zs : List (Int × Nat)} : (turned zs).map (·.2) = (zs.map (·.2)).map turn := by
  unfold turned
  rw [List.map_map, List.map_map]
  rfl
theorem marks_turned {zs : List (Int × Nat)} {ns : List Int} (h : Dsc zs) (hc : ∀ z ∈ zs, IsC z.2) (hp : ns.Perm (sel 99 zs ++ (sel 104 zs).filter fun i => !metIn (sel 99 zs) i)) (ho : OrdB true ns) :
    Txt.join "" (ns.map (signAt (sel 99 zs) (sel 104 zs))) = ⟨((zs.map (·.2)).map turn).toArray⟩ := by
  rw [← turned_snd]
  obtain ⟨e1, e2⟩ := sel_turned (zs := zs)
  rw [← e1, ← e2] at hp ⊢
  exact marks_back (turned_dsc h) (turned_is hc) hp ho
/-- one list twice -/
theorem marks_both {cs ns : List Int} (h : cs.Pairwise (· > ·)) (hp : ns.Perm (cs ++ cs.filter fun i => !metIn cs i)) (ho : OrdB true ns) : Txt.join "" (ns.map (signAt cs cs)) = ⟨(List.replicate cs.length 98).toArray⟩ := by
  have hs : ∀ t, t ≠ 98 → sel t (cs.map fun i => (i, 98)) = cs := fun t ht => by
    unfold sel
    rw [List.filter_map, List.map_map, List.filter_eq_self.mpr]
    · exact List.map_id _
    · intro i _
      show (!decide (98 = t)) = true
      rw [decide_eq_false (Ne.symm ht)]
      rfl
  have d : Dsc (cs.map fun i => (i, 98)) := by
    rw [Dsc, List.pairwise_map]
    exact h
  have := marks_back (zs := cs.map fun i => (i, 98)) (ns := ns) d (fun z hz => by
    obtain ⟨i, _, rfl⟩ := List.mem_map.mp hz
    exact .inl rfl) (by rw [hs 104 (by decide), hs 99 (by decide)]; exact hp) ho
  rw [hs 104 (by decide), hs 99 (by decide)] at this
  rw [this, List.map_map]
  congr 2
  exact List.map_const'
/-- what isn't descending -/
theorem not_desc {a b : List Int} {v w : Int} (h : v ≤ w) : isDesc (a ++ v :: w :: b) = false := by
  cases e : isDesc (a ++ v :: w :: b) with
  | false => rfl
  | true =>
    unfold isDesc at e
    rw [List.isEmpty_iff, List.filter_eq_nil_iff] at e
    have hm : D.int (1 + (a.length : Nat)) ∈ upto 1 ((a ++ v :: w :: b).length - 1) := by
      unfold upto
      refine List.mem_map.mpr ⟨a.length, List.mem_range.mpr ?_, rfl⟩
      rw [List.length_append, List.length_cons, List.length_cons]
      omega
    have := e _ hm
    have e1 : atI (a ++ v :: w :: b) (1 + ((a.length : Nat) : Int) - 1) = some v := by
      rw [show (1 : Int) + (a.length : Nat) - 1 = (a.length : Nat) by omega]
      exact atI_nat (by simp)
    have e2 : atI (a ++ v :: w :: b) (1 + ((a.length : Nat) : Int)) = some w := by
      rw [show (1 : Int) + (a.length : Nat) = ((a.length + 1 : Nat) : Int) by omega]
      exact atI_nat (by simp)
    have h3 : leAt (a ++ v :: w :: b) (.int (1 + (a.length : Nat))) = decide ((atI (a ++ v :: w :: b) (1 + ((a.length : Nat) : Int) - 1)).getD 0 ≤ (atI (a ++ v :: w :: b) (1 + ((a.length : Nat) : Int))).getD 0) := rfl
    rw [h3, e1, e2] at this
    exact absurd (decide_eq_true h) this
end K

set_option Elab.async false
set_option linter.all false
set_option maxRecDepth 100000
set_option maxHeartbeats 8000000
namespace K
open PySem PySem.Spec PyProof.Rows L2 DD
section
variable {P : Program} {w : World} {K : PySem.W.Frag} {mg : Str → Option Value} {base : Heap}

theorem sel_add {t : Nat} {zs : List (Int × Nat)} {v : Int} {c : Nat} : sel t (zs ++ [(v, c)]) = sel t zs ++ (if c = t then [] else [v]) := by
  unfold sel
  rw [List.filter_append, List.map_append]
  congr 1
  by_cases h : c = t
  · rw [if_pos h]
    simp [h]
  · rw [if_neg h]
    simp [h]
theorem sgn_eq {k j : Nat} : eqD (.str ⟨#[k]⟩) (.str ⟨#[j]⟩) = some (decide (k = j)) := by
  refine eqD_str.trans ?_
  by_cases h : k = j
  · rw [h, decide_eq_true rfl, decide_eq_true rfl]
  · rw [decide_eq_false h, decide_eq_false fun z => h (by
      have z2 := congrArg (fun s : Str => s.cps.toList) z
      simpa using z2)]
/-- what the two lists hold so far -/
def ListsI (x : Str) (n : Nat) (p : List D) (δ : Env') : Prop := ∃ (zs : List (Int × Nat)) (c : Int) (s5 : Option B), p = zs.map (fun z => D.str ⟨#[z.2]⟩) ∧ Dsc zs ∧ (∀ z ∈ zs, c ≤ z.1) ∧ (∀ z ∈ zs, z.1.natAbs < 10 ^ 45) ∧ c.natAbs < 10 ^ 44 + zs.length * 20000001 ∧
  δ = [some (.u true (n + 2 * zs.length)), some (.p (.str x)), some (.p (.int c)), some (.o (.lst ((sel 104 zs).map D.int))), some (.o (.lst ((sel 99 zs).map D.int))), s5]

abbrev s__law_lists : Stmt := topS 16
theorem sc__law_lists : FnScope ["_law_purse_here", "_law_marks", "_law_choice", "_law_calls", "_law_hosts", "_law_mark"] ["_law_purse_here", "_law_marks"] (defScope s__law_lists) := ⟨rfl, rfl, rfl, by decide +kernel, rfl, by decide +kernel, by decide +kernel⟩
def spd__law_lists  : Spd := fun bs R _ => ∃ (n : Nat) (x : Str), bs = [.u true n, .p (.str x)] ∧ MkT x ∧ x.length ≤ 1000 ∧ n < 10 ^ 5 ∧ ∀ zs : List (Int × Nat), zs.map (·.2) = x.cps.toList → Dsc zs → (∀ z ∈ zs, z.1.natAbs < 10 ^ 45) → R (.p (.tup [.lst ((sel 104 zs).map D.int), .lst ((sel 99 zs).map D.int)])) (n + 1 + 2 * x.length)
theorem cal__law_lists (Da : DefAt K mg "_law_lists" s__law_lists) (c__law_draw : Cal P w K mg base "_law_draw" 1 ["_law_purse_here", "_law_many"] spdDraw) (c__law_pick : Cal P w K mg base "_law_pick" 2 ["_law_purse_here", "_law_items"] spd__law_pick) : Cal P w K mg base "_law_lists" 3 ["_law_purse_here", "_law_marks"] spd__law_lists := by
  refine cal_mk (some 0) Da sc__law_lists (fun _ _ _ _ _ _ us hl => match us, hl with | [_, _], _ => rfl) (fun bs R E h => ?_) (fun bs R E h => ?_) fun f cdv A outer s H E W bs R ED gu hr te h fh => ?_
  · obtain ⟨n, x, rfl, hx, hl, hn, q⟩ := h
    rfl
  · obtain ⟨n, x, rfl, hx, hl, hn, q⟩ := h
    exact pur_zero (by simp [B.own])
  · obtain ⟨n, x, rfl, hx, hl, hn, q⟩ := h
    have nd := sc__law_lists.nd
    have hu := hr.units
    have ps := passes_of (X := cxOf (L2.CX P w) P w K mg base ["_law_purse_here", "_law_marks", "_law_choice", "_law_calls", "_law_hosts", "_law_mark"] "_law_lists" (defScope s__law_lists) f cdv A outer s H E) rfl
    refine ⟨_, (dss_cons (ds_set (i := 2) nd rfl (by first | exact Or.inl rfl | exact Or.inr rfl) (de_cP c__law_pick gu hr (i := 0) rfl (da_cons (de_lst (da_cons de_int (da_cons de_int (da_cons de_int (da_cons de_int (da_cons (de_op op_addAll rd_add (de_op op_powW rd_intI de_int de_int) (de_op op_powW rd_intI de_int de_int)) (da_cons (de_op op_sub rd_intI0 de_int (de_op op_powW rd_intI de_int de_int)) da_nil))))))) da_nil))) (dss_cons (ds_par (i := 3) (j := 4) rfl nd rfl rfl (by decide) rfl rfl (db_cons (fun _ => (de_lst da_nil)) (db_cons (fun _ => (de_lst da_nil)) db_nil)) rfl) (dss_cons (ds_for te ps rfl (di_any (de_v 1)) (fun _ => (dg_name (i := 5) nd rfl (by first | exact Or.inl rfl | exact Or.inr rfl))) (fun _ te => (dss_cons (ds_set (i := 2) nd rfl (by first | exact Or.inl rfl | exact Or.inr rfl) (de_op op_sub rd_intI0 (de_op op_sub rd_intI0 (de_v 2) de_int) (de_cP c__law_draw gu hr (i := 0) rfl (da_cons (de_cP c__law_pick gu hr (i := 0) rfl (da_cons (de_lst (da_cons de_int (da_cons de_int (da_cons de_int da_nil)))) da_nil)) da_nil)))) (dss_cons (ds_if (dt_cmp (op_neAll hu) rd_ne (de_v 5) de_str rfl) (dss_one (ds_append (i := 3) rfl (by first | exact Or.inl rfl | exact Or.inr (Or.inl rfl)) (de_v 2) (hpe := fun ta h => pe_bm PySem.F.plainAttrs_list PySem.F.slot_list_append PySem.F.type_list_append mt_append (pv 3) (pa_cons h pa_nil)))) dss_nil) (dss_one (ds_if (dt_cmp (op_neAll hu) rd_ne (de_v 5) de_str rfl) (dss_one (ds_append (i := 4) rfl (by first | exact Or.inl rfl | exact Or.inr (Or.inl rfl)) (de_v 2) (hpe := fun ta h => pe_bm PySem.F.plainAttrs_list PySem.F.slot_list_append PySem.F.type_list_append mt_append (pv 4) (pa_cons h pa_nil)))) dss_nil)))))) (dss_one (ds_ret (de_tup (da_cons (de_v 3) (da_cons (de_v 4) da_nil)))))))), ?_⟩
    have c1 : CPowW 10 39 := ⟨by decide, by decide +kernel⟩
    have c2 : CPowW 10 38 := ⟨by decide, by decide +kernel⟩
    have c3 : CPowW 10 30 := ⟨by decide, by decide +kernel⟩
    simp only [startD, List.map_cons, List.map_nil, List.length_cons, List.length_nil, Nat.reduceAdd, Nat.reduceSub, List.replicate, List.cons_append, List.nil_append, dSeq, dSet, dIfS, dT, dOp, dCB, dCons, dNil, dV, dM, dC, dp, dNext, dRet, dRetN, dLst, dTup, dDrop, dNot, dAnd, dOr, dAndV, dOrV, dNotV, intG, intG0, lenG, lenD, ixG, itemD, intCG, intOf, maxG, List.getElem?_cons_zero, List.getElem?_cons_succ, List.set_cons_zero, List.set_cons_succ, Option.some.injEq, B.isU, B.d, B.rd, exists_eq_left', exists_eq_left, exists_and_left, true_and, and_true, B.p.injEq, DD.D.bl.injEq, DD.D.int.injEq, List.cons.injEq, DD.PC, decide_eq_true_eq, and_assoc, Option.map_some, dLc, iAny, walked, wipeE, gN, dCall, dCallP, dCallF, eqG, neG, Bool.not_true, Bool.not_false, if_true, if_false, Bool.false_eq_true, reduceIte, List.append_nil, dCBK, addG, dM1, gT, gsCons, gsNil, iEnumD, dAsP, iR1, dPart, dNo, dSl, freB, lstD, List.all_cons, List.all_nil, litD, Bool.and_self, dReprPair, dDctN, itemD2, ixG2, keyD, lookD, strG2, dPar, bCons, bNil, dFor, List.zip_cons_cons, List.zip_nil_right, List.foldl_cons, List.foldl_nil, dApp, B.o.injEq, DD.D.lst.injEq, DD.D.tup.injEq, exists_eq', dDct0, B.u.injEq, sizeLine_eq, Nat.reduceLeDiff, Nat.reduceLT, Nat.zero_le, true_implies, slG, List.length_map, tupleG, seqD, listG, iR2, List.length_take, List.length_drop, List.length_append, DD.D.str.injEq, mulG, dAsg]
    refine ⟨c1, c2, c3, n, _, rfl, by decide, by decide, by omega, fun e he => ?_⟩
    have hes : ∃ c : Int, e = .int c ∧ c.natAbs < 10 ^ 44 := by
      simp only [List.mem_cons, List.not_mem_nil, or_false] at he
      rcases he with rfl | rfl | rfl | rfl | rfl | rfl <;> exact ⟨_, rfl, by decide +kernel⟩
    obtain ⟨c, rfl, hc⟩ := hes
    clear he
    simp only [startD, List.map_cons, List.map_nil, List.length_cons, List.length_nil, Nat.reduceAdd, Nat.reduceSub, List.replicate, List.cons_append, List.nil_append, dSeq, dSet, dIfS, dT, dOp, dCB, dCons, dNil, dV, dM, dC, dp, dNext, dRet, dRetN, dLst, dTup, dDrop, dNot, dAnd, dOr, dAndV, dOrV, dNotV, intG, intG0, lenG, lenD, ixG, itemD, intCG, intOf, maxG, List.getElem?_cons_zero, List.getElem?_cons_succ, List.set_cons_zero, List.set_cons_succ, Option.some.injEq, B.isU, B.d, B.rd, exists_eq_left', exists_eq_left, exists_and_left, true_and, and_true, B.p.injEq, DD.D.bl.injEq, DD.D.int.injEq, List.cons.injEq, DD.PC, decide_eq_true_eq, and_assoc, Option.map_some, dLc, iAny, walked, wipeE, gN, dCall, dCallP, dCallF, eqG, neG, Bool.not_true, Bool.not_false, if_true, if_false, Bool.false_eq_true, reduceIte, List.append_nil, dCBK, addG, dM1, gT, gsCons, gsNil, iEnumD, dAsP, iR1, dPart, dNo, dSl, freB, lstD, List.all_cons, List.all_nil, litD, Bool.and_self, dReprPair, dDctN, itemD2, ixG2, keyD, lookD, strG2, dPar, bCons, bNil, dFor, List.zip_cons_cons, List.zip_nil_right, List.foldl_cons, List.foldl_nil, dApp, B.o.injEq, DD.D.lst.injEq, DD.D.tup.injEq, exists_eq', dDct0, B.u.injEq, sizeLine_eq, Nat.reduceLeDiff, Nat.reduceLT, Nat.zero_le, true_implies, slG, List.length_map, tupleG, seqD, listG, iR2, List.length_take, List.length_drop, List.length_append, DD.D.str.injEq, mulG, dAsg]
    refine forL_pre (ListsI x (n + 1)) (pre := []) (fun p d r δ e hI N hN => ?_) (fun δ hI => ?_) ⟨[], c, _, rfl, .nil, (fun _ h => by cases h), (fun _ h => by cases h), by simpa using hc, rfl⟩
    · obtain ⟨zs, c, s5, rfl, hd, hle, hb, hca, rfl⟩ := hI
      have hlen := congrArg List.length e
      rw [List.nil_append, List.length_append, List.length_cons, List.length_map] at hlen
      have hsl : (DD.signs x).length = x.length := by
        unfold DD.signs
        rw [List.length_map, Array.length_toList]
        rfl
      have hdm : ∃ k : Nat, d = .str ⟨#[k]⟩ ∧ IsC k := by
        have : d ∈ DD.signs x := by
          rw [List.nil_append] at e
          rw [e]
          simp
        obtain ⟨k, hk, rfl⟩ := List.mem_map.mp (show d ∈ x.cps.toList.map _ from this)
        exact ⟨k, rfl, hx k hk⟩
      obtain ⟨k, rfl, hk⟩ := hdm
      simp only [startD, List.map_cons, List.map_nil, List.length_cons, List.length_nil, Nat.reduceAdd, Nat.reduceSub, List.replicate, List.cons_append, List.nil_append, dSeq, dSet, dIfS, dT, dOp, dCB, dCons, dNil, dV, dM, dC, dp, dNext, dRet, dRetN, dLst, dTup, dDrop, dNot, dAnd, dOr, dAndV, dOrV, dNotV, intG, intG0, lenG, lenD, ixG, itemD, intCG, intOf, maxG, List.getElem?_cons_zero, List.getElem?_cons_succ, List.set_cons_zero, List.set_cons_succ, Option.some.injEq, B.isU, B.d, B.rd, exists_eq_left', exists_eq_left, exists_and_left, true_and, and_true, B.p.injEq, DD.D.bl.injEq, DD.D.int.injEq, List.cons.injEq, DD.PC, decide_eq_true_eq, and_assoc, Option.map_some, dLc, iAny, walked, wipeE, gN, dCall, dCallP, dCallF, eqG, neG, Bool.not_true, Bool.not_false, if_true, if_false, Bool.false_eq_true, reduceIte, List.append_nil, dCBK, addG, dM1, gT, gsCons, gsNil, iEnumD, dAsP, iR1, dPart, dNo, dSl, freB, lstD, List.all_cons, List.all_nil, litD, Bool.and_self, dReprPair, dDctN, itemD2, ixG2, keyD, lookD, strG2, dPar, bCons, bNil, dFor, List.zip_cons_cons, List.zip_nil_right, List.foldl_cons, List.foldl_nil, dApp, B.o.injEq, DD.D.lst.injEq, DD.D.tup.injEq, exists_eq', dDct0, B.u.injEq, sizeLine_eq, Nat.reduceLeDiff, Nat.reduceLT, Nat.zero_le, true_implies, slG, List.length_map, tupleG, seqD, listG, iR2, List.length_take, List.length_drop, List.length_append, DD.D.str.injEq, mulG, dAsg]
      refine ⟨n + 1 + 2 * zs.length, _, rfl, by decide, by decide, by omega, fun e he => ?_⟩
      have hes : ∃ m : Int, e = .int m ∧ 0 < m ∧ m ≤ 20000000 := by
        simp only [List.mem_cons, List.not_mem_nil, or_false] at he
        rcases he with rfl | rfl | rfl <;> exact ⟨_, rfl, by decide, by decide⟩
      obtain ⟨m, rfl, m0, m1⟩ := hes
      clear he
      have big : (20000000 : Int) < 10 ^ 2000 := by decide +kernel
      simp only [startD, List.map_cons, List.map_nil, List.length_cons, List.length_nil, Nat.reduceAdd, Nat.reduceSub, List.replicate, List.cons_append, List.nil_append, dSeq, dSet, dIfS, dT, dOp, dCB, dCons, dNil, dV, dM, dC, dp, dNext, dRet, dRetN, dLst, dTup, dDrop, dNot, dAnd, dOr, dAndV, dOrV, dNotV, intG, intG0, lenG, lenD, ixG, itemD, intCG, intOf, maxG, List.getElem?_cons_zero, List.getElem?_cons_succ, List.set_cons_zero, List.set_cons_succ, Option.some.injEq, B.isU, B.d, B.rd, exists_eq_left', exists_eq_left, exists_and_left, true_and, and_true, B.p.injEq, DD.D.bl.injEq, DD.D.int.injEq, List.cons.injEq, DD.PC, decide_eq_true_eq, and_assoc, Option.map_some, dLc, iAny, walked, wipeE, gN, dCall, dCallP, dCallF, eqG, neG, Bool.not_true, Bool.not_false, if_true, if_false, Bool.false_eq_true, reduceIte, List.append_nil, dCBK, addG, dM1, gT, gsCons, gsNil, iEnumD, dAsP, iR1, dPart, dNo, dSl, freB, lstD, List.all_cons, List.all_nil, litD, Bool.and_self, dReprPair, dDctN, itemD2, ixG2, keyD, lookD, strG2, dPar, bCons, bNil, dFor, List.zip_cons_cons, List.zip_nil_right, List.foldl_cons, List.foldl_nil, dApp, B.o.injEq, DD.D.lst.injEq, DD.D.tup.injEq, exists_eq', dDct0, B.u.injEq, sizeLine_eq, Nat.reduceLeDiff, Nat.reduceLT, Nat.zero_le, true_implies, slG, List.length_map, tupleG, seqD, listG, iR2, List.length_take, List.length_drop, List.length_append, DD.D.str.injEq, mulG, dAsg]
      refine ⟨n + 1 + 2 * zs.length + 1, m, rfl, m0, by omega, by omega, fun d d0 d1 => ?_⟩
      have hsh : Str.ofString "h" = ⟨#[104]⟩ := rfl
      have hsc : Str.ofString "c" = ⟨#[99]⟩ := rfl
      have z104 := sel_len (t := 104) (zs := zs)
      have z99 := sel_len (t := 99) (zs := zs)
      have zl := sizeLine_eq
      have l104 : (sel 104 zs).length < 16777216 := by omega
      have l99 : (sel 99 zs).length < 16777216 := by omega
      have hN : ∀ s5, N [some (.u true (n + 1 + 2 * (zs ++ [(c - 1 - d, k)]).length)), some (.p (.str x)), some (.p (.int (c - 1 - d))), some (.o (.lst ((sel 104 (zs ++ [(c - 1 - d, k)])).map D.int))), some (.o (.lst ((sel 99 (zs ++ [(c - 1 - d, k)])).map D.int))), s5] := fun s5 => by
        refine hN _ ⟨zs ++ [(c - 1 - d, k)], c - 1 - d, s5, by rw [List.map_append]; rfl, ?_, fun z hz => ?_, fun z hz => ?_, ?_, rfl⟩
        · refine List.pairwise_append.mpr ⟨hd, List.pairwise_singleton _ _, fun a ha b hb => ?_⟩
          rw [List.mem_singleton.mp hb]
          have := hle a ha
          show a.1 > c - 1 - d
          omega
        · rcases List.mem_append.mp hz with h | h
          · have := hle z h
            omega
          · rw [List.mem_singleton.mp h]
            exact Int.le_refl _
        · rcases List.mem_append.mp hz with h | h
          · exact hb z h
          · rw [List.mem_singleton.mp h]
            show (c - 1 - d).natAbs < 10 ^ 45
            omega
        · rw [List.length_append, List.length_singleton]
          omega
      have hnn : n + 1 + 2 * (zs ++ [(c - 1 - d, k)]).length = n + 1 + 2 * zs.length + 1 + 1 := by
        rw [List.length_append, List.length_singleton]
        omega
      rw [hnn, sel_add, sel_add, List.map_append, List.map_append] at hN
      rcases hk with rfl | rfl | rfl
      · simp only [startD, List.map_cons, List.map_nil, List.length_cons, List.length_nil, Nat.reduceAdd, Nat.reduceSub, List.replicate, List.cons_append, List.nil_append, dSeq, dSet, dIfS, dT, dOp, dCB, dCons, dNil, dV, dM, dC, dp, dNext, dRet, dRetN, dLst, dTup, dDrop, dNot, dAnd, dOr, dAndV, dOrV, dNotV, intG, intG0, lenG, lenD, ixG, itemD, intCG, intOf, maxG, List.getElem?_cons_zero, List.getElem?_cons_succ, List.set_cons_zero, List.set_cons_succ, Option.some.injEq, B.isU, B.d, B.rd, exists_eq_left', exists_eq_left, exists_and_left, true_and, and_true, B.p.injEq, DD.D.bl.injEq, DD.D.int.injEq, List.cons.injEq, DD.PC, decide_eq_true_eq, and_assoc, Option.map_some, dLc, iAny, walked, wipeE, gN, dCall, dCallP, dCallF, eqG, neG, Bool.not_true, Bool.not_false, if_true, if_false, Bool.false_eq_true, reduceIte, List.append_nil, dCBK, addG, dM1, gT, gsCons, gsNil, iEnumD, dAsP, iR1, dPart, dNo, dSl, freB, lstD, List.all_cons, List.all_nil, litD, Bool.and_self, dReprPair, dDctN, itemD2, ixG2, keyD, lookD, strG2, dPar, bCons, bNil, dFor, List.zip_cons_cons, List.zip_nil_right, List.foldl_cons, List.foldl_nil, dApp, B.o.injEq, DD.D.lst.injEq, DD.D.tup.injEq, exists_eq', dDct0, B.u.injEq, sizeLine_eq, Nat.reduceLeDiff, Nat.reduceLT, Nat.zero_le, true_implies, slG, List.length_map, tupleG, seqD, listG, iR2, List.length_take, List.length_drop, List.length_append, DD.D.str.injEq, mulG, dAsg, hsh, hsc, sgn_eq, Nat.reduceEqDiff, decide_true, decide_false]
        exact ⟨l104, l99, hN _⟩
      · simp only [startD, List.map_cons, List.map_nil, List.length_cons, List.length_nil, Nat.reduceAdd, Nat.reduceSub, List.replicate, List.cons_append, List.nil_append, dSeq, dSet, dIfS, dT, dOp, dCB, dCons, dNil, dV, dM, dC, dp, dNext, dRet, dRetN, dLst, dTup, dDrop, dNot, dAnd, dOr, dAndV, dOrV, dNotV, intG, intG0, lenG, lenD, ixG, itemD, intCG, intOf, maxG, List.getElem?_cons_zero, List.getElem?_cons_succ, List.set_cons_zero, List.set_cons_succ, Option.some.injEq, B.isU, B.d, B.rd, exists_eq_left', exists_eq_left, exists_and_left, true_and, and_true, B.p.injEq, DD.D.bl.injEq, DD.D.int.injEq, List.cons.injEq, DD.PC, decide_eq_true_eq, and_assoc, Option.map_some, dLc, iAny, walked, wipeE, gN, dCall, dCallP, dCallF, eqG, neG, Bool.not_true, Bool.not_false, if_true, if_false, Bool.false_eq_true, reduceIte, List.append_nil, dCBK, addG, dM1, gT, gsCons, gsNil, iEnumD, dAsP, iR1, dPart, dNo, dSl, freB, lstD, List.all_cons, List.all_nil, litD, Bool.and_self, dReprPair, dDctN, itemD2, ixG2, keyD, lookD, strG2, dPar, bCons, bNil, dFor, List.zip_cons_cons, List.zip_nil_right, List.foldl_cons, List.foldl_nil, dApp, B.o.injEq, DD.D.lst.injEq, DD.D.tup.injEq, exists_eq', dDct0, B.u.injEq, sizeLine_eq, Nat.reduceLeDiff, Nat.reduceLT, Nat.zero_le, true_implies, slG, List.length_map, tupleG, seqD, listG, iR2, List.length_take, List.length_drop, List.length_append, DD.D.str.injEq, mulG, dAsg, hsh, hsc, sgn_eq, Nat.reduceEqDiff, decide_true, decide_false]
        exact ⟨l104, by simpa using hN (some (.p (.str ⟨#[99]⟩)))⟩
      · simp only [startD, List.map_cons, List.map_nil, List.length_cons, List.length_nil, Nat.reduceAdd, Nat.reduceSub, List.replicate, List.cons_append, List.nil_append, dSeq, dSet, dIfS, dT, dOp, dCB, dCons, dNil, dV, dM, dC, dp, dNext, dRet, dRetN, dLst, dTup, dDrop, dNot, dAnd, dOr, dAndV, dOrV, dNotV, intG, intG0, lenG, lenD, ixG, itemD, intCG, intOf, maxG, List.getElem?_cons_zero, List.getElem?_cons_succ, List.set_cons_zero, List.set_cons_succ, Option.some.injEq, B.isU, B.d, B.rd, exists_eq_left', exists_eq_left, exists_and_left, true_and, and_true, B.p.injEq, DD.D.bl.injEq, DD.D.int.injEq, List.cons.injEq, DD.PC, decide_eq_true_eq, and_assoc, Option.map_some, dLc, iAny, walked, wipeE, gN, dCall, dCallP, dCallF, eqG, neG, Bool.not_true, Bool.not_false, if_true, if_false, Bool.false_eq_true, reduceIte, List.append_nil, dCBK, addG, dM1, gT, gsCons, gsNil, iEnumD, dAsP, iR1, dPart, dNo, dSl, freB, lstD, List.all_cons, List.all_nil, litD, Bool.and_self, dReprPair, dDctN, itemD2, ixG2, keyD, lookD, strG2, dPar, bCons, bNil, dFor, List.zip_cons_cons, List.zip_nil_right, List.foldl_cons, List.foldl_nil, dApp, B.o.injEq, DD.D.lst.injEq, DD.D.tup.injEq, exists_eq', dDct0, B.u.injEq, sizeLine_eq, Nat.reduceLeDiff, Nat.reduceLT, Nat.zero_le, true_implies, slG, List.length_map, tupleG, seqD, listG, iR2, List.length_take, List.length_drop, List.length_append, DD.D.str.injEq, mulG, dAsg, hsh, hsc, sgn_eq, Nat.reduceEqDiff, decide_true, decide_false]
        exact ⟨l99, by simpa using hN (some (.p (.str ⟨#[104]⟩)))⟩
    · obtain ⟨zs, c, s5, e, hd, hle, hb, hca, rfl⟩ := hI
      have e2 : zs.map (·.2) = x.cps.toList := by
        have e : x.cps.toList.map (fun c => D.str ⟨#[c]⟩) = (zs.map (·.2)).map (fun c => D.str ⟨#[c]⟩) := by
          rw [List.map_map]
          exact e
        refine ((List.map_inj_right fun a b z => ?_).mp e).symm
        have z2 := congrArg (fun d => match d with | D.str s => s.cps.toList | _ => []) z
        simpa using z2
      have e3 : zs.length = x.length := by
        rw [← List.length_map (f := fun z : Int × Nat => z.2), e2, Array.length_toList]
        rfl
      simp only [startD, List.map_cons, List.map_nil, List.length_cons, List.length_nil, Nat.reduceAdd, Nat.reduceSub, List.replicate, List.cons_append, List.nil_append, dSeq, dSet, dIfS, dT, dOp, dCB, dCons, dNil, dV, dM, dC, dp, dNext, dRet, dRetN, dLst, dTup, dDrop, dNot, dAnd, dOr, dAndV, dOrV, dNotV, intG, intG0, lenG, lenD, ixG, itemD, intCG, intOf, maxG, List.getElem?_cons_zero, List.getElem?_cons_succ, List.set_cons_zero, List.set_cons_succ, Option.some.injEq, B.isU, B.d, B.rd, exists_eq_left', exists_eq_left, exists_and_left, true_and, and_true, B.p.injEq, DD.D.bl.injEq, DD.D.int.injEq, List.cons.injEq, DD.PC, decide_eq_true_eq, and_assoc, Option.map_some, dLc, iAny, walked, wipeE, gN, dCall, dCallP, dCallF, eqG, neG, Bool.not_true, Bool.not_false, if_true, if_false, Bool.false_eq_true, reduceIte, List.append_nil, dCBK, addG, dM1, gT, gsCons, gsNil, iEnumD, dAsP, iR1, dPart, dNo, dSl, freB, lstD, List.all_cons, List.all_nil, litD, Bool.and_self, dReprPair, dDctN, itemD2, ixG2, keyD, lookD, strG2, dPar, bCons, bNil, dFor, List.zip_cons_cons, List.zip_nil_right, List.foldl_cons, List.foldl_nil, dApp, B.o.injEq, DD.D.lst.injEq, DD.D.tup.injEq, exists_eq', dDct0, B.u.injEq, sizeLine_eq, Nat.reduceLeDiff, Nat.reduceLT, Nat.zero_le, true_implies, slG, List.length_map, tupleG, seqD, listG, iR2, List.length_take, List.length_drop, List.length_append, DD.D.str.injEq, mulG, dAsg]
      rw [e3]
      exact q zs e2 hd hb
abbrev s__law_refused : Stmt := topS 17
theorem sc__law_refused : FnScope ["_law_calls", "_law_hosts", "_law_due", "_law_caught", "error"] ["_law_calls", "_law_hosts", "_law_due"] (defScope s__law_refused) := ⟨rfl, rfl, rfl, by decide +kernel, rfl, by decide +kernel, by decide +kernel⟩
def spd__law_refused  : Spd := fun bs R _ => ∃ d1 d2 d3 c, bs = [.p d1, .p d2, .p d3] ∧ ((BadL d1 ∧ d3 = d1) ∨ ∃ cs, GoodL d1 cs ∧ BadL d2 ∧ d3 = d2) ∧ toPyR d3 = some c ∧ Shw c ∧ R (.p (.bl true)) 0
theorem cal__law_refused (Da : DefAt K mg "_law_refused" s__law_refused) {a_InvalidList aM : Addr} (c_marks_of : Cal P w K mg base "marks_of" 4 ["calls", "hosts"] (spd_marks_of a_InvalidList)) (m_InvalidList : mg "InvalidList" = some (.ref a_InvalidList)) (c_InvalidMarks : ConAt K mg "InvalidMarks" (.ref aM)) (m_isinstance : mg "isinstance" = none) (m_repr : mg "repr" = none) (hsy : ∃ o, K.lookup sysModules = some o) (kx : PySem.W.exmOne K (.ref a_InvalidList) (.ref a_InvalidList) = some true) (xL : XfE K a_InvalidList) (kLM : PySem.W.kitOne K (.ref a_InvalidList) (.ref aM) = some false) : Cal P w K mg base "_law_refused" 5 ["_law_calls", "_law_hosts", "_law_due"] spd__law_refused := by
  refine cal_mk none Da sc__law_refused (fun _ _ _ _ _ _ us hl => match us, hl with | [_, _, _], _ => rfl) (fun bs R E h => ?_) (fun bs R E h => ?_) fun f cdv A outer s H E W bs R ED gu hr te h fh => ?_
  · obtain ⟨d1, d2, d3, c, rfl, hb, tc, sh, q⟩ := h
    rfl
  · obtain ⟨d1, d2, d3, c, rfl, hb, tc, sh, q⟩ := h
    exact pur_none (by simp [B.own])
  · obtain ⟨d1, d2, d3, c, rfl, hb, tc, sh, q⟩ := h
    have nd := sc__law_refused.nd
    have hu := hr.units
    refine ⟨_, (dss_cons (ds_set (i := 3) nd rfl (by first | exact Or.inl rfl | exact Or.inr rfl) de_non) (dss_cons (ds_try (i := 4) (j := 3) (c := .ref a_InvalidList) rfl rfl rfl nd rfl rfl rfl rfl ⟨rfl, by decide, .inl m_InvalidList⟩ (fun _ _ _ _ te => (dss_one (ds_expr (de_cX te c_marks_of gu hr (da_cons (de_v 0) (da_cons (de_v 1) da_nil))))))) (dss_one (ds_ret (de_and (de_cmp op_notN rd_notN (de_v 3) de_non rfl) (de_and (de_not (de_callB call_isZ rc_isZ rfl m_isinstance bt_isinstance (da_cons (de_v 3) (da_cons (de_con c_InvalidMarks) da_nil)))) (de_one (de_cmp (op_eqAll hu) rd_eq (de_callB (call_repr gu hu hsy) rc_repr rfl m_repr bt_repr (da_cons (de_xv (de_v 3)) da_nil)) (de_callB (call_repr gu hu hsy) rc_repr rfl m_repr bt_repr (da_cons (de_v 2) da_nil)) rfl)))))))), ?_⟩
    simp only [startD, List.map_cons, List.map_nil, List.length_cons, List.length_nil, Nat.reduceAdd, Nat.reduceSub, List.replicate, List.cons_append, List.nil_append, dSeq, dSet, dIfS, dT, dOp, dCB, dCons, dNil, dV, dM, dC, dp, dNext, dRet, dRetN, dLst, dTup, dDrop, dNot, dAnd, dOr, dAndV, dOrV, dNotV, intG, intG0, lenG, lenD, ixG, itemD, intCG, intOf, maxG, List.getElem?_cons_zero, List.getElem?_cons_succ, List.set_cons_zero, List.set_cons_succ, Option.some.injEq, B.isU, B.d, B.rd, exists_eq_left', exists_eq_left, exists_and_left, true_and, and_true, B.p.injEq, DD.D.bl.injEq, DD.D.int.injEq, List.cons.injEq, DD.PC, decide_eq_true_eq, and_assoc, Option.map_some, dLc, iAny, walked, wipeE, gN, dCall, dCallP, dCallF, eqG, neG, Bool.not_true, Bool.not_false, if_true, if_false, Bool.false_eq_true, reduceIte, List.append_nil, dCBK, addG, dM1, gT, gsCons, gsNil, iEnumD, dAsP, iR1, dPart, dNo, dSl, freB, lstD, List.all_cons, List.all_nil, litD, Bool.and_self, dReprPair, dDctN, itemD2, ixG2, keyD, lookD, strG2, dPar, bCons, bNil, dFor, List.zip_cons_cons, List.zip_nil_right, List.foldl_cons, List.foldl_nil, dApp, B.o.injEq, DD.D.lst.injEq, DD.D.tup.injEq, exists_eq', dDct0, B.u.injEq, sizeLine_eq, Nat.reduceLeDiff, Nat.reduceLT, Nat.zero_le, true_implies, slG, List.length_map, tupleG, seqD, listG, iR2, List.length_take, List.length_drop, List.length_append, DD.D.str.injEq, mulG, dAsg, dTry, eKeep, spd_marks_of]
    have rT : ∀ z : Str, eqD (.str z) (.str z) = some true := fun z => eqD_str.trans (by rw [decide_eq_true rfl])
    rcases hb with ⟨hb, rfl⟩ | ⟨cs, hg, hb, rfl⟩
    · refine .inl ⟨hb, kx, true, rfl, iteT ?_⟩
      refine .inr ⟨_, _, _, _, false, rfl, xL, rfl, kLM, false, rfl, iteT ?_⟩
      exact ⟨_, rfl, rfl, rfl, _, _, rfl, xL, rfl, _, c, rfl, tc, sh, rfl, _, rfl, rfl, _, c, rfl, tc, sh, rfl, true, rT _, 0, q⟩
    · refine .inr ⟨cs, hg, .inl ⟨hb, kx, true, rfl, iteT ?_⟩⟩
      refine .inr ⟨_, _, _, _, false, rfl, xL, rfl, kLM, false, rfl, iteT ?_⟩
      exact ⟨_, rfl, rfl, rfl, _, _, rfl, xL, rfl, _, c, rfl, tc, sh, rfl, _, rfl, rfl, _, c, rfl, tc, sh, rfl, true, rT _, 0, q⟩

theorem ofString_small (s : String) : ∀ c ∈ (Str.ofString s).cps.toList, c < 1114112 := fun c hc => by
  rw [PyProof.Rows.signs_ofString] at hc
  obtain ⟨ch, _, rfl⟩ := List.mem_map.mp hc
  have h := ch.valid
  have e : ch.toNat = ch.val.toNat := rfl
  rw [e]
  rcases h with h | h
  · have h : ch.val.toNat < 0xD800 := h
    omega
  · have h : ch.val.toNat < 0x110000 := h.2
    omega
theorem whole_app {a b : List D} : (a ++ b).all isWh = (a.all isWh && b.all isWh) := List.all_append
theorem dat_ok {d : D} (h : dat d = true) (s : Sh 40 d) : dat d = true ∧ Sh 40 d := ⟨h, s⟩
/-- lists that are none of choices -/
theorem bad_put {cs : List Int} {d : D} {k j : Nat} (hl : cs.length ≤ 1000) (hd : dat d = true) (hs : Sh 40 d) (hw : isWh d = false) : BadL (.lst ((cs.map D.int).take k ++ [d] ++ (cs.map D.int).drop j)) := by
  have sub : ∀ x ∈ (cs.map D.int).take k ++ [d] ++ (cs.map D.int).drop j, dat x = true ∧ Sh 40 x := fun x hx => by
    rcases List.mem_append.mp hx with h | h
    · rcases List.mem_append.mp h with h | h
      · exact ints_ok x (List.mem_of_mem_take h)
      · rw [List.mem_singleton.mp h]
        exact ⟨hd, hs⟩
    · exact ints_ok x (List.mem_of_mem_drop h)
  refine .inr ⟨_, rfl, sub, ?_, .inl ?_⟩
  · rw [List.length_append, List.length_append, List.length_take, List.length_drop, List.length_map, List.length_singleton]
    omega
  · rw [List.all_append, List.all_append]
    show ((_ && (isWh d && true)) && _) = false
    rw [hw]
    simp
theorem bad_two {cs : List Int} {v w : Int} {k j : Nat} (hl : cs.length ≤ 1000) (h : v ≤ w) : BadL (.lst ((cs.map D.int).take k ++ [.int v, .int w] ++ (cs.map D.int).drop j)) := by
  have e : (cs.map D.int).take k ++ [.int v, .int w] ++ (cs.map D.int).drop j = (cs.take k ++ v :: w :: cs.drop j).map D.int := by
    rw [List.map_append, List.map_take, List.map_cons, List.map_cons, List.map_drop, List.append_assoc]
    rfl
  rw [e]
  refine .inr ⟨_, rfl, ints_ok, ?_, .inr ⟨_, rfl, not_desc h⟩⟩
  rw [List.length_map, List.length_append, List.length_take, List.length_cons, List.length_cons, List.length_drop]
  omega
theorem rs_put {cs : List Int} {ds : List D} {k j : Nat} (hl : cs.length ≤ 1000) (hj : k ≤ j) (hb : ∀ i ∈ cs, i.natAbs < 10 ^ 45) (hn : ds.length ≤ 2) (hd : ∀ d ∈ ds, Rs 60 1 d) : Rs 61122 2 (.lst ((cs.map D.int).take k ++ ds ++ (cs.map D.int).drop j)) := by
  have ii : ∀ x ∈ cs.map D.int, Rs 60 1 x := fun x hx => by
    obtain ⟨i, hi, rfl⟩ := List.mem_map.mp hx
    exact (rs_int (Nat.lt_trans (hb i hi) (by decide +kernel))).mono (by decide) (by decide)
  refine (rs_lst (n := 60) (k := 1) (m := 1002) (fun x hx => ?_) ?_)
  · rcases List.mem_append.mp hx with h | h
    · rcases List.mem_append.mp h with h | h
      · exact ii x (List.mem_of_mem_take h)
      · exact hd x h
    · exact ii x (List.mem_of_mem_drop h)
  · rw [List.length_append, List.length_append, List.length_take, List.length_drop, List.length_map]
    omega

abbrev s__law_spoilt : Stmt := topS 18
theorem sc__law_spoilt : FnScope ["_law_purse_here", "_law_choices", "_law_at", "_law_one", "_law_some"] ["_law_purse_here", "_law_choices"] (defScope s__law_spoilt) := ⟨rfl, rfl, rfl, by decide +kernel, rfl, by decide +kernel, by decide +kernel⟩
def spd__law_spoilt  : Spd := fun bs R _ => ∃ (n : Nat) (cs : List Int), bs = [.u true n, .p (.lst (cs.map D.int))] ∧ cs.length ≤ 1000 ∧ (∀ i ∈ cs, i.natAbs < 10 ^ 45) ∧ n < 10 ^ 5 ∧ ∀ d m, BadL d → Rs 61122 2 d → m ≤ n + 2 → R (.p d) m
theorem cal__law_spoilt (Da : DefAt K mg "_law_spoilt" s__law_spoilt) (c__law_draw : Cal P w K mg base "_law_draw" 1 ["_law_purse_here", "_law_many"] spdDraw) (c__law_pick : Cal P w K mg base "_law_pick" 2 ["_law_purse_here", "_law_items"] spd__law_pick) (m_len : mg "len" = none) (m_tuple : mg "tuple" = none) (m_str : mg "str" = none) : Cal P w K mg base "_law_spoilt" 3 ["_law_purse_here", "_law_choices"] spd__law_spoilt := by
  refine cal_mk (some 0) Da sc__law_spoilt (fun _ _ _ _ _ _ us hl => match us, hl with | [_, _], _ => rfl) (fun bs R E h => ?_) (fun bs R E h => ?_) fun f cdv A outer s H E W bs R ED gu hr te h fh => ?_
  · obtain ⟨n, cs, rfl, hl, hb, hn, q⟩ := h
    rfl
  · obtain ⟨n, cs, rfl, hl, hb, hn, q⟩ := h
    exact pur_zero (by simp [B.own])
  · obtain ⟨n, cs, rfl, hl, hb, hn, q⟩ := h
    have nd := sc__law_spoilt.nd
    have hu := hr.units
    refine ⟨_, (dss_cons (ds_if (dt_cmp (op_eqAll hu) rd_eq (de_v 1) (de_lst da_nil) rfl) (dss_one (ds_ret (de_cP c__law_pick gu hr (i := 0) rfl (da_cons (de_lst (da_cons (de_lst (da_cons de_bl da_nil)) (da_cons (de_lst (da_cons de_str da_nil)) (da_cons (de_lst (da_cons de_non da_nil)) (da_cons (de_tup da_nil) (da_cons de_non (da_cons de_str (da_cons de_dct0 (da_cons de_int (da_cons (de_lst (da_cons (de_lst da_nil) da_nil)) da_nil)))))))))) da_nil)))) dss_nil) (dss_cons (ds_set (i := 2) nd rfl (by first | exact Or.inl rfl | exact Or.inr rfl) (de_cP c__law_draw gu hr (i := 0) rfl (da_cons (de_callB cr_lenAll rc_len rfl m_len bt_len (da_cons (de_v 1) da_nil)) da_nil))) (dss_cons (ds_set (i := 3) nd rfl (by first | exact Or.inl rfl | exact Or.inr rfl) (de_ix2 hu (de_v 1) (de_v 2) fun _ _ => rfl)) (dss_cons (ds_set (i := 4) nd rfl (by first | exact Or.inl rfl | exact Or.inr rfl) (de_lst (da_cons (de_op op_addAll rd_add (de_op op_addAll rd_add (de_slice (de_v 1) do_none (do_some (de_v 2))) (de_lst (da_cons (de_v 3) (da_cons (de_v 3) da_nil)))) (de_slice (de_v 1) (do_some (de_op op_addAll rd_add (de_v 2) de_int)) do_none)) (da_cons (de_op op_addAll rd_add (de_op op_addAll rd_add (de_slice (de_v 1) do_none (do_some (de_v 2))) (de_lst (da_cons (de_v 3) (da_cons (de_op op_addAll rd_add (de_v 3) de_int) da_nil)))) (de_slice (de_v 1) (do_some (de_op op_addAll rd_add (de_v 2) de_int)) do_none)) da_nil)))) (dss_cons (ds_set (i := 4) nd rfl (by first | exact Or.inl rfl | exact Or.inr rfl) (de_op op_addAll rd_add (de_v 4) (de_lst (da_cons (de_callTy call_tuple_of rc_tuple rfl m_tuple bt_tuple (da_cons (de_v 1) da_nil)) (da_cons (de_op op_addAll rd_add (de_op op_addAll rd_add (de_slice (de_v 1) do_none (do_some (de_v 2))) (de_lst (da_cons de_bl da_nil))) (de_slice (de_v 1) (do_some (de_op op_addAll rd_add (de_v 2) de_int)) do_none)) (da_cons (de_op op_addAll rd_add (de_v 1) (de_lst (da_cons (de_callTy call_str2 rc_str2 rfl m_str bt_str (da_cons (de_v 3) da_nil)) da_nil))) (da_cons de_non (da_cons de_str da_nil)))))))) (dss_cons (ds_set (i := 4) nd rfl (by first | exact Or.inl rfl | exact Or.inr rfl) (de_op op_addAll rd_add (de_v 4) (de_lst (da_cons (de_op op_addAll rd_add (de_op op_addAll rd_add (de_slice (de_v 1) do_none (do_some (de_v 2))) (de_lst (da_cons de_non da_nil))) (de_slice (de_v 1) (do_some (de_op op_addAll rd_add (de_v 2) de_int)) do_none)) (da_cons (de_op op_addAll rd_add (de_op op_addAll rd_add (de_slice (de_v 1) do_none (do_some (de_v 2))) (de_lst (da_cons (de_lst (da_cons (de_v 3) da_nil)) da_nil))) (de_slice (de_v 1) (do_some (de_op op_addAll rd_add (de_v 2) de_int)) do_none)) da_nil))))) (dss_one (ds_ret (de_cP c__law_pick gu hr (i := 0) rfl (da_cons (de_v 4) da_nil)))))))))), ?_⟩
    have hi : ∀ d ∈ cs.map D.int, Sh 40 d := fun d hd => (ints_ok d hd).2
    refine dseq ?_
    simp only [startD, List.map_cons, List.map_nil, List.length_cons, List.length_nil, Nat.reduceAdd, Nat.reduceSub, List.replicate, List.cons_append, List.nil_append, dSet, dIfS, dT, dOp, dCB, dCons, dNil, dV, dM, dC, dp, dNext, dRet, dRetN, dLst, dTup, dDrop, dNot, dAnd, dOr, dAndV, dOrV, dNotV, intG, intG0, lenG, lenD, ixG, itemD, intCG, intOf, maxG, List.getElem?_cons_zero, List.getElem?_cons_succ, List.set_cons_zero, List.set_cons_succ, Option.some.injEq, B.isU, B.d, B.rd, exists_eq_left', exists_eq_left, exists_and_left, true_and, and_true, B.p.injEq, DD.D.bl.injEq, DD.D.int.injEq, List.cons.injEq, DD.PC, decide_eq_true_eq, and_assoc, Option.map_some, dLc, iAny, walked, wipeE, gN, dCall, dCallP, dCallF, eqG, neG, Bool.not_true, Bool.not_false, if_true, if_false, Bool.false_eq_true, reduceIte, List.append_nil, dCBK, addG, dM1, gT, gsCons, gsNil, iEnumD, dAsP, iR1, dPart, dNo, dSl, freB, lstD, List.all_cons, List.all_nil, litD, Bool.and_self, dReprPair, dDctN, itemD2, ixG2, keyD, lookD, strG2, dPar, bCons, bNil, dFor, List.zip_cons_cons, List.zip_nil_right, List.foldl_cons, List.foldl_nil, dApp, B.o.injEq, DD.D.lst.injEq, DD.D.tup.injEq, exists_eq', dDct0, B.u.injEq, sizeLine_eq, Nat.reduceLeDiff, Nat.reduceLT, Nat.zero_le, true_implies, slG, List.length_map, tupleG, seqD, listG, iR2, List.length_take, List.length_drop, List.length_append, DD.D.str.injEq, mulG, dAsg, eqD_nil (by decide) hi]
    refine ite2 (fun h => ?_) (fun h => ?_)
    · refine ⟨n, _, rfl, by decide, by decide, by omega, fun e he => ?_⟩
      have fin : ∀ d, BadL d → Rs 61122 2 d → R (.p d) (n + 1) := fun d h1 h2 => q d (n + 1) h1 h2 (by omega)
      simp only [startD, List.map_cons, List.map_nil, List.length_cons, List.length_nil, Nat.reduceAdd, Nat.reduceSub, List.replicate, List.cons_append, List.nil_append, dSet, dIfS, dT, dOp, dCB, dCons, dNil, dV, dM, dC, dp, dNext, dRet, dRetN, dLst, dTup, dDrop, dNot, dAnd, dOr, dAndV, dOrV, dNotV, intG, intG0, lenG, lenD, ixG, itemD, intCG, intOf, maxG, List.getElem?_cons_zero, List.getElem?_cons_succ, List.set_cons_zero, List.set_cons_succ, Option.some.injEq, B.isU, B.d, B.rd, exists_eq_left', exists_eq_left, exists_and_left, true_and, and_true, B.p.injEq, DD.D.bl.injEq, DD.D.int.injEq, List.cons.injEq, DD.PC, decide_eq_true_eq, and_assoc, Option.map_some, dLc, iAny, walked, wipeE, gN, dCall, dCallP, dCallF, eqG, neG, Bool.not_true, Bool.not_false, if_true, if_false, Bool.false_eq_true, reduceIte, List.append_nil, dCBK, addG, dM1, gT, gsCons, gsNil, iEnumD, dAsP, iR1, dPart, dNo, dSl, freB, lstD, List.all_cons, List.all_nil, litD, Bool.and_self, dReprPair, dDctN, itemD2, ixG2, keyD, lookD, strG2, dPar, bCons, bNil, dFor, List.zip_cons_cons, List.zip_nil_right, List.foldl_cons, List.foldl_nil, dApp, B.o.injEq, DD.D.lst.injEq, DD.D.tup.injEq, exists_eq', dDct0, B.u.injEq, sizeLine_eq, Nat.reduceLeDiff, Nat.reduceLT, Nat.zero_le, true_implies, slG, List.length_map, tupleG, seqD, listG, iR2, List.length_take, List.length_drop, List.length_append, DD.D.str.injEq, mulG, dAsg]
      have b1 : ∀ {d : D}, dat d = true → Sh 40 d → isWh d = false → BadL (.lst [d]) := fun h1 h2 h3 => by
        have := bad_put (cs := []) (k := 0) (j := 0) (by decide) h1 h2 h3
        exact this
      have r1 : ∀ {d : D}, Rs 60 1 d → Rs 61122 2 (.lst [d]) := fun h => (rs_lst (n := 60) (k := 1) (m := 1) (fun x hx => by rw [List.mem_singleton.mp hx]; exact h) (Nat.le_refl _)).mono (by decide) (by decide)
      have rn : ∀ {d : D} {n k : Nat}, Rs n k d → n ≤ 60 → k ≤ 1 → Rs 61122 2 d := fun h h1 h2 => h.mono (by omega) (by omega)
      simp only [List.mem_cons, List.not_mem_nil, or_false] at he
      rcases he with rfl | rfl | rfl | rfl | rfl | rfl | rfl | rfl | rfl
      · exact fin _ (b1 rfl (sh_bl.mono (by decide)) rfl) (r1 (rs_bl.mono (by decide) (by decide)))
      · exact fin _ (b1 rfl ((sh_str (by decide)).mono (by decide)) rfl) (r1 ((rs_str (n := 1) (by decide) (by decide)).mono (by decide) (by decide)))
      · exact fin _ (b1 rfl (sh_non.mono (by decide)) rfl) (r1 (rs_non.mono (by decide) (by decide)))
      · exact fin _ (.inl ⟨rfl, rfl⟩) (rn (rs_tup (n := 0) (k := 0) (m := 0) (ds := []) (fun x hx => by cases hx) (Nat.le_refl _)) (by decide) (by decide))
      · exact fin _ (.inl ⟨rfl, rfl⟩) (rn rs_non (by decide) (by decide))
      · exact fin _ (.inl ⟨rfl, rfl⟩) (rn (rs_str (n := 0) (by decide) (by decide)) (by decide) (by decide))
      · exact fin _ (.inl ⟨rfl, rfl⟩) (rn rs_dct0 (by decide) (by decide))
      · exact fin _ (.inl ⟨rfl, rfl⟩) (rn (rs_int (by decide)) (by decide) (by decide))
      · exact fin _ (b1 rfl ((sh_lst (k := 0) (ds := []) (fun x hx => by cases hx)).mono (by decide)) rfl) (r1 ((rs_lst (n := 0) (k := 0) (m := 0) (ds := []) (fun x hx => by cases hx) (Nat.le_refl _)).mono (by decide) (by decide)))
    · have hp : 0 < cs.length := by
        cases cs with
        | nil => exact absurd rfl h
        | cons c cs => exact Nat.succ_pos _
      have big : (1000000 : Int) < 10 ^ 2000 := by decide +kernel
      refine dseq ?_
      simp only [startD, List.map_cons, List.map_nil, List.length_cons, List.length_nil, Nat.reduceAdd, Nat.reduceSub, List.replicate, List.cons_append, List.nil_append, dSet, dIfS, dT, dOp, dCB, dCons, dNil, dV, dM, dC, dp, dNext, dRet, dRetN, dLst, dTup, dDrop, dNot, dAnd, dOr, dAndV, dOrV, dNotV, intG, intG0, lenG, lenD, ixG, itemD, intCG, intOf, maxG, List.getElem?_cons_zero, List.getElem?_cons_succ, List.set_cons_zero, List.set_cons_succ, Option.some.injEq, B.isU, B.d, B.rd, exists_eq_left', exists_eq_left, exists_and_left, true_and, and_true, B.p.injEq, DD.D.bl.injEq, DD.D.int.injEq, List.cons.injEq, DD.PC, decide_eq_true_eq, and_assoc, Option.map_some, dLc, iAny, walked, wipeE, gN, dCall, dCallP, dCallF, eqG, neG, Bool.not_true, Bool.not_false, if_true, if_false, Bool.false_eq_true, reduceIte, List.append_nil, dCBK, addG, dM1, gT, gsCons, gsNil, iEnumD, dAsP, iR1, dPart, dNo, dSl, freB, lstD, List.all_cons, List.all_nil, litD, Bool.and_self, dReprPair, dDctN, itemD2, ixG2, keyD, lookD, strG2, dPar, bCons, bNil, dFor, List.zip_cons_cons, List.zip_nil_right, List.foldl_cons, List.foldl_nil, dApp, B.o.injEq, DD.D.lst.injEq, DD.D.tup.injEq, exists_eq', dDct0, B.u.injEq, sizeLine_eq, Nat.reduceLeDiff, Nat.reduceLT, Nat.zero_le, true_implies, slG, List.length_map, tupleG, seqD, listG, iR2, List.length_take, List.length_drop, List.length_append, DD.D.str.injEq, mulG, dAsg]
      refine ⟨n, _, rfl, by omega, by omega, by omega, fun d d0 d1 => ?_⟩
      obtain ⟨k, rfl⟩ := Int.eq_ofNat_of_zero_le d0
      have hk : k < cs.length := by omega
      have hkl : k ≤ (cs.map D.int).length := by
        rw [List.length_map]
        omega
      have hkl1 : k + 1 ≤ (cs.map D.int).length := by
        rw [List.length_map]
        omega
      have hat : atI (cs.map D.int) (k : Int) = some (.int cs[k]) := atI_nat (by rw [List.getElem?_map, List.getElem?_eq_getElem hk]; rfl)
      have ek : ((k : Nat) : Int) + 1 = ((k + 1 : Nat) : Int) := rfl
      have hv : cs[k].natAbs < 10 ^ 45 := hb _ (List.getElem_mem hk)
      refine ⟨rfl, dseq ?_⟩
      simp only [startD, List.map_cons, List.map_nil, List.length_cons, List.length_nil, Nat.reduceAdd, Nat.reduceSub, List.replicate, List.cons_append, List.nil_append, dSet, dIfS, dT, dOp, dCB, dCons, dNil, dV, dM, dC, dp, dNext, dRet, dRetN, dLst, dTup, dDrop, dNot, dAnd, dOr, dAndV, dOrV, dNotV, intG, intG0, lenG, lenD, ixG, itemD, intCG, intOf, maxG, List.getElem?_cons_zero, List.getElem?_cons_succ, List.set_cons_zero, List.set_cons_succ, Option.some.injEq, B.isU, B.d, B.rd, exists_eq_left', exists_eq_left, exists_and_left, true_and, and_true, B.p.injEq, DD.D.bl.injEq, DD.D.int.injEq, List.cons.injEq, DD.PC, decide_eq_true_eq, and_assoc, Option.map_some, dLc, iAny, walked, wipeE, gN, dCall, dCallP, dCallF, eqG, neG, Bool.not_true, Bool.not_false, if_true, if_false, Bool.false_eq_true, reduceIte, List.append_nil, dCBK, addG, dM1, gT, gsCons, gsNil, iEnumD, dAsP, iR1, dPart, dNo, dSl, freB, lstD, List.all_cons, List.all_nil, litD, Bool.and_self, dReprPair, dDctN, itemD2, ixG2, keyD, lookD, strG2, dPar, bCons, bNil, dFor, List.zip_cons_cons, List.zip_nil_right, List.foldl_cons, List.foldl_nil, dApp, B.o.injEq, DD.D.lst.injEq, DD.D.tup.injEq, exists_eq', dDct0, B.u.injEq, sizeLine_eq, Nat.reduceLeDiff, Nat.reduceLT, Nat.zero_le, true_implies, slG, List.length_map, tupleG, seqD, listG, iR2, List.length_take, List.length_drop, List.length_append, DD.D.str.injEq, mulG, dAsg, hat]
      refine dseq ?_
      simp only [startD, List.map_cons, List.map_nil, List.length_cons, List.length_nil, Nat.reduceAdd, Nat.reduceSub, List.replicate, List.cons_append, List.nil_append, dSet, dIfS, dT, dOp, dCB, dCons, dNil, dV, dM, dC, dp, dNext, dRet, dRetN, dLst, dTup, dDrop, dNot, dAnd, dOr, dAndV, dOrV, dNotV, intG, intG0, lenG, lenD, ixG, itemD, intCG, intOf, maxG, List.getElem?_cons_zero, List.getElem?_cons_succ, List.set_cons_zero, List.set_cons_succ, Option.some.injEq, B.isU, B.d, B.rd, exists_eq_left', exists_eq_left, exists_and_left, true_and, and_true, B.p.injEq, DD.D.bl.injEq, DD.D.int.injEq, List.cons.injEq, DD.PC, decide_eq_true_eq, and_assoc, Option.map_some, dLc, iAny, walked, wipeE, gN, dCall, dCallP, dCallF, eqG, neG, Bool.not_true, Bool.not_false, if_true, if_false, Bool.false_eq_true, reduceIte, List.append_nil, dCBK, addG, dM1, gT, gsCons, gsNil, iEnumD, dAsP, iR1, dPart, dNo, dSl, freB, lstD, List.all_cons, List.all_nil, litD, Bool.and_self, dReprPair, dDctN, itemD2, ixG2, keyD, lookD, strG2, dPar, bCons, bNil, dFor, List.zip_cons_cons, List.zip_nil_right, List.foldl_cons, List.foldl_nil, dApp, B.o.injEq, DD.D.lst.injEq, DD.D.tup.injEq, exists_eq', dDct0, B.u.injEq, sizeLine_eq, Nat.reduceLeDiff, Nat.reduceLT, Nat.zero_le, true_implies, slG, List.length_map, tupleG, seqD, listG, iR2, List.length_take, List.length_drop, List.length_append, DD.D.str.injEq, mulG, dAsg, ek, cutD_take hkl, cutD_drop hkl1]
      refine ⟨by omega, by omega, by omega, by omega, dseq ?_⟩
      simp only [startD, List.map_cons, List.map_nil, List.length_cons, List.length_nil, Nat.reduceAdd, Nat.reduceSub, List.replicate, List.cons_append, List.nil_append, dSet, dIfS, dT, dOp, dCB, dCons, dNil, dV, dM, dC, dp, dNext, dRet, dRetN, dLst, dTup, dDrop, dNot, dAnd, dOr, dAndV, dOrV, dNotV, intG, intG0, lenG, lenD, ixG, itemD, intCG, intOf, maxG, List.getElem?_cons_zero, List.getElem?_cons_succ, List.set_cons_zero, List.set_cons_succ, Option.some.injEq, B.isU, B.d, B.rd, exists_eq_left', exists_eq_left, exists_and_left, true_and, and_true, B.p.injEq, DD.D.bl.injEq, DD.D.int.injEq, List.cons.injEq, DD.PC, decide_eq_true_eq, and_assoc, Option.map_some, dLc, iAny, walked, wipeE, gN, dCall, dCallP, dCallF, eqG, neG, Bool.not_true, Bool.not_false, if_true, if_false, Bool.false_eq_true, reduceIte, List.append_nil, dCBK, addG, dM1, gT, gsCons, gsNil, iEnumD, dAsP, iR1, dPart, dNo, dSl, freB, lstD, List.all_cons, List.all_nil, litD, Bool.and_self, dReprPair, dDctN, itemD2, ixG2, keyD, lookD, strG2, dPar, bCons, bNil, dFor, List.zip_cons_cons, List.zip_nil_right, List.foldl_cons, List.foldl_nil, dApp, B.o.injEq, DD.D.lst.injEq, DD.D.tup.injEq, exists_eq', dDct0, B.u.injEq, sizeLine_eq, Nat.reduceLeDiff, Nat.reduceLT, Nat.zero_le, true_implies, slG, List.length_map, tupleG, seqD, listG, iR2, List.length_take, List.length_drop, List.length_append, DD.D.str.injEq, mulG, dAsg, ek, cutD_take hkl, cutD_drop hkl1]
      have lg : cs[k].natAbs.log2 < 1920 := by
        by_cases h0 : cs[k].natAbs = 0
        · rw [h0]
          decide
        · exact (Nat.log2_lt h0).mpr (Nat.lt_of_lt_of_le hv (by decide +kernel))
      refine ⟨by omega, by omega, lg, by omega, dseq ?_⟩
      simp only [startD, List.map_cons, List.map_nil, List.length_cons, List.length_nil, Nat.reduceAdd, Nat.reduceSub, List.replicate, List.cons_append, List.nil_append, dSet, dIfS, dT, dOp, dCB, dCons, dNil, dV, dM, dC, dp, dNext, dRet, dRetN, dLst, dTup, dDrop, dNot, dAnd, dOr, dAndV, dOrV, dNotV, intG, intG0, lenG, lenD, ixG, itemD, intCG, intOf, maxG, List.getElem?_cons_zero, List.getElem?_cons_succ, List.set_cons_zero, List.set_cons_succ, Option.some.injEq, B.isU, B.d, B.rd, exists_eq_left', exists_eq_left, exists_and_left, true_and, and_true, B.p.injEq, DD.D.bl.injEq, DD.D.int.injEq, List.cons.injEq, DD.PC, decide_eq_true_eq, and_assoc, Option.map_some, dLc, iAny, walked, wipeE, gN, dCall, dCallP, dCallF, eqG, neG, Bool.not_true, Bool.not_false, if_true, if_false, Bool.false_eq_true, reduceIte, List.append_nil, dCBK, addG, dM1, gT, gsCons, gsNil, iEnumD, dAsP, iR1, dPart, dNo, dSl, freB, lstD, List.all_cons, List.all_nil, litD, Bool.and_self, dReprPair, dDctN, itemD2, ixG2, keyD, lookD, strG2, dPar, bCons, bNil, dFor, List.zip_cons_cons, List.zip_nil_right, List.foldl_cons, List.foldl_nil, dApp, B.o.injEq, DD.D.lst.injEq, DD.D.tup.injEq, exists_eq', dDct0, B.u.injEq, sizeLine_eq, Nat.reduceLeDiff, Nat.reduceLT, Nat.zero_le, true_implies, slG, List.length_map, tupleG, seqD, listG, iR2, List.length_take, List.length_drop, List.length_append, DD.D.str.injEq, mulG, dAsg, ek, cutD_take hkl, cutD_drop hkl1]
      refine ⟨by omega, by omega, by omega, by omega, n + 1, _, rfl, by simp, by simp, by omega, fun e he => ?_⟩
      have fin : ∀ d, BadL d → Rs 61122 2 d → R (.p d) (n + 2) := fun d h1 h2 => q d (n + 2) h1 h2 (by omega)
      simp only [startD, List.map_cons, List.map_nil, List.length_cons, List.length_nil, Nat.reduceAdd, Nat.reduceSub, List.replicate, List.cons_append, List.nil_append, dSet, dIfS, dT, dOp, dCB, dCons, dNil, dV, dM, dC, dp, dNext, dRet, dRetN, dLst, dTup, dDrop, dNot, dAnd, dOr, dAndV, dOrV, dNotV, intG, intG0, lenG, lenD, ixG, itemD, intCG, intOf, maxG, List.getElem?_cons_zero, List.getElem?_cons_succ, List.set_cons_zero, List.set_cons_succ, Option.some.injEq, B.isU, B.d, B.rd, exists_eq_left', exists_eq_left, exists_and_left, true_and, and_true, B.p.injEq, DD.D.bl.injEq, DD.D.int.injEq, List.cons.injEq, DD.PC, decide_eq_true_eq, and_assoc, Option.map_some, dLc, iAny, walked, wipeE, gN, dCall, dCallP, dCallF, eqG, neG, Bool.not_true, Bool.not_false, if_true, if_false, Bool.false_eq_true, reduceIte, List.append_nil, dCBK, addG, dM1, gT, gsCons, gsNil, iEnumD, dAsP, iR1, dPart, dNo, dSl, freB, lstD, List.all_cons, List.all_nil, litD, Bool.and_self, dReprPair, dDctN, itemD2, ixG2, keyD, lookD, strG2, dPar, bCons, bNil, dFor, List.zip_cons_cons, List.zip_nil_right, List.foldl_cons, List.foldl_nil, dApp, B.o.injEq, DD.D.lst.injEq, DD.D.tup.injEq, exists_eq', dDct0, B.u.injEq, sizeLine_eq, Nat.reduceLeDiff, Nat.reduceLT, Nat.zero_le, true_implies, slG, List.length_map, tupleG, seqD, listG, iR2, List.length_take, List.length_drop, List.length_append, DD.D.str.injEq, mulG, dAsg]
      have rv : ∀ {j : Int}, j.natAbs < 10 ^ 46 → Rs 60 1 (.int j) := fun h => (rs_int (Nat.lt_trans h (by decide +kernel))).mono (by decide) (by decide)
      have v1 : Rs 60 1 (.int cs[k]) := rv (Nat.lt_trans hv (by decide +kernel))
      have v2 : Rs 60 1 (.int (cs[k] + 1)) := rv (by omega)
      have svs : ∀ c ∈ (Str.ofString (toString cs[k])).cps.toList, c < 1114112 := ofString_small _
      have svl : (Str.ofString (toString cs[k])).length ≤ 60 := by
        have := int_text_length_le10 (k := 45) (by decide) hv
        rw [PySem.ofString_length]
        omega
      simp only [List.mem_cons, List.not_mem_nil, or_false] at he
      rcases he with rfl | rfl | rfl | rfl | rfl | rfl | rfl | rfl | rfl
      · exact fin _ (bad_two hl (Int.le_refl _)) (rs_put hl (by omega) hb (by simp) fun d hd => by
          simp only [List.mem_cons, List.not_mem_nil, or_false, or_self] at hd
          rw [hd]
          exact v1)
      · exact fin _ (bad_two hl (by omega)) (rs_put hl (by omega) hb (by simp) fun d hd => by
          simp only [List.mem_cons, List.not_mem_nil, or_false] at hd
          rcases hd with rfl | rfl
          · exact v1
          · exact v2)
      · refine fin _ (.inl ⟨rfl, rfl⟩) ((rs_tup (n := 60) (k := 1) (m := 1000) (fun d hd => ?_) (by rw [List.length_map]; exact hl)).mono (by decide) (by decide))
        obtain ⟨i, hi, rfl⟩ := List.mem_map.mp hd
        exact rv (Nat.lt_trans (hb i hi) (by decide +kernel))
      · exact fin _ (bad_put hl rfl (sh_bl.mono (by decide)) rfl) (rs_put hl (by omega) hb (by simp) fun d hd => by
          rw [List.mem_singleton.mp hd]
          exact rs_bl.mono (by decide) (by decide))
      · have e : cs.map D.int ++ [D.str (Str.ofString (toString cs[k]))] = (cs.map D.int).take (cs.map D.int).length ++ [D.str (Str.ofString (toString cs[k]))] ++ (cs.map D.int).drop (cs.map D.int).length := by rw [List.take_length, List.drop_length, List.append_nil]
        rw [e]
        exact fin _ (bad_put hl rfl ((sh_str svs).mono (by decide)) rfl) (rs_put hl (Nat.le_refl _) hb (by simp) fun d hd => by
          rw [List.mem_singleton.mp hd]
          exact (rs_str svs svl).mono (by decide) (by decide))
      · exact fin _ (.inl ⟨rfl, rfl⟩) (rs_non.mono (by decide) (by decide))
      · exact fin _ (.inl ⟨rfl, rfl⟩) ((rs_str (n := 1) (by decide) (by decide)).mono (by decide) (by decide))
      · exact fin _ (bad_put hl rfl (sh_non.mono (by decide)) rfl) (rs_put hl (by omega) hb (by simp) fun d hd => by
          rw [List.mem_singleton.mp hd]
          exact rs_non.mono (by decide) (by decide))
      · exact fin _ (bad_put hl rfl ((sh_lst (k := 0) (fun x hx => by rw [List.mem_singleton.mp hx]; exact sh_int)).mono (by decide)) rfl) (rs_put hl (by omega) hb (by simp) fun d hd => by
          rw [List.mem_singleton.mp hd]
          exact (rs_lst (n := 0) (k := 0) (m := 1) (fun x hx => by rw [List.mem_singleton.mp hx]; exact rs_int (Nat.lt_trans hv (by decide +kernel))) (Nat.le_refl _)).mono (by decide) (by decide))
end
end K

set_option Elab.async false
set_option linter.all false
set_option maxRecDepth 100000
set_option maxHeartbeats 8000000
namespace K
open PySem PySem.Spec PyProof.Rows L2 DD
section
variable {P : Program} {w : World} {K : PySem.W.Frag} {mg : Str → Option Value} {base : Heap}

theorem mul_b {k : Nat} (hk : k < 1000) {x : Str} {t : Nat} (hx : x = ⟨#[t]⟩) : Txt.mul x (k : Int) = ⟨(List.replicate k t).toArray⟩ ∧ MulOk x (k : Int) := by
  subst hx
  have key : ∀ (n : Nat) (a : List Nat), (List.replicate n (#[t] : Array Nat)).foldl (· ++ ·) a.toArray = (a ++ List.replicate n t).toArray := by
    intro n
    induction n with
    | zero => intro a; simp
    | succ n ih =>
      intro a
      rw [List.replicate_succ, List.foldl_cons]
      have e : a.toArray ++ #[t] = (a ++ [t]).toArray := by simp
      rw [e, ih, List.append_assoc]
      congr 1
  constructor
  · unfold Txt.mul
    split
    · rename_i h
      have e : k = 0 := by omega
      rw [e]
      rfl
    · split
      · rename_i h1 h
        have e : k = 1 := by
          rcases Bool.or_eq_true_iff.mp h with z | z
          · have := beq_iff_eq.mp z
            omega
          · exact absurd z (by show ¬ ((1 : Nat) == 0) = true; decide)
        rw [e]
        rfl
      · show (⟨(List.replicate ((k : Int)).toNat (#[t] : Array Nat)).foldl (· ++ ·) #[]⟩ : Str) = _
        rw [Int.toNat_natCast]
        have := key k []
        simpa using this
  · refine ⟨?_, fun hn _ => ?_, fun hn _ => ?_⟩
    · rw [decide_eq_false (by omega), decide_eq_false (by omega)]
      rfl
    · have e : (⟨#[t]⟩ : Str).length = 1 := rfl
      rw [e]
      have : (1 : Int) ≤ (2 ^ 63 - 1) / (k : Int) := by
        rw [Int.le_ediv_iff_mul_le (by omega)]
        omega
      omega
    · have e : (⟨#[t]⟩ : Str).length = 1 := rfl
      rw [e, Nat.one_mul]
      unfold Builtin.Str.tooLong
      simp
      have e := sizeLine_eq
      omega
def turnD : D → D
  | .str s => .str ⟨(s.cps.toList.map turn).toArray⟩
  | d => d
theorem sum_one : ∀ l : List Nat, ((l.map fun c => (⟨#[c]⟩ : Str)).map (·.length)).sum = l.length
  | [] => rfl
  | c :: l => by
    rw [List.map_cons, List.map_cons, List.sum_cons, sum_one l, List.length_cons]
    show 1 + _ = _
    omega
def IsMkS (y : Str) : Prop := y = "c" ∨ y = "h" ∨ y = "b"
theorem mk_rep {k t : Nat} (ht : IsC t) : MkT ⟨(List.replicate k t).toArray⟩ := fun c hc => by
  have : c ∈ List.replicate k t := by simpa using hc
  rw [(List.mem_replicate.mp this).2]
  exact ht

abbrev s_law : Stmt := topS 19
theorem sc_law : FnScope ["_law_script", "_law_turn", "_law_purse_here", "_law_marks", "_law_k", "_law_calls", "_law_hosts", "_law_one", "_law_other", "_law_turned", "_law_mark", "_law_bad", "_law_worse"] ["_law_script"] (defScope s_law) := ⟨rfl, rfl, rfl, by decide +kernel, rfl, by decide +kernel, by decide +kernel⟩
def spd_law  : Spd := fun bs R _ => ∃ ns : List Int, bs = [.p (.scr ns)] ∧ R (.p (.bl true)) 0
theorem cal_law (Da : DefAt K mg "law" s_law) {aL : Addr} (c__law_purse : Cal P w K mg base "_law_purse" 1 ["_law_script", "_law_at"] spdPurse) (c__law_draw : Cal P w K mg base "_law_draw" 1 ["_law_purse_here", "_law_many"] spdDraw) (c__law_pick : Cal P w K mg base "_law_pick" 2 ["_law_purse_here", "_law_items"] spd__law_pick) (c__law_lists : Cal P w K mg base "_law_lists" 3 ["_law_purse_here", "_law_marks"] spd__law_lists) (c__law_spoilt : Cal P w K mg base "_law_spoilt" 3 ["_law_purse_here", "_law_choices"] spd__law_spoilt) (c__law_refused : Cal P w K mg base "_law_refused" 5 ["_law_calls", "_law_hosts", "_law_due"] spd__law_refused) (c_marks_of : Cal P w K mg base "marks_of" 4 ["calls", "hosts"] (spd_marks_of aL)) (m_len : mg "len" = none) (m_range : mg "range" = none) (m_list : mg "list" = none) : Cal P w K mg base "law" 6 ["_law_script"] spd_law := by
  refine cal_mk none Da sc_law (fun _ _ _ _ _ _ us hl => match us, hl with | [_], _ => rfl) (fun bs R E h => ?_) (fun bs R E h => ?_) fun f cdv A outer s H E W bs R ED gu hr te h fh => ?_
  · obtain ⟨ns, rfl, q⟩ := h
    rfl
  · obtain ⟨ns, rfl, q⟩ := h
    exact pur_none (by simp [B.own])
  · obtain ⟨ns, rfl, q⟩ := h
    have nd := sc_law.nd
    have hu := hr.units
    have ps := passes_of (X := cxOf (L2.CX P w) P w K mg base ["_law_script", "_law_turn", "_law_purse_here", "_law_marks", "_law_k", "_law_calls", "_law_hosts", "_law_one", "_law_other", "_law_turned", "_law_mark", "_law_bad", "_law_worse"] "law" (defScope s_law) f cdv A outer s H E) rfl
    refine ⟨_, (dss_cons (ds_forR ps rfl (di_range1 rfl m_range (da_cons de_int da_nil)) (dg_name (i := 1) nd rfl (by first | exact Or.inl rfl | exact Or.inr rfl)) (dss_cons (ds_set (i := 2) nd rfl (by first | exact Or.inl rfl | exact Or.inr rfl) (de_asPurse (de_c c__law_purse gu hr (da_cons (de_v 0) (da_cons (de_v 1) da_nil))))) (dss_cons (ds_set (i := 3) nd rfl (by first | exact Or.inl rfl | exact Or.inr rfl) (de_join de_str (de_lc rfl nd (DI0.di (di_range1 rfl m_range (da_cons (de_cP c__law_draw gu hr (i := 2) rfl (da_cons de_int da_nil)) da_nil))) (own := [("_law_k", 4)]) (blkOk_by (by kernel_rfl)) (fun _ _ _ _ _ _ => (dgc_name (i := 4) (by decide) nd rfl (by first | exact Or.inl rfl | exact Or.inr rfl))) (fun _ _ _ _ _ _ => dts_nil) (fun _ _ _ _ _ _ => (de_cP c__law_pick gu hr (i := 2) rfl (da_cons (de_lst (da_cons de_str (da_cons de_str (da_cons de_str da_nil)))) da_nil)))))) (dss_cons (ds_set (i := 3) nd rfl (by first | exact Or.inl rfl | exact Or.inr rfl) (de_cP c__law_pick gu hr (i := 2) rfl (da_cons (de_lst (da_cons (de_v 3) (da_cons (de_v 3) (da_cons (de_slice (de_v 3) do_none (do_some de_int)) (da_cons (de_op op_mulAll rd_mul de_str (de_callB cr_lenAll rc_len rfl m_len bt_len (da_cons (de_v 3) da_nil))) (da_cons (de_op op_mulAll rd_mul de_str (de_callB cr_lenAll rc_len rfl m_len bt_len (da_cons (de_v 3) da_nil))) (da_cons (de_op op_mulAll rd_mul de_str (de_callB cr_lenAll rc_len rfl m_len bt_len (da_cons (de_v 3) da_nil))) da_nil))))))) da_nil))) (dss_cons (ds_asg (de_cP c__law_lists gu hr (i := 2) rfl (da_cons (de_v 3) da_nil)) (dg_tup (n := 2) rfl (dgs_cons (dg_name (i := 5) nd rfl (by first | exact Or.inl rfl | exact Or.inr rfl)) (dgs_cons (dg_name (i := 6) nd rfl (by first | exact Or.inl rfl | exact Or.inr rfl)) dgs_nil)))) (dss_cons (ds_par (i := 7) (j := 8) rfl nd rfl rfl (by decide) rfl rfl (db_cons (fun _ => (de_callTy call_list_of rc_list rfl m_list bt_list (da_cons (de_v 5) da_nil))) (db_cons (fun _ => (de_callTy call_list_of rc_list rfl m_list bt_list (da_cons (de_v 6) da_nil))) db_nil)) rfl) (dss_cons (ds_if (DW.dt (dw_or (dt_cmp (op_neAll hu) rd_ne (de_c c_marks_of gu hr (da_cons (de_v 7) (da_cons (de_v 8) da_nil))) (de_v 3) rfl) (dw_or (dt_cmp (op_neAll hu) rd_ne (de_v 7) (de_v 5) rfl) (dw_or1 (dt_cmp (op_neAll hu) rd_ne (de_v 8) (de_v 6) rfl))))) (dss_one (ds_ret de_bl)) dss_nil) (dss_cons (ds_set (i := 9) nd rfl (by first | exact Or.inl rfl | exact Or.inr rfl) (de_join de_str (de_lc rfl nd (di_any (de_v 3)) (own := [("_law_mark", 10)]) (blkOk_by (by kernel_rfl)) (fun _ _ _ _ _ _ => (dgc_name (i := 10) (by decide) nd rfl (by first | exact Or.inl rfl | exact Or.inr rfl))) (fun _ _ _ _ _ _ => dts_nil) (fun _ _ _ _ _ _ => (de_ix2 hu (de_dctN (dv_cons rfl (fun _ => de_str) (dv_cons rfl (fun _ => de_str) (dv_cons rfl (fun _ => de_str) dv_nil))) (by decide) rfl rfl (by simp) (by simp) (by simp)) (de_v 10) fun _ _ => rfl))))) (dss_cons (ds_if (DW.dt (dw_or (dt_cmp (op_neAll hu) rd_ne (de_c c_marks_of gu hr (da_cons (de_v 8) (da_cons (de_v 7) da_nil))) (de_v 9) rfl) (dw_or1 (dt_cmp (op_neAll hu) rd_ne (de_c c_marks_of gu hr (da_cons (de_v 7) (da_cons (de_callTy call_list_of rc_list rfl m_list bt_list (da_cons (de_v 5) da_nil)) da_nil))) (de_op op_mulAll rd_mul de_str (de_callB cr_lenAll rc_len rfl m_len bt_len (da_cons (de_v 5) da_nil))) rfl)))) (dss_one (ds_ret de_bl)) dss_nil) (dss_cons (ds_par (i := 11) (j := 12) rfl nd rfl rfl (by decide) rfl rfl (db_cons (fun _ => (de_cP c__law_spoilt gu hr (i := 2) rfl (da_cons (de_v 5) da_nil))) (db_cons (fun _ => (de_cP c__law_spoilt gu hr (i := 2) rfl (da_cons (de_v 6) da_nil))) db_nil)) rfl) (dss_cons (ds_if (DW.dt (dw_or (dt_not (dt_val (he := fun _ => rfl) (de_c c__law_refused gu hr (da_cons (de_v 11) (da_cons (de_v 8) (da_cons (de_v 11) da_nil)))))) (dw_or1 (dt_not (dt_val (he := fun _ => rfl) (de_c c__law_refused gu hr (da_cons (de_v 7) (da_cons (de_v 12) (da_cons (de_v 12) da_nil))))))))) (dss_one (ds_ret de_bl)) dss_nil) (dss_one (ds_if (dt_not (dt_val (he := fun _ => rfl) (de_c c__law_refused gu hr (da_cons (de_v 11) (da_cons (de_v 12) (da_cons (de_v 11) da_nil)))))) (dss_one (ds_ret de_bl)) dss_nil))))))))))))) (dss_one (ds_ret de_bl))), ?_⟩
    refine dseq ?_
    simp only [startD, List.map_cons, List.map_nil, List.length_cons, List.length_nil, Nat.reduceAdd, Nat.reduceSub, List.replicate, List.cons_append, List.nil_append, dSet, dIfS, dT, dOp, dCB, dCons, dNil, dV, dM, dC, dp, dNext, dRet, dRetN, dLst, dTup, dDrop, dNot, dAnd, dOr, dAndV, dOrV, dNotV, intG, intG0, lenG, lenD, ixG, itemD, intCG, intOf, maxG, List.getElem?_cons_zero, List.getElem?_cons_succ, List.set_cons_zero, List.set_cons_succ, Option.some.injEq, B.isU, B.d, B.rd, exists_eq_left', exists_eq_left, exists_and_left, true_and, and_true, B.p.injEq, DD.D.bl.injEq, DD.D.int.injEq, List.cons.injEq, DD.PC, decide_eq_true_eq, and_assoc, Option.map_some, dLc, iAny, walked, wipeE, gN, dCall, dCallP, dCallF, eqG, neG, Bool.not_true, Bool.not_false, if_true, if_false, Bool.false_eq_true, reduceIte, List.append_nil, dCBK, addG, dM1, gT, gsCons, gsNil, iEnumD, dAsP, iR1, dPart, dNo, dSl, freB, lstD, List.all_cons, List.all_nil, litD, Bool.and_self, dReprPair, dDctN, itemD2, ixG2, keyD, lookD, strG2, dPar, bCons, bNil, dFor, List.zip_cons_cons, List.zip_nil_right, List.foldl_cons, List.foldl_nil, dApp, B.o.injEq, DD.D.lst.injEq, DD.D.tup.injEq, exists_eq', dDct0, B.u.injEq, sizeLine_eq, Nat.reduceLeDiff, Nat.reduceLT, Nat.zero_le, true_implies, slG, List.length_map, tupleG, seqD, listG, iR2, List.length_take, List.length_drop, List.length_append, DD.D.str.injEq, mulG, dAsg]
    refine ⟨by decide, by decide, ?_⟩
    refine forL_inv (fun δ => ∃ x1 x2 x3 x4 x5 x6 x7 x8 x9 x10 x11 x12, δ = [some (.p (.scr ns)), x1, x2, x3, x4, x5, x6, x7, x8, x9, x10, x11, x12]) (fun d hd δ hI N hN => ?_) ?_ ⟨_, _, _, _, _, _, _, _, _, _, _, _, rfl⟩
    rotate_left
    · exact fun δ hI => by
        obtain ⟨x1, x2, x3, x4, x5, x6, x7, x8, x9, x10, x11, x12, rfl⟩ := hI
        exact ⟨rfl, 0, q⟩
    obtain ⟨x1, x2, x3, x4, x5, x6, x7, x8, x9, x10, x11, x12, rfl⟩ := hI
    obtain ⟨j, hj, rfl⟩ := List.mem_map.mp (show d ∈ (List.range _).map _ from hd)
    have hj := List.mem_range.mp hj
    refine dseq ?_
    simp only [startD, List.map_cons, List.map_nil, List.length_cons, List.length_nil, Nat.reduceAdd, Nat.reduceSub, List.replicate, List.cons_append, List.nil_append, dSet, dIfS, dT, dOp, dCB, dCons, dNil, dV, dM, dC, dp, dNext, dRet, dRetN, dLst, dTup, dDrop, dNot, dAnd, dOr, dAndV, dOrV, dNotV, intG, intG0, lenG, lenD, ixG, itemD, intCG, intOf, maxG, List.getElem?_cons_zero, List.getElem?_cons_succ, List.set_cons_zero, List.set_cons_succ, Option.some.injEq, B.isU, B.d, B.rd, exists_eq_left', exists_eq_left, exists_and_left, true_and, and_true, B.p.injEq, DD.D.bl.injEq, DD.D.int.injEq, List.cons.injEq, DD.PC, decide_eq_true_eq, and_assoc, Option.map_some, dLc, iAny, walked, wipeE, gN, dCall, dCallP, dCallF, eqG, neG, Bool.not_true, Bool.not_false, if_true, if_false, Bool.false_eq_true, reduceIte, List.append_nil, dCBK, addG, dM1, gT, gsCons, gsNil, iEnumD, dAsP, iR1, dPart, dNo, dSl, freB, lstD, List.all_cons, List.all_nil, litD, Bool.and_self, dReprPair, dDctN, itemD2, ixG2, keyD, lookD, strG2, dPar, bCons, bNil, dFor, List.zip_cons_cons, List.zip_nil_right, List.foldl_cons, List.foldl_nil, dApp, B.o.injEq, DD.D.lst.injEq, DD.D.tup.injEq, exists_eq', dDct0, B.u.injEq, sizeLine_eq, Nat.reduceLeDiff, Nat.reduceLT, Nat.zero_le, true_implies, slG, List.length_map, tupleG, seqD, listG, iR2, List.length_take, List.length_drop, List.length_append, DD.D.str.injEq, mulG, dAsg, Int.zero_add]
    refine ⟨ns, j, rfl, fun x y a1 a2 a3 a4 => ⟨rfl, x, y, 0, rfl, 0, ⟨a1, a2, a3, a4, by decide, by decide⟩, dseq ?_⟩⟩
    have big : (1000000 : Int) < 10 ^ 2000 := by decide +kernel
    simp only [startD, List.map_cons, List.map_nil, List.length_cons, List.length_nil, Nat.reduceAdd, Nat.reduceSub, List.replicate, List.cons_append, List.nil_append, dSet, dIfS, dT, dOp, dCB, dCons, dNil, dV, dM, dC, dp, dNext, dRet, dRetN, dLst, dTup, dDrop, dNot, dAnd, dOr, dAndV, dOrV, dNotV, intG, intG0, lenG, lenD, ixG, itemD, intCG, intOf, maxG, List.getElem?_cons_zero, List.getElem?_cons_succ, List.set_cons_zero, List.set_cons_succ, Option.some.injEq, B.isU, B.d, B.rd, exists_eq_left', exists_eq_left, exists_and_left, true_and, and_true, B.p.injEq, DD.D.bl.injEq, DD.D.int.injEq, List.cons.injEq, DD.PC, decide_eq_true_eq, and_assoc, Option.map_some, dLc, iAny, walked, wipeE, gN, dCall, dCallP, dCallF, eqG, neG, Bool.not_true, Bool.not_false, if_true, if_false, Bool.false_eq_true, reduceIte, List.append_nil, dCBK, addG, dM1, gT, gsCons, gsNil, iEnumD, dAsP, iR1, dPart, dNo, dSl, freB, lstD, List.all_cons, List.all_nil, litD, Bool.and_self, dReprPair, dDctN, itemD2, ixG2, keyD, lookD, strG2, dPar, bCons, bNil, dFor, List.zip_cons_cons, List.zip_nil_right, List.foldl_cons, List.foldl_nil, dApp, B.o.injEq, DD.D.lst.injEq, DD.D.tup.injEq, exists_eq', dDct0, B.u.injEq, sizeLine_eq, Nat.reduceLeDiff, Nat.reduceLT, Nat.zero_le, true_implies, slG, List.length_map, tupleG, seqD, listG, iR2, List.length_take, List.length_drop, List.length_append, DD.D.str.injEq, mulG, dAsg]
    refine ⟨0, 61, rfl, by decide, by omega, by decide, fun d d0 d1 => ?_⟩
    simp only [startD, List.map_cons, List.map_nil, List.length_cons, List.length_nil, Nat.reduceAdd, Nat.reduceSub, List.replicate, List.cons_append, List.nil_append, dSet, dIfS, dT, dOp, dCB, dCons, dNil, dV, dM, dC, dp, dNext, dRet, dRetN, dLst, dTup, dDrop, dNot, dAnd, dOr, dAndV, dOrV, dNotV, intG, intG0, lenG, lenD, ixG, itemD, intCG, intOf, maxG, List.getElem?_cons_zero, List.getElem?_cons_succ, List.set_cons_zero, List.set_cons_succ, Option.some.injEq, B.isU, B.d, B.rd, exists_eq_left', exists_eq_left, exists_and_left, true_and, and_true, B.p.injEq, DD.D.bl.injEq, DD.D.int.injEq, List.cons.injEq, DD.PC, decide_eq_true_eq, and_assoc, Option.map_some, dLc, iAny, walked, wipeE, gN, dCall, dCallP, dCallF, eqG, neG, Bool.not_true, Bool.not_false, if_true, if_false, Bool.false_eq_true, reduceIte, List.append_nil, dCBK, addG, dM1, gT, gsCons, gsNil, iEnumD, dAsP, iR1, dPart, dNo, dSl, freB, lstD, List.all_cons, List.all_nil, litD, Bool.and_self, dReprPair, dDctN, itemD2, ixG2, keyD, lookD, strG2, dPar, bCons, bNil, dFor, List.zip_cons_cons, List.zip_nil_right, List.foldl_cons, List.foldl_nil, dApp, B.o.injEq, DD.D.lst.injEq, DD.D.tup.injEq, exists_eq', dDct0, B.u.injEq, sizeLine_eq, Nat.reduceLeDiff, Nat.reduceLT, Nat.zero_le, true_implies, slG, List.length_map, tupleG, seqD, listG, iR2, List.length_take, List.length_drop, List.length_append, DD.D.str.injEq, mulG, dAsg]
    refine ⟨by omega, by omega, ?_⟩
    refine lcL_pre (pre := []) (fun p acc δ => ∃ ys : List Str, acc = ys.map D.str ∧ (∀ y ∈ ys, IsMkS y) ∧ ys.length = p.length ∧ ys.length ≤ 61 ∧ δ = [some (.p (.scr ns)), some (.p (.int (j : Nat))), some (.u false (1 + p.length)), x3, none, x5, x6, x7, x8, x9, x10, x11, x12]) (fun p acc δ hI => ?_) (fun p e r acc δ hp hI Y M hY hM => ?_) (fun acc δ hI => ?_) ⟨[], rfl, (fun _ h => by cases h), rfl, by decide, rfl⟩
    · obtain ⟨ys, rfl, h1, h2, h3, rfl⟩ := hI
      rw [List.length_map, sizeLine_eq]
      omega
    · obtain ⟨ys, rfl, h1, h2, h3, rfl⟩ := hI
      have hpl := congrArg List.length hp
      rw [List.nil_append, List.length_append, List.length_cons] at hpl
      have hul : (upto 0 d.toNat).length = d.toNat := by
        unfold upto
        rw [List.length_map, List.length_range]
      simp only [startD, List.map_cons, List.map_nil, List.length_cons, List.length_nil, Nat.reduceAdd, Nat.reduceSub, List.replicate, List.cons_append, List.nil_append, dSet, dIfS, dT, dOp, dCB, dCons, dNil, dV, dM, dC, dp, dNext, dRet, dRetN, dLst, dTup, dDrop, dNot, dAnd, dOr, dAndV, dOrV, dNotV, intG, intG0, lenG, lenD, ixG, itemD, intCG, intOf, maxG, List.getElem?_cons_zero, List.getElem?_cons_succ, List.set_cons_zero, List.set_cons_succ, Option.some.injEq, B.isU, B.d, B.rd, exists_eq_left', exists_eq_left, exists_and_left, true_and, and_true, B.p.injEq, DD.D.bl.injEq, DD.D.int.injEq, List.cons.injEq, DD.PC, decide_eq_true_eq, and_assoc, Option.map_some, dLc, iAny, walked, wipeE, gN, dCall, dCallP, dCallF, eqG, neG, Bool.not_true, Bool.not_false, if_true, if_false, Bool.false_eq_true, reduceIte, List.append_nil, dCBK, addG, dM1, gT, gsCons, gsNil, iEnumD, dAsP, iR1, dPart, dNo, dSl, freB, lstD, List.all_cons, List.all_nil, litD, Bool.and_self, dReprPair, dDctN, itemD2, ixG2, keyD, lookD, strG2, dPar, bCons, bNil, dFor, List.zip_cons_cons, List.zip_nil_right, List.foldl_cons, List.foldl_nil, dApp, B.o.injEq, DD.D.lst.injEq, DD.D.tup.injEq, exists_eq', dDct0, B.u.injEq, sizeLine_eq, Nat.reduceLeDiff, Nat.reduceLT, Nat.zero_le, true_implies, slG, List.length_map, tupleG, seqD, listG, iR2, List.length_take, List.length_drop, List.length_append, DD.D.str.injEq, mulG, dAsg, dYes]
      refine ⟨1 + p.length, _, rfl, by decide, by decide, by omega, fun s hs => ?_⟩
      simp only [startD, List.map_cons, List.map_nil, List.length_cons, List.length_nil, Nat.reduceAdd, Nat.reduceSub, List.replicate, List.cons_append, List.nil_append, dSet, dIfS, dT, dOp, dCB, dCons, dNil, dV, dM, dC, dp, dNext, dRet, dRetN, dLst, dTup, dDrop, dNot, dAnd, dOr, dAndV, dOrV, dNotV, intG, intG0, lenG, lenD, ixG, itemD, intCG, intOf, maxG, List.getElem?_cons_zero, List.getElem?_cons_succ, List.set_cons_zero, List.set_cons_succ, Option.some.injEq, B.isU, B.d, B.rd, exists_eq_left', exists_eq_left, exists_and_left, true_and, and_true, B.p.injEq, DD.D.bl.injEq, DD.D.int.injEq, List.cons.injEq, DD.PC, decide_eq_true_eq, and_assoc, Option.map_some, dLc, iAny, walked, wipeE, gN, dCall, dCallP, dCallF, eqG, neG, Bool.not_true, Bool.not_false, if_true, if_false, Bool.false_eq_true, reduceIte, List.append_nil, dCBK, addG, dM1, gT, gsCons, gsNil, iEnumD, dAsP, iR1, dPart, dNo, dSl, freB, lstD, List.all_cons, List.all_nil, litD, Bool.and_self, dReprPair, dDctN, itemD2, ixG2, keyD, lookD, strG2, dPar, bCons, bNil, dFor, List.zip_cons_cons, List.zip_nil_right, List.foldl_cons, List.foldl_nil, dApp, B.o.injEq, DD.D.lst.injEq, DD.D.tup.injEq, exists_eq', dDct0, B.u.injEq, sizeLine_eq, Nat.reduceLeDiff, Nat.reduceLT, Nat.zero_le, true_implies, slG, List.length_map, tupleG, seqD, listG, iR2, List.length_take, List.length_drop, List.length_append, DD.D.str.injEq, mulG, dAsg]
      have step : ∀ y : Str, IsMkS y → Y (.str y) [some (.p (.scr ns)), some (.p (.int (j : Nat))), some (.u false (1 + p.length + 1)), x3, some (.p e), x5, x6, x7, x8, x9, x10, x11, x12] := fun y hy => by
        refine hY _ _ ⟨ys ++ [y], by rw [List.map_append]; rfl, fun z hz => ?_, by rw [List.length_append, List.length_append, h2]; rfl, by rw [List.length_append, List.length_singleton]; omega, ?_⟩
        · rcases List.mem_append.mp hz with h | h
          · exact h1 z h
          · rw [List.mem_singleton.mp h]
            exact hy
        · rw [List.length_append, List.length_singleton, ← Nat.add_assoc]
          rfl
      simp only [List.mem_cons, List.not_mem_nil, or_false] at hs
      rcases hs with rfl | rfl | rfl
      · exact step _ (.inl rfl)
      · exact step _ (.inr (.inl rfl))
      · exact step _ (.inr (.inr rfl))
    obtain ⟨ys, rfl, hy, hl, hl2, rfl⟩ := hI
    rw [List.nil_append] at hl
    have hup : (upto 0 d.toNat).length = d.toNat := by
      unfold upto
      rw [List.length_map, List.length_range]
    obtain ⟨mt, ml, ms⟩ := mk_join hy
    have hyl : ys.length ≤ 60 := by omega
    refine ⟨ys, rfl, by rw [ms]; have e0 : (Str.ofString "").length = 0 := rfl; rw [e0]; omega, dseq ?_⟩
    have mle : (Txt.join "" ys).length ≤ 60 := by omega
    have hn1 : 1 + (List.nil ++ upto 0 d.toNat).length ≤ 61 := by
      rw [List.nil_append]
      omega
    clear ml ms hl hup
    generalize Txt.join "" ys = m1 at mt mle
    generalize 1 + (List.nil ++ upto 0 d.toNat).length = n1 at hn1
    clear hy hyl
    have hzl : m1.length ≤ 16777216 := by omega
    have hsh : Str.ofString "h" = ⟨#[104]⟩ := rfl
    have hsc : Str.ofString "c" = ⟨#[99]⟩ := rfl
    have hsb : Str.ofString "b" = ⟨#[98]⟩ := rfl
    obtain ⟨ec, oc⟩ := mul_b (k := m1.length) (by omega) hsc
    obtain ⟨eh, oh⟩ := mul_b (k := m1.length) (by omega) hsh
    obtain ⟨eb, ob⟩ := mul_b (k := m1.length) (by omega) hsb
    simp only [startD, List.map_cons, List.map_nil, List.length_cons, List.length_nil, Nat.reduceAdd, Nat.reduceSub, List.replicate, List.cons_append, List.nil_append, dSet, dIfS, dT, dOp, dCB, dCons, dNil, dV, dM, dC, dp, dNext, dRet, dRetN, dLst, dTup, dDrop, dNot, dAnd, dOr, dAndV, dOrV, dNotV, intG, intG0, lenG, lenD, ixG, itemD, intCG, intOf, maxG, List.getElem?_cons_zero, List.getElem?_cons_succ, List.set_cons_zero, List.set_cons_succ, Option.some.injEq, B.isU, B.d, B.rd, exists_eq_left', exists_eq_left, exists_and_left, true_and, and_true, B.p.injEq, DD.D.bl.injEq, DD.D.int.injEq, List.cons.injEq, DD.PC, decide_eq_true_eq, and_assoc, Option.map_some, dLc, iAny, walked, wipeE, gN, dCall, dCallP, dCallF, eqG, neG, Bool.not_true, Bool.not_false, if_true, if_false, Bool.false_eq_true, reduceIte, List.append_nil, dCBK, addG, dM1, gT, gsCons, gsNil, iEnumD, dAsP, iR1, dPart, dNo, dSl, freB, lstD, List.all_cons, List.all_nil, litD, Bool.and_self, dReprPair, dDctN, itemD2, ixG2, keyD, lookD, strG2, dPar, bCons, bNil, dFor, List.zip_cons_cons, List.zip_nil_right, List.foldl_cons, List.foldl_nil, dApp, B.o.injEq, DD.D.lst.injEq, DD.D.tup.injEq, exists_eq', dDct0, B.u.injEq, sizeLine_eq, Nat.reduceLeDiff, Nat.reduceLT, Nat.zero_le, true_implies, slG, List.length_map, tupleG, seqD, listG, iR2, List.length_take, List.length_drop, List.length_append, DD.D.str.injEq, mulG, dAsg, if_pos hzl, ec, eh, eb]
    refine ⟨hzl, oc, oh, ob, n1, _, rfl, by simp, by simp, by omega, fun e he => ?_⟩
    have lr : ∀ t : Nat, (⟨(List.replicate m1.length t).toArray⟩ : Str).length = m1.length := fun t => by simp [Str.length]
    have hes : ∃ x : Str, e = .str x ∧ MkT x ∧ x.length ≤ 60 := by
      simp only [List.mem_cons, List.not_mem_nil, or_false] at he
      rcases he with rfl | rfl | rfl | rfl | rfl | rfl
      · exact ⟨_, rfl, mt, mle⟩
      · exact ⟨_, rfl, mt, mle⟩
      · exact ⟨_, rfl, mk_cut mt, Nat.le_trans cut_le mle⟩
      · exact ⟨_, rfl, mk_rep (.inr (.inl rfl)), by rw [lr]; exact mle⟩
      · exact ⟨_, rfl, mk_rep (.inr (.inr rfl)), by rw [lr]; exact mle⟩
      · exact ⟨_, rfl, mk_rep (.inl rfl), by rw [lr]; exact mle⟩
    obtain ⟨x, rfl, xt, xl⟩ := hes
    clear he lr ec oc eh oh eb ob mt mle hzl
    refine ⟨rfl, dseq ?_⟩
    simp only [startD, List.map_cons, List.map_nil, List.length_cons, List.length_nil, Nat.reduceAdd, Nat.reduceSub, List.replicate, List.cons_append, List.nil_append, dSet, dIfS, dT, dOp, dCB, dCons, dNil, dV, dM, dC, dp, dNext, dRet, dRetN, dLst, dTup, dDrop, dNot, dAnd, dOr, dAndV, dOrV, dNotV, intG, intG0, lenG, lenD, ixG, itemD, intCG, intOf, maxG, List.getElem?_cons_zero, List.getElem?_cons_succ, List.set_cons_zero, List.set_cons_succ, Option.some.injEq, B.isU, B.d, B.rd, exists_eq_left', exists_eq_left, exists_and_left, true_and, and_true, B.p.injEq, DD.D.bl.injEq, DD.D.int.injEq, List.cons.injEq, DD.PC, decide_eq_true_eq, and_assoc, Option.map_some, dLc, iAny, walked, wipeE, gN, dCall, dCallP, dCallF, eqG, neG, Bool.not_true, Bool.not_false, if_true, if_false, Bool.false_eq_true, reduceIte, List.append_nil, dCBK, addG, dM1, gT, gsCons, gsNil, iEnumD, dAsP, iR1, dPart, dNo, dSl, freB, lstD, List.all_cons, List.all_nil, litD, Bool.and_self, dReprPair, dDctN, itemD2, ixG2, keyD, lookD, strG2, dPar, bCons, bNil, dFor, List.zip_cons_cons, List.zip_nil_right, List.foldl_cons, List.foldl_nil, dApp, B.o.injEq, DD.D.lst.injEq, DD.D.tup.injEq, exists_eq', dDct0, B.u.injEq, sizeLine_eq, Nat.reduceLeDiff, Nat.reduceLT, Nat.zero_le, true_implies, slG, List.length_map, tupleG, seqD, listG, iR2, List.length_take, List.length_drop, List.length_append, DD.D.str.injEq, mulG, dAsg]
    refine ⟨n1 + 1, x, rfl, xt, by omega, by omega, fun zs z1 z2 z3 => ?_⟩
    have zc : ∀ z ∈ zs, IsC z.2 := fun z hz => xt z.2 (by rw [← z1]; exact List.mem_map_of_mem hz)
    have zl : zs.length = x.length := by
      have := congrArg List.length z1
      rw [List.length_map, Array.length_toList] at this
      exact this
    simp only [startD, List.map_cons, List.map_nil, List.length_cons, List.length_nil, Nat.reduceAdd, Nat.reduceSub, List.replicate, List.cons_append, List.nil_append, dSet, dIfS, dT, dOp, dCB, dCons, dNil, dV, dM, dC, dp, dNext, dRet, dRetN, dLst, dTup, dDrop, dNot, dAnd, dOr, dAndV, dOrV, dNotV, intG, intG0, lenG, lenD, ixG, itemD, intCG, intOf, maxG, List.getElem?_cons_zero, List.getElem?_cons_succ, List.set_cons_zero, List.set_cons_succ, Option.some.injEq, B.isU, B.d, B.rd, exists_eq_left', exists_eq_left, exists_and_left, true_and, and_true, B.p.injEq, DD.D.bl.injEq, DD.D.int.injEq, List.cons.injEq, DD.PC, decide_eq_true_eq, and_assoc, Option.map_some, dLc, iAny, walked, wipeE, gN, dCall, dCallP, dCallF, eqG, neG, Bool.not_true, Bool.not_false, if_true, if_false, Bool.false_eq_true, reduceIte, List.append_nil, dCBK, addG, dM1, gT, gsCons, gsNil, iEnumD, dAsP, iR1, dPart, dNo, dSl, freB, lstD, List.all_cons, List.all_nil, litD, Bool.and_self, dReprPair, dDctN, itemD2, ixG2, keyD, lookD, strG2, dPar, bCons, bNil, dFor, List.zip_cons_cons, List.zip_nil_right, List.foldl_cons, List.foldl_nil, dApp, B.o.injEq, DD.D.lst.injEq, DD.D.tup.injEq, exists_eq', dDct0, B.u.injEq, sizeLine_eq, Nat.reduceLeDiff, Nat.reduceLT, Nat.zero_le, true_implies, slG, List.length_map, tupleG, seqD, listG, iR2, List.length_take, List.length_drop, List.length_append, DD.D.str.injEq, mulG, dAsg]
    have l4 := sel_len (t := 104) (zs := zs)
    have l9 := sel_len (t := 99) (zs := zs)
    have d4 := sel_desc (t := 104) z2
    have d9 := sel_desc (t := 99) z2
    have g4 : GoodL (.lst ((sel 104 zs).map D.int)) (sel 104 zs) := ⟨rfl, isDesc_of d4, by omega⟩
    have g9 : GoodL (.lst ((sel 99 zs).map D.int)) (sel 99 zs) := ⟨rfl, isDesc_of d9, by omega⟩
    have ex : (⟨x.cps.toList.toArray⟩ : Str) = x := by simp
    have rT : ∀ z : Str, eqD (.str z) (.str z) = some true := fun z => eqD_str.trans (by rw [decide_eq_true rfl])
    have rI : ∀ cs : List Int, eqD (.lst (cs.map D.int)) (.lst (cs.map D.int)) = some true := fun cs => eqD_same (k := 1) (by decide) (sh_lst fun d hd => by
      obtain ⟨i, _, rfl⟩ := List.mem_map.mp hd
      exact sh_int)
    refine dseq ?_
    simp only [startD, List.map_cons, List.map_nil, List.length_cons, List.length_nil, Nat.reduceAdd, Nat.reduceSub, List.replicate, List.cons_append, List.nil_append, dSet, dIfS, dT, dOp, dCB, dCons, dNil, dV, dM, dC, dp, dNext, dRet, dRetN, dLst, dTup, dDrop, dNot, dAnd, dOr, dAndV, dOrV, dNotV, intG, intG0, lenG, lenD, ixG, itemD, intCG, intOf, maxG, List.getElem?_cons_zero, List.getElem?_cons_succ, List.set_cons_zero, List.set_cons_succ, Option.some.injEq, B.isU, B.d, B.rd, exists_eq_left', exists_eq_left, exists_and_left, true_and, and_true, B.p.injEq, DD.D.bl.injEq, DD.D.int.injEq, List.cons.injEq, DD.PC, decide_eq_true_eq, and_assoc, Option.map_some, dLc, iAny, walked, wipeE, gN, dCall, dCallP, dCallF, eqG, neG, Bool.not_true, Bool.not_false, if_true, if_false, Bool.false_eq_true, reduceIte, List.append_nil, dCBK, addG, dM1, gT, gsCons, gsNil, iEnumD, dAsP, iR1, dPart, dNo, dSl, freB, lstD, List.all_cons, List.all_nil, litD, Bool.and_self, dReprPair, dDctN, itemD2, ixG2, keyD, lookD, strG2, dPar, bCons, bNil, dFor, List.zip_cons_cons, List.zip_nil_right, List.foldl_cons, List.foldl_nil, dApp, B.o.injEq, DD.D.lst.injEq, DD.D.tup.injEq, exists_eq', dDct0, B.u.injEq, sizeLine_eq, Nat.reduceLeDiff, Nat.reduceLT, Nat.zero_le, true_implies, slG, List.length_map, tupleG, seqD, listG, iR2, List.length_take, List.length_drop, List.length_append, DD.D.str.injEq, mulG, dAsg]
    refine dseq ?_
    simp only [startD, List.map_cons, List.map_nil, List.length_cons, List.length_nil, Nat.reduceAdd, Nat.reduceSub, List.replicate, List.cons_append, List.nil_append, dSet, dIfS, dT, dOp, dCB, dCons, dNil, dV, dM, dC, dp, dNext, dRet, dRetN, dLst, dTup, dDrop, dNot, dAnd, dOr, dAndV, dOrV, dNotV, intG, intG0, lenG, lenD, ixG, itemD, intCG, intOf, maxG, List.getElem?_cons_zero, List.getElem?_cons_succ, List.set_cons_zero, List.set_cons_succ, Option.some.injEq, B.isU, B.d, B.rd, exists_eq_left', exists_eq_left, exists_and_left, true_and, and_true, B.p.injEq, DD.D.bl.injEq, DD.D.int.injEq, List.cons.injEq, DD.PC, decide_eq_true_eq, and_assoc, Option.map_some, dLc, iAny, walked, wipeE, gN, dCall, dCallP, dCallF, eqG, neG, Bool.not_true, Bool.not_false, if_true, if_false, Bool.false_eq_true, reduceIte, List.append_nil, dCBK, addG, dM1, gT, gsCons, gsNil, iEnumD, dAsP, iR1, dPart, dNo, dSl, freB, lstD, List.all_cons, List.all_nil, litD, Bool.and_self, dReprPair, dDctN, itemD2, ixG2, keyD, lookD, strG2, dPar, bCons, bNil, dFor, List.zip_cons_cons, List.zip_nil_right, List.foldl_cons, List.foldl_nil, dApp, B.o.injEq, DD.D.lst.injEq, DD.D.tup.injEq, exists_eq', dDct0, B.u.injEq, sizeLine_eq, Nat.reduceLeDiff, Nat.reduceLT, Nat.zero_le, true_implies, slG, List.length_map, tupleG, seqD, listG, iR2, List.length_take, List.length_drop, List.length_append, DD.D.str.injEq, mulG, dAsg]
    refine ⟨_, _, rfl, .inr ⟨_, g4, .inr ⟨_, g9, fun ms hp ho => ?_⟩⟩⟩
    rw [marks_back z2 zc hp ho, z1, ex]
    simp only [startD, List.map_cons, List.map_nil, List.length_cons, List.length_nil, Nat.reduceAdd, Nat.reduceSub, List.replicate, List.cons_append, List.nil_append, dSet, dIfS, dT, dOp, dCB, dCons, dNil, dV, dM, dC, dp, dNext, dRet, dRetN, dLst, dTup, dDrop, dNot, dAnd, dOr, dAndV, dOrV, dNotV, intG, intG0, lenG, lenD, ixG, itemD, intCG, intOf, maxG, List.getElem?_cons_zero, List.getElem?_cons_succ, List.set_cons_zero, List.set_cons_succ, Option.some.injEq, B.isU, B.d, B.rd, exists_eq_left', exists_eq_left, exists_and_left, true_and, and_true, B.p.injEq, DD.D.bl.injEq, DD.D.int.injEq, List.cons.injEq, DD.PC, decide_eq_true_eq, and_assoc, Option.map_some, dLc, iAny, walked, wipeE, gN, dCall, dCallP, dCallF, eqG, neG, Bool.not_true, Bool.not_false, if_true, if_false, Bool.false_eq_true, reduceIte, List.append_nil, dCBK, addG, dM1, gT, gsCons, gsNil, iEnumD, dAsP, iR1, dPart, dNo, dSl, freB, lstD, List.all_cons, List.all_nil, litD, Bool.and_self, dReprPair, dDctN, itemD2, ixG2, keyD, lookD, strG2, dPar, bCons, bNil, dFor, List.zip_cons_cons, List.zip_nil_right, List.foldl_cons, List.foldl_nil, dApp, B.o.injEq, DD.D.lst.injEq, DD.D.tup.injEq, exists_eq', dDct0, B.u.injEq, sizeLine_eq, Nat.reduceLeDiff, Nat.reduceLT, Nat.zero_le, true_implies, slG, List.length_map, tupleG, seqD, listG, iR2, List.length_take, List.length_drop, List.length_append, DD.D.str.injEq, mulG, dAsg, rT, rI]
    refine dseq ?_
    simp only [startD, List.map_cons, List.map_nil, List.length_cons, List.length_nil, Nat.reduceAdd, Nat.reduceSub, List.replicate, List.cons_append, List.nil_append, dSet, dIfS, dT, dOp, dCB, dCons, dNil, dV, dM, dC, dp, dNext, dRet, dRetN, dLst, dTup, dDrop, dNot, dAnd, dOr, dAndV, dOrV, dNotV, intG, intG0, lenG, lenD, ixG, itemD, intCG, intOf, maxG, List.getElem?_cons_zero, List.getElem?_cons_succ, List.set_cons_zero, List.set_cons_succ, Option.some.injEq, B.isU, B.d, B.rd, exists_eq_left', exists_eq_left, exists_and_left, true_and, and_true, B.p.injEq, DD.D.bl.injEq, DD.D.int.injEq, List.cons.injEq, DD.PC, decide_eq_true_eq, and_assoc, Option.map_some, dLc, iAny, walked, wipeE, gN, dCall, dCallP, dCallF, eqG, neG, Bool.not_true, Bool.not_false, if_true, if_false, Bool.false_eq_true, reduceIte, List.append_nil, dCBK, addG, dM1, gT, gsCons, gsNil, iEnumD, dAsP, iR1, dPart, dNo, dSl, freB, lstD, List.all_cons, List.all_nil, litD, Bool.and_self, dReprPair, dDctN, itemD2, ixG2, keyD, lookD, strG2, dPar, bCons, bNil, dFor, List.zip_cons_cons, List.zip_nil_right, List.foldl_cons, List.foldl_nil, dApp, B.o.injEq, DD.D.lst.injEq, DD.D.tup.injEq, exists_eq', dDct0, B.u.injEq, sizeLine_eq, Nat.reduceLeDiff, Nat.reduceLT, Nat.zero_le, true_implies, slG, List.length_map, tupleG, seqD, listG, iR2, List.length_take, List.length_drop, List.length_append, DD.D.str.injEq, mulG, dAsg]
    refine lcL_map (fun _ => true) turnD (fun d => [some (.p (.scr ns)), some (.p (.int ((j : Nat) : Int))), some (.u false (n1 + 1 + 1 + 2 * x.length)), some (.p (.str x)), none, some (.p (.lst ((sel 104 zs).map D.int))), some (.p (.lst ((sel 99 zs).map D.int))), some (.p (.lst ((sel 104 zs).map D.int))), some (.p (.lst ((sel 99 zs).map D.int))), x9, some (.p d), x11, x12]) (fun d => [some (.p (.scr ns)), some (.p (.int ((j : Nat) : Int))), some (.u false (n1 + 1 + 1 + 2 * x.length)), some (.p (.str x)), none, some (.p (.lst ((sel 104 zs).map D.int))), some (.p (.lst ((sel 99 zs).map D.int))), some (.p (.lst ((sel 104 zs).map D.int))), some (.p (.lst ((sel 99 zs).map D.int))), x9, some (.p d), x11, x12]) (fun d hd Y N' y n => ?_) (fun d hd => ⟨rfl, rfl⟩) ?_ ?_
    · obtain ⟨c, hc, rfl⟩ := List.mem_map.mp (show d ∈ x.cps.toList.map _ from hd)
      have y := y rfl
      rcases xt c hc with rfl | rfl | rfl
      all_goals
        simp only [startD, List.map_cons, List.map_nil, List.length_cons, List.length_nil, Nat.reduceAdd, Nat.reduceSub, List.replicate, List.cons_append, List.nil_append, dSet, dIfS, dT, dOp, dCB, dCons, dNil, dV, dM, dC, dp, dNext, dRet, dRetN, dLst, dTup, dDrop, dNot, dAnd, dOr, dAndV, dOrV, dNotV, intG, intG0, lenG, lenD, ixG, itemD, intCG, intOf, maxG, List.getElem?_cons_zero, List.getElem?_cons_succ, List.set_cons_zero, List.set_cons_succ, Option.some.injEq, B.isU, B.d, B.rd, exists_eq_left', exists_eq_left, exists_and_left, true_and, and_true, B.p.injEq, DD.D.bl.injEq, DD.D.int.injEq, List.cons.injEq, DD.PC, decide_eq_true_eq, and_assoc, Option.map_some, dLc, iAny, walked, wipeE, gN, dCall, dCallP, dCallF, eqG, neG, Bool.not_true, Bool.not_false, if_true, if_false, Bool.false_eq_true, reduceIte, List.append_nil, dCBK, addG, dM1, gT, gsCons, gsNil, iEnumD, dAsP, iR1, dPart, dNo, dSl, freB, lstD, List.all_cons, List.all_nil, litD, Bool.and_self, dReprPair, dDctN, itemD2, ixG2, keyD, lookD, strG2, dPar, bCons, bNil, dFor, List.zip_cons_cons, List.zip_nil_right, List.foldl_cons, List.foldl_nil, dApp, B.o.injEq, DD.D.lst.injEq, DD.D.tup.injEq, exists_eq', dDct0, B.u.injEq, sizeLine_eq, Nat.reduceLeDiff, Nat.reduceLT, Nat.zero_le, true_implies, slG, List.length_map, tupleG, seqD, listG, iR2, List.length_take, List.length_drop, List.length_append, DD.D.str.injEq, mulG, dAsg, dYes, hsh, hsc, hsb]
        exact ⟨_, rfl, y⟩
    · unfold DD.signs
      rw [List.length_nil, Nat.zero_add, List.length_map, Array.length_toList, sizeLine_eq]
      have : x.cps.size ≤ 60 := xl
      omega
    have ey : [] ++ ((DD.signs x).filter fun _ => true).map turnD = ((x.cps.toList.map turn).map fun c => (⟨#[c]⟩ : Str)).map D.str := by
      rw [List.nil_append, List.filter_eq_self.mpr (fun _ _ => rfl)]
      unfold DD.signs
      rw [List.map_map, List.map_map, List.map_map]
      rfl
    rw [ey]
    refine ⟨_, rfl, ?_, dseq ?_⟩
    · rw [sum_one, List.length_map]
      have e0 : (Str.ofString "").length = 0 := rfl
      have : x.cps.toList.length ≤ 60 := by
        rw [Array.length_toList]
        exact xl
      rw [e0, List.length_map, List.length_map]
      omega
    rw [join_back]
    simp only [startD, List.map_cons, List.map_nil, List.length_cons, List.length_nil, Nat.reduceAdd, Nat.reduceSub, List.replicate, List.cons_append, List.nil_append, dSet, dIfS, dT, dOp, dCB, dCons, dNil, dV, dM, dC, dp, dNext, dRet, dRetN, dLst, dTup, dDrop, dNot, dAnd, dOr, dAndV, dOrV, dNotV, intG, intG0, lenG, lenD, ixG, itemD, intCG, intOf, maxG, List.getElem?_cons_zero, List.getElem?_cons_succ, List.set_cons_zero, List.set_cons_succ, Option.some.injEq, B.isU, B.d, B.rd, exists_eq_left', exists_eq_left, exists_and_left, true_and, and_true, B.p.injEq, DD.D.bl.injEq, DD.D.int.injEq, List.cons.injEq, DD.PC, decide_eq_true_eq, and_assoc, Option.map_some, dLc, iAny, walked, wipeE, gN, dCall, dCallP, dCallF, eqG, neG, Bool.not_true, Bool.not_false, if_true, if_false, Bool.false_eq_true, reduceIte, List.append_nil, dCBK, addG, dM1, gT, gsCons, gsNil, iEnumD, dAsP, iR1, dPart, dNo, dSl, freB, lstD, List.all_cons, List.all_nil, litD, Bool.and_self, dReprPair, dDctN, itemD2, ixG2, keyD, lookD, strG2, dPar, bCons, bNil, dFor, List.zip_cons_cons, List.zip_nil_right, List.foldl_cons, List.foldl_nil, dApp, B.o.injEq, DD.D.lst.injEq, DD.D.tup.injEq, exists_eq', dDct0, B.u.injEq, sizeLine_eq, Nat.reduceLeDiff, Nat.reduceLT, Nat.zero_le, true_implies, slG, List.length_map, tupleG, seqD, listG, iR2, List.length_take, List.length_drop, List.length_append, DD.D.str.injEq, mulG, dAsg]
    refine ⟨_, _, rfl, .inr ⟨_, g9, .inr ⟨_, g4, fun ms hp ho => ?_⟩⟩⟩
    rw [marks_turned z2 zc hp ho, z1]
    obtain ⟨eb, ob⟩ := mul_b (k := (sel 104 zs).length) (by omega) hsb
    simp only [startD, List.map_cons, List.map_nil, List.length_cons, List.length_nil, Nat.reduceAdd, Nat.reduceSub, List.replicate, List.cons_append, List.nil_append, dSet, dIfS, dT, dOp, dCB, dCons, dNil, dV, dM, dC, dp, dNext, dRet, dRetN, dLst, dTup, dDrop, dNot, dAnd, dOr, dAndV, dOrV, dNotV, intG, intG0, lenG, lenD, ixG, itemD, intCG, intOf, maxG, List.getElem?_cons_zero, List.getElem?_cons_succ, List.set_cons_zero, List.set_cons_succ, Option.some.injEq, B.isU, B.d, B.rd, exists_eq_left', exists_eq_left, exists_and_left, true_and, and_true, B.p.injEq, DD.D.bl.injEq, DD.D.int.injEq, List.cons.injEq, DD.PC, decide_eq_true_eq, and_assoc, Option.map_some, dLc, iAny, walked, wipeE, gN, dCall, dCallP, dCallF, eqG, neG, Bool.not_true, Bool.not_false, if_true, if_false, Bool.false_eq_true, reduceIte, List.append_nil, dCBK, addG, dM1, gT, gsCons, gsNil, iEnumD, dAsP, iR1, dPart, dNo, dSl, freB, lstD, List.all_cons, List.all_nil, litD, Bool.and_self, dReprPair, dDctN, itemD2, ixG2, keyD, lookD, strG2, dPar, bCons, bNil, dFor, List.zip_cons_cons, List.zip_nil_right, List.foldl_cons, List.foldl_nil, dApp, B.o.injEq, DD.D.lst.injEq, DD.D.tup.injEq, exists_eq', dDct0, B.u.injEq, sizeLine_eq, Nat.reduceLeDiff, Nat.reduceLT, Nat.zero_le, true_implies, slG, List.length_map, tupleG, seqD, listG, iR2, List.length_take, List.length_drop, List.length_append, DD.D.str.injEq, mulG, dAsg, rT, eb]
    refine ⟨_, _, rfl, .inr ⟨_, g4, .inr ⟨_, g4, fun ms hp ho => ?_⟩⟩⟩
    rw [marks_both d4 hp ho]
    simp only [startD, List.map_cons, List.map_nil, List.length_cons, List.length_nil, Nat.reduceAdd, Nat.reduceSub, List.replicate, List.cons_append, List.nil_append, dSet, dIfS, dT, dOp, dCB, dCons, dNil, dV, dM, dC, dp, dNext, dRet, dRetN, dLst, dTup, dDrop, dNot, dAnd, dOr, dAndV, dOrV, dNotV, intG, intG0, lenG, lenD, ixG, itemD, intCG, intOf, maxG, List.getElem?_cons_zero, List.getElem?_cons_succ, List.set_cons_zero, List.set_cons_succ, Option.some.injEq, B.isU, B.d, B.rd, exists_eq_left', exists_eq_left, exists_and_left, true_and, and_true, B.p.injEq, DD.D.bl.injEq, DD.D.int.injEq, List.cons.injEq, DD.PC, decide_eq_true_eq, and_assoc, Option.map_some, dLc, iAny, walked, wipeE, gN, dCall, dCallP, dCallF, eqG, neG, Bool.not_true, Bool.not_false, if_true, if_false, Bool.false_eq_true, reduceIte, List.append_nil, dCBK, addG, dM1, gT, gsCons, gsNil, iEnumD, dAsP, iR1, dPart, dNo, dSl, freB, lstD, List.all_cons, List.all_nil, litD, Bool.and_self, dReprPair, dDctN, itemD2, ixG2, keyD, lookD, strG2, dPar, bCons, bNil, dFor, List.zip_cons_cons, List.zip_nil_right, List.foldl_cons, List.foldl_nil, dApp, B.o.injEq, DD.D.lst.injEq, DD.D.tup.injEq, exists_eq', dDct0, B.u.injEq, sizeLine_eq, Nat.reduceLeDiff, Nat.reduceLT, Nat.zero_le, true_implies, slG, List.length_map, tupleG, seqD, listG, iR2, List.length_take, List.length_drop, List.length_append, DD.D.str.injEq, mulG, dAsg, rT]
    refine ⟨ob, ?_⟩
    have hsel : ∀ (t : Nat) (i : Int), i ∈ sel t zs → i.natAbs < 10 ^ 45 := fun t i hi => by
      obtain ⟨c, h1, _⟩ := mem_sel.mp hi
      exact z3 _ h1
    refine dseq ?_
    simp only [startD, List.map_cons, List.map_nil, List.length_cons, List.length_nil, Nat.reduceAdd, Nat.reduceSub, List.replicate, List.cons_append, List.nil_append, dSet, dIfS, dT, dOp, dCB, dCons, dNil, dV, dM, dC, dp, dNext, dRet, dRetN, dLst, dTup, dDrop, dNot, dAnd, dOr, dAndV, dOrV, dNotV, intG, intG0, lenG, lenD, ixG, itemD, intCG, intOf, maxG, List.getElem?_cons_zero, List.getElem?_cons_succ, List.set_cons_zero, List.set_cons_succ, Option.some.injEq, B.isU, B.d, B.rd, exists_eq_left', exists_eq_left, exists_and_left, true_and, and_true, B.p.injEq, DD.D.bl.injEq, DD.D.int.injEq, List.cons.injEq, DD.PC, decide_eq_true_eq, and_assoc, Option.map_some, dLc, iAny, walked, wipeE, gN, dCall, dCallP, dCallF, eqG, neG, Bool.not_true, Bool.not_false, if_true, if_false, Bool.false_eq_true, reduceIte, List.append_nil, dCBK, addG, dM1, gT, gsCons, gsNil, iEnumD, dAsP, iR1, dPart, dNo, dSl, freB, lstD, List.all_cons, List.all_nil, litD, Bool.and_self, dReprPair, dDctN, itemD2, ixG2, keyD, lookD, strG2, dPar, bCons, bNil, dFor, List.zip_cons_cons, List.zip_nil_right, List.foldl_cons, List.foldl_nil, dApp, B.o.injEq, DD.D.lst.injEq, DD.D.tup.injEq, exists_eq', dDct0, B.u.injEq, sizeLine_eq, Nat.reduceLeDiff, Nat.reduceLT, Nat.zero_le, true_implies, slG, List.length_map, tupleG, seqD, listG, iR2, List.length_take, List.length_drop, List.length_append, DD.D.str.injEq, mulG, dAsg]
    refine ⟨_, sel 104 zs, rfl, by omega, hsel 104, by omega, fun bad m1 hb1 rs1 hm1 => ?_⟩
    simp only [startD, List.map_cons, List.map_nil, List.length_cons, List.length_nil, Nat.reduceAdd, Nat.reduceSub, List.replicate, List.cons_append, List.nil_append, dSet, dIfS, dT, dOp, dCB, dCons, dNil, dV, dM, dC, dp, dNext, dRet, dRetN, dLst, dTup, dDrop, dNot, dAnd, dOr, dAndV, dOrV, dNotV, intG, intG0, lenG, lenD, ixG, itemD, intCG, intOf, maxG, List.getElem?_cons_zero, List.getElem?_cons_succ, List.set_cons_zero, List.set_cons_succ, Option.some.injEq, B.isU, B.d, B.rd, exists_eq_left', exists_eq_left, exists_and_left, true_and, and_true, B.p.injEq, DD.D.bl.injEq, DD.D.int.injEq, List.cons.injEq, DD.PC, decide_eq_true_eq, and_assoc, Option.map_some, dLc, iAny, walked, wipeE, gN, dCall, dCallP, dCallF, eqG, neG, Bool.not_true, Bool.not_false, if_true, if_false, Bool.false_eq_true, reduceIte, List.append_nil, dCBK, addG, dM1, gT, gsCons, gsNil, iEnumD, dAsP, iR1, dPart, dNo, dSl, freB, lstD, List.all_cons, List.all_nil, litD, Bool.and_self, dReprPair, dDctN, itemD2, ixG2, keyD, lookD, strG2, dPar, bCons, bNil, dFor, List.zip_cons_cons, List.zip_nil_right, List.foldl_cons, List.foldl_nil, dApp, B.o.injEq, DD.D.lst.injEq, DD.D.tup.injEq, exists_eq', dDct0, B.u.injEq, sizeLine_eq, Nat.reduceLeDiff, Nat.reduceLT, Nat.zero_le, true_implies, slG, List.length_map, tupleG, seqD, listG, iR2, List.length_take, List.length_drop, List.length_append, DD.D.str.injEq, mulG, dAsg]
    refine ⟨m1, sel 99 zs, rfl, by omega, hsel 99, by omega, fun worse m2 hb2 rs2 hm2 => ?_⟩
    obtain ⟨c1, t1, s1⟩ := rs1.shw (by decide) (by decide)
    obtain ⟨c2, t2, s2⟩ := rs2.shw (by decide) (by decide)
    simp only [startD, List.map_cons, List.map_nil, List.length_cons, List.length_nil, Nat.reduceAdd, Nat.reduceSub, List.replicate, List.cons_append, List.nil_append, dSet, dIfS, dT, dOp, dCB, dCons, dNil, dV, dM, dC, dp, dNext, dRet, dRetN, dLst, dTup, dDrop, dNot, dAnd, dOr, dAndV, dOrV, dNotV, intG, intG0, lenG, lenD, ixG, itemD, intCG, intOf, maxG, List.getElem?_cons_zero, List.getElem?_cons_succ, List.set_cons_zero, List.set_cons_succ, Option.some.injEq, B.isU, B.d, B.rd, exists_eq_left', exists_eq_left, exists_and_left, true_and, and_true, B.p.injEq, DD.D.bl.injEq, DD.D.int.injEq, List.cons.injEq, DD.PC, decide_eq_true_eq, and_assoc, Option.map_some, dLc, iAny, walked, wipeE, gN, dCall, dCallP, dCallF, eqG, neG, Bool.not_true, Bool.not_false, if_true, if_false, Bool.false_eq_true, reduceIte, List.append_nil, dCBK, addG, dM1, gT, gsCons, gsNil, iEnumD, dAsP, iR1, dPart, dNo, dSl, freB, lstD, List.all_cons, List.all_nil, litD, Bool.and_self, dReprPair, dDctN, itemD2, ixG2, keyD, lookD, strG2, dPar, bCons, bNil, dFor, List.zip_cons_cons, List.zip_nil_right, List.foldl_cons, List.foldl_nil, dApp, B.o.injEq, DD.D.lst.injEq, DD.D.tup.injEq, exists_eq', dDct0, B.u.injEq, sizeLine_eq, Nat.reduceLeDiff, Nat.reduceLT, Nat.zero_le, true_implies, slG, List.length_map, tupleG, seqD, listG, iR2, List.length_take, List.length_drop, List.length_append, DD.D.str.injEq, mulG, dAsg]
    refine dseq ?_
    simp only [startD, List.map_cons, List.map_nil, List.length_cons, List.length_nil, Nat.reduceAdd, Nat.reduceSub, List.replicate, List.cons_append, List.nil_append, dSet, dIfS, dT, dOp, dCB, dCons, dNil, dV, dM, dC, dp, dNext, dRet, dRetN, dLst, dTup, dDrop, dNot, dAnd, dOr, dAndV, dOrV, dNotV, intG, intG0, lenG, lenD, ixG, itemD, intCG, intOf, maxG, List.getElem?_cons_zero, List.getElem?_cons_succ, List.set_cons_zero, List.set_cons_succ, Option.some.injEq, B.isU, B.d, B.rd, exists_eq_left', exists_eq_left, exists_and_left, true_and, and_true, B.p.injEq, DD.D.bl.injEq, DD.D.int.injEq, List.cons.injEq, DD.PC, decide_eq_true_eq, and_assoc, Option.map_some, dLc, iAny, walked, wipeE, gN, dCall, dCallP, dCallF, eqG, neG, Bool.not_true, Bool.not_false, if_true, if_false, Bool.false_eq_true, reduceIte, List.append_nil, dCBK, addG, dM1, gT, gsCons, gsNil, iEnumD, dAsP, iR1, dPart, dNo, dSl, freB, lstD, List.all_cons, List.all_nil, litD, Bool.and_self, dReprPair, dDctN, itemD2, ixG2, keyD, lookD, strG2, dPar, bCons, bNil, dFor, List.zip_cons_cons, List.zip_nil_right, List.foldl_cons, List.foldl_nil, dApp, B.o.injEq, DD.D.lst.injEq, DD.D.tup.injEq, exists_eq', dDct0, B.u.injEq, sizeLine_eq, Nat.reduceLeDiff, Nat.reduceLT, Nat.zero_le, true_implies, slG, List.length_map, tupleG, seqD, listG, iR2, List.length_take, List.length_drop, List.length_append, DD.D.str.injEq, mulG, dAsg]
    refine ⟨_, _, _, c1, rfl, .inl ⟨hb1, rfl⟩, t1, s1, ?_⟩
    simp only [startD, List.map_cons, List.map_nil, List.length_cons, List.length_nil, Nat.reduceAdd, Nat.reduceSub, List.replicate, List.cons_append, List.nil_append, dSet, dIfS, dT, dOp, dCB, dCons, dNil, dV, dM, dC, dp, dNext, dRet, dRetN, dLst, dTup, dDrop, dNot, dAnd, dOr, dAndV, dOrV, dNotV, intG, intG0, lenG, lenD, ixG, itemD, intCG, intOf, maxG, List.getElem?_cons_zero, List.getElem?_cons_succ, List.set_cons_zero, List.set_cons_succ, Option.some.injEq, B.isU, B.d, B.rd, exists_eq_left', exists_eq_left, exists_and_left, true_and, and_true, B.p.injEq, DD.D.bl.injEq, DD.D.int.injEq, List.cons.injEq, DD.PC, decide_eq_true_eq, and_assoc, Option.map_some, dLc, iAny, walked, wipeE, gN, dCall, dCallP, dCallF, eqG, neG, Bool.not_true, Bool.not_false, if_true, if_false, Bool.false_eq_true, reduceIte, List.append_nil, dCBK, addG, dM1, gT, gsCons, gsNil, iEnumD, dAsP, iR1, dPart, dNo, dSl, freB, lstD, List.all_cons, List.all_nil, litD, Bool.and_self, dReprPair, dDctN, itemD2, ixG2, keyD, lookD, strG2, dPar, bCons, bNil, dFor, List.zip_cons_cons, List.zip_nil_right, List.foldl_cons, List.foldl_nil, dApp, B.o.injEq, DD.D.lst.injEq, DD.D.tup.injEq, exists_eq', dDct0, B.u.injEq, sizeLine_eq, Nat.reduceLeDiff, Nat.reduceLT, Nat.zero_le, true_implies, slG, List.length_map, tupleG, seqD, listG, iR2, List.length_take, List.length_drop, List.length_append, DD.D.str.injEq, mulG, dAsg]
    refine ⟨_, _, _, c2, rfl, .inr ⟨_, g4, hb2, rfl⟩, t2, s2, ?_⟩
    simp only [startD, List.map_cons, List.map_nil, List.length_cons, List.length_nil, Nat.reduceAdd, Nat.reduceSub, List.replicate, List.cons_append, List.nil_append, dSet, dIfS, dT, dOp, dCB, dCons, dNil, dV, dM, dC, dp, dNext, dRet, dRetN, dLst, dTup, dDrop, dNot, dAnd, dOr, dAndV, dOrV, dNotV, intG, intG0, lenG, lenD, ixG, itemD, intCG, intOf, maxG, List.getElem?_cons_zero, List.getElem?_cons_succ, List.set_cons_zero, List.set_cons_succ, Option.some.injEq, B.isU, B.d, B.rd, exists_eq_left', exists_eq_left, exists_and_left, true_and, and_true, B.p.injEq, DD.D.bl.injEq, DD.D.int.injEq, List.cons.injEq, DD.PC, decide_eq_true_eq, and_assoc, Option.map_some, dLc, iAny, walked, wipeE, gN, dCall, dCallP, dCallF, eqG, neG, Bool.not_true, Bool.not_false, if_true, if_false, Bool.false_eq_true, reduceIte, List.append_nil, dCBK, addG, dM1, gT, gsCons, gsNil, iEnumD, dAsP, iR1, dPart, dNo, dSl, freB, lstD, List.all_cons, List.all_nil, litD, Bool.and_self, dReprPair, dDctN, itemD2, ixG2, keyD, lookD, strG2, dPar, bCons, bNil, dFor, List.zip_cons_cons, List.zip_nil_right, List.foldl_cons, List.foldl_nil, dApp, B.o.injEq, DD.D.lst.injEq, DD.D.tup.injEq, exists_eq', dDct0, B.u.injEq, sizeLine_eq, Nat.reduceLeDiff, Nat.reduceLT, Nat.zero_le, true_implies, slG, List.length_map, tupleG, seqD, listG, iR2, List.length_take, List.length_drop, List.length_append, DD.D.str.injEq, mulG, dAsg]
    refine ⟨_, _, _, c1, rfl, .inl ⟨hb1, rfl⟩, t1, s1, ?_⟩
    simp only [startD, List.map_cons, List.map_nil, List.length_cons, List.length_nil, Nat.reduceAdd, Nat.reduceSub, List.replicate, List.cons_append, List.nil_append, dSet, dIfS, dT, dOp, dCB, dCons, dNil, dV, dM, dC, dp, dNext, dRet, dRetN, dLst, dTup, dDrop, dNot, dAnd, dOr, dAndV, dOrV, dNotV, intG, intG0, lenG, lenD, ixG, itemD, intCG, intOf, maxG, List.getElem?_cons_zero, List.getElem?_cons_succ, List.set_cons_zero, List.set_cons_succ, Option.some.injEq, B.isU, B.d, B.rd, exists_eq_left', exists_eq_left, exists_and_left, true_and, and_true, B.p.injEq, DD.D.bl.injEq, DD.D.int.injEq, List.cons.injEq, DD.PC, decide_eq_true_eq, and_assoc, Option.map_some, dLc, iAny, walked, wipeE, gN, dCall, dCallP, dCallF, eqG, neG, Bool.not_true, Bool.not_false, if_true, if_false, Bool.false_eq_true, reduceIte, List.append_nil, dCBK, addG, dM1, gT, gsCons, gsNil, iEnumD, dAsP, iR1, dPart, dNo, dSl, freB, lstD, List.all_cons, List.all_nil, litD, Bool.and_self, dReprPair, dDctN, itemD2, ixG2, keyD, lookD, strG2, dPar, bCons, bNil, dFor, List.zip_cons_cons, List.zip_nil_right, List.foldl_cons, List.foldl_nil, dApp, B.o.injEq, DD.D.lst.injEq, DD.D.tup.injEq, exists_eq', dDct0, B.u.injEq, sizeLine_eq, Nat.reduceLeDiff, Nat.reduceLT, Nat.zero_le, true_implies, slG, List.length_map, tupleG, seqD, listG, iR2, List.length_take, List.length_drop, List.length_append, DD.D.str.injEq, mulG, dAsg]
    exact hN _ ⟨_, _, _, _, _, _, _, _, _, _, _, _, rfl⟩
end
end K

set_option Elab.async false
set_option linter.all false
set_option maxRecDepth 100000
set_option maxHeartbeats 8000000
namespace K
open PySem PySem.Spec PyProof.Rows L2 DD
def initOf : Stmt → Stmt
  | .ClassDef _ _ _ b _ _ _ _ _ _ _ => b.getD 0 (.Pass ⟨0, 0, 0, 0⟩)
  | s => s
def p_InvalidList : Nat → Pos := fun | 0 => ⟨10, 8, 10, 13⟩ | 1 => ⟨10, 8, 10, 15⟩ | 2 => ⟨10, 8, 10, 24⟩ | 3 => ⟨10, 25, 10, 30⟩ | 4 => ⟨10, 8, 10, 31⟩ | 5 => ⟨10, 8, 10, 31⟩ | 6 => ⟨11, 8, 11, 12⟩ | 7 => ⟨11, 8, 11, 18⟩ | 8 => ⟨11, 21, 11, 26⟩ | _ => ⟨11, 8, 11, 26⟩
abbrev i_InvalidList : Stmt := initOf (topS 4)
theorem all_mk {w : World} {K : PySem.W.Frag} {h : Heap} {mg : Str → Option Value} (X : K.In h) (G : h.Ns mainGlobals mg)
    {osys : Obj}
    {f_is_whole : Addr} {od_is_whole an_is_whole : Option Addr} {sl_is_whole : Array (Option Value)} {oc_is_whole kV_is_whole dc_is_whole pm_is_whole cd_is_whole ct_is_whole : Value}
    {f_is_choices : Addr} {od_is_choices an_is_choices : Option Addr} {sl_is_choices : Array (Option Value)} {oc_is_choices kV_is_choices dc_is_choices pm_is_choices cd_is_choices ct_is_choices : Value}
    {f_check_choices : Addr} {od_check_choices an_check_choices : Option Addr} {sl_check_choices : Array (Option Value)} {oc_check_choices kV_check_choices dc_check_choices pm_check_choices cd_check_choices ct_check_choices : Value}
    {f_mark_of : Addr} {od_mark_of an_mark_of : Option Addr} {sl_mark_of : Array (Option Value)} {oc_mark_of kV_mark_of dc_mark_of pm_mark_of cd_mark_of ct_mark_of : Value}
    {f_merged : Addr} {od_merged an_merged : Option Addr} {sl_merged : Array (Option Value)} {oc_merged kV_merged dc_merged pm_merged cd_merged ct_merged : Value}
    {f_marks_of : Addr} {od_marks_of an_marks_of : Option Addr} {sl_marks_of : Array (Option Value)} {oc_marks_of kV_marks_of dc_marks_of pm_marks_of cd_marks_of ct_marks_of : Value}
    {f__law_purse : Addr} {od__law_purse an__law_purse : Option Addr} {sl__law_purse : Array (Option Value)} {oc__law_purse kV__law_purse dc__law_purse pm__law_purse cd__law_purse ct__law_purse : Value}
    {f__law_draw : Addr} {od__law_draw an__law_draw : Option Addr} {sl__law_draw : Array (Option Value)} {oc__law_draw kV__law_draw dc__law_draw pm__law_draw cd__law_draw ct__law_draw : Value}
    {f__law_pick : Addr} {od__law_pick an__law_pick : Option Addr} {sl__law_pick : Array (Option Value)} {oc__law_pick kV__law_pick dc__law_pick pm__law_pick cd__law_pick ct__law_pick : Value}
    {f__law_lists : Addr} {od__law_lists an__law_lists : Option Addr} {sl__law_lists : Array (Option Value)} {oc__law_lists kV__law_lists dc__law_lists pm__law_lists cd__law_lists ct__law_lists : Value}
    {f__law_refused : Addr} {od__law_refused an__law_refused : Option Addr} {sl__law_refused : Array (Option Value)} {oc__law_refused kV__law_refused dc__law_refused pm__law_refused cd__law_refused ct__law_refused : Value}
    {f__law_spoilt : Addr} {od__law_spoilt an__law_spoilt : Option Addr} {sl__law_spoilt : Array (Option Value)} {oc__law_spoilt kV__law_spoilt dc__law_spoilt pm__law_spoilt cd__law_spoilt ct__law_spoilt : Value}
    {f_law : Addr} {od_law an_law : Option Addr} {sl_law : Array (Option Value)} {oc_law kV_law dc_law pm_law cd_law ct_law : Value}
    {A_InvalidList : Addr}
    {nm_InvalidList q_InvalidList : Str} {N_InvalidList : Addr} {bs_InvalidList bm_InvalidList : List Value} {sn_InvalidList : List Str} {sub_InvalidList : List Value} {ab_InvalidList : Bool} {col_InvalidList : Option Bool} {dd_InvalidList : Option Addr} {k0_InvalidList k1_InvalidList k2_InvalidList k3_InvalidList k5_InvalidList : Option Value}
    {T_InvalidList : Addr} {tc_InvalidList : Value} {td_InvalidList : Option Addr} {tn_InvalidList : Nat} {ts_InvalidList : Array (Option Value)}
    {I_InvalidList : Addr} {oc_InvalidList kV_InvalidList doc_InvalidList pm_InvalidList ct_InvalidList ccl_InvalidList cl_InvalidList : Value} {od_InvalidList an_InvalidList cdd_InvalidList cld_InvalidList : Option Addr} {cda_InvalidList cc_InvalidList : Addr} {osl_InvalidList ccs_InvalidList csl_InvalidList : Array (Option Value)} {vs_InvalidList : Array Value} {file_InvalidList : Str} {tf_InvalidList : Tok}
    {A_InvalidMarks : Addr}
    
    (zsup : PySem.W.nsIn K mainGlobals "super" = some none)
    (zopq : PySem.W.nsIn K cStatics "thirdparty.any" = some none)
    (zsp : PySem.W.specialIn K (.builtin "object.__class__") "__get__" = some (some (.builtin "getset_descriptor.__get__")))
    (ztk : PySem.W.takesIn K (.builtin "object.__class__") = some true)
    (zsys : K.lookup sysModules = some osys)
    (a_is_whole : PySem.W.nsIn K mainGlobals "is_whole" = some (some (.ref f_is_whole)))
    (l_is_whole : K.lookup f_is_whole = some ⟨oc_is_whole, od_is_whole, .func (PySem.W.fnOf "is_whole" "is_whole" (defArgs s_is_whole) (defBody s_is_whole) (defScope s_is_whole) .none kV_is_whole dc_is_whole pm_is_whole an_is_whole cd_is_whole ct_is_whole), sl_is_whole⟩)
    (c_is_whole : PySem.W.codeIn K cd_is_whole "is_whole" = true)
    (k_is_whole : PySem.W.keepIn K (.ref f_is_whole) = true)
    (a_is_choices : PySem.W.nsIn K mainGlobals "is_choices" = some (some (.ref f_is_choices)))
    (l_is_choices : K.lookup f_is_choices = some ⟨oc_is_choices, od_is_choices, .func (PySem.W.fnOf "is_choices" "is_choices" (defArgs s_is_choices) (defBody s_is_choices) (defScope s_is_choices) .none kV_is_choices dc_is_choices pm_is_choices an_is_choices cd_is_choices ct_is_choices), sl_is_choices⟩)
    (c_is_choices : PySem.W.codeIn K cd_is_choices "is_choices" = true)
    (k_is_choices : PySem.W.keepIn K (.ref f_is_choices) = true)
    (a_check_choices : PySem.W.nsIn K mainGlobals "check_choices" = some (some (.ref f_check_choices)))
    (l_check_choices : K.lookup f_check_choices = some ⟨oc_check_choices, od_check_choices, .func (PySem.W.fnOf "check_choices" "check_choices" (defArgs s_check_choices) (defBody s_check_choices) (defScope s_check_choices) .none kV_check_choices dc_check_choices pm_check_choices an_check_choices cd_check_choices ct_check_choices), sl_check_choices⟩)
    (c_check_choices : PySem.W.codeIn K cd_check_choices "check_choices" = true)
    (k_check_choices : PySem.W.keepIn K (.ref f_check_choices) = true)
    (a_mark_of : PySem.W.nsIn K mainGlobals "mark_of" = some (some (.ref f_mark_of)))
    (l_mark_of : K.lookup f_mark_of = some ⟨oc_mark_of, od_mark_of, .func (PySem.W.fnOf "mark_of" "mark_of" (defArgs s_mark_of) (defBody s_mark_of) (defScope s_mark_of) .none kV_mark_of dc_mark_of pm_mark_of an_mark_of cd_mark_of ct_mark_of), sl_mark_of⟩)
    (c_mark_of : PySem.W.codeIn K cd_mark_of "mark_of" = true)
    (k_mark_of : PySem.W.keepIn K (.ref f_mark_of) = true)
    (a_merged : PySem.W.nsIn K mainGlobals "merged" = some (some (.ref f_merged)))
    (l_merged : K.lookup f_merged = some ⟨oc_merged, od_merged, .func (PySem.W.fnOf "merged" "merged" (defArgs s_merged) (defBody s_merged) (defScope s_merged) .none kV_merged dc_merged pm_merged an_merged cd_merged ct_merged), sl_merged⟩)
    (c_merged : PySem.W.codeIn K cd_merged "merged" = true)
    (k_merged : PySem.W.keepIn K (.ref f_merged) = true)
    (a_marks_of : PySem.W.nsIn K mainGlobals "marks_of" = some (some (.ref f_marks_of)))
    (l_marks_of : K.lookup f_marks_of = some ⟨oc_marks_of, od_marks_of, .func (PySem.W.fnOf "marks_of" "marks_of" (defArgs s_marks_of) (defBody s_marks_of) (defScope s_marks_of) .none kV_marks_of dc_marks_of pm_marks_of an_marks_of cd_marks_of ct_marks_of), sl_marks_of⟩)
    (c_marks_of : PySem.W.codeIn K cd_marks_of "marks_of" = true)
    (k_marks_of : PySem.W.keepIn K (.ref f_marks_of) = true)
    (a__law_purse : PySem.W.nsIn K mainGlobals "_law_purse" = some (some (.ref f__law_purse)))
    (l__law_purse : K.lookup f__law_purse = some ⟨oc__law_purse, od__law_purse, .func (PySem.W.fnOf "_law_purse" "_law_purse" (defArgs s__law_purse) (defBody s__law_purse) (defScope s__law_purse) .none kV__law_purse dc__law_purse pm__law_purse an__law_purse cd__law_purse ct__law_purse), sl__law_purse⟩)
    (c__law_purse : PySem.W.codeIn K cd__law_purse "_law_purse" = true)
    (k__law_purse : PySem.W.keepIn K (.ref f__law_purse) = true)
    (a__law_draw : PySem.W.nsIn K mainGlobals "_law_draw" = some (some (.ref f__law_draw)))
    (l__law_draw : K.lookup f__law_draw = some ⟨oc__law_draw, od__law_draw, .func (PySem.W.fnOf "_law_draw" "_law_draw" (defArgs s__law_draw) (defBody s__law_draw) (defScope s__law_draw) .none kV__law_draw dc__law_draw pm__law_draw an__law_draw cd__law_draw ct__law_draw), sl__law_draw⟩)
    (c__law_draw : PySem.W.codeIn K cd__law_draw "_law_draw" = true)
    (k__law_draw : PySem.W.keepIn K (.ref f__law_draw) = true)
    (a__law_pick : PySem.W.nsIn K mainGlobals "_law_pick" = some (some (.ref f__law_pick)))
    (l__law_pick : K.lookup f__law_pick = some ⟨oc__law_pick, od__law_pick, .func (PySem.W.fnOf "_law_pick" "_law_pick" (defArgs s__law_pick) (defBody s__law_pick) (defScope s__law_pick) .none kV__law_pick dc__law_pick pm__law_pick an__law_pick cd__law_pick ct__law_pick), sl__law_pick⟩)
    (c__law_pick : PySem.W.codeIn K cd__law_pick "_law_pick" = true)
    (k__law_pick : PySem.W.keepIn K (.ref f__law_pick) = true)
    (a__law_lists : PySem.W.nsIn K mainGlobals "_law_lists" = some (some (.ref f__law_lists)))
    (l__law_lists : K.lookup f__law_lists = some ⟨oc__law_lists, od__law_lists, .func (PySem.W.fnOf "_law_lists" "_law_lists" (defArgs s__law_lists) (defBody s__law_lists) (defScope s__law_lists) .none kV__law_lists dc__law_lists pm__law_lists an__law_lists cd__law_lists ct__law_lists), sl__law_lists⟩)
    (c__law_lists : PySem.W.codeIn K cd__law_lists "_law_lists" = true)
    (k__law_lists : PySem.W.keepIn K (.ref f__law_lists) = true)
    (a__law_refused : PySem.W.nsIn K mainGlobals "_law_refused" = some (some (.ref f__law_refused)))
    (l__law_refused : K.lookup f__law_refused = some ⟨oc__law_refused, od__law_refused, .func (PySem.W.fnOf "_law_refused" "_law_refused" (defArgs s__law_refused) (defBody s__law_refused) (defScope s__law_refused) .none kV__law_refused dc__law_refused pm__law_refused an__law_refused cd__law_refused ct__law_refused), sl__law_refused⟩)
    (c__law_refused : PySem.W.codeIn K cd__law_refused "_law_refused" = true)
    (k__law_refused : PySem.W.keepIn K (.ref f__law_refused) = true)
    (a__law_spoilt : PySem.W.nsIn K mainGlobals "_law_spoilt" = some (some (.ref f__law_spoilt)))
    (l__law_spoilt : K.lookup f__law_spoilt = some ⟨oc__law_spoilt, od__law_spoilt, .func (PySem.W.fnOf "_law_spoilt" "_law_spoilt" (defArgs s__law_spoilt) (defBody s__law_spoilt) (defScope s__law_spoilt) .none kV__law_spoilt dc__law_spoilt pm__law_spoilt an__law_spoilt cd__law_spoilt ct__law_spoilt), sl__law_spoilt⟩)
    (c__law_spoilt : PySem.W.codeIn K cd__law_spoilt "_law_spoilt" = true)
    (k__law_spoilt : PySem.W.keepIn K (.ref f__law_spoilt) = true)
    (a_law : PySem.W.nsIn K mainGlobals "law" = some (some (.ref f_law)))
    (l_law : K.lookup f_law = some ⟨oc_law, od_law, .func (PySem.W.fnOf "law" "law" (defArgs s_law) (defBody s_law) (defScope s_law) .none kV_law dc_law pm_law an_law cd_law ct_law), sl_law⟩)
    (c_law : PySem.W.codeIn K cd_law "law" = true)
    (k_law : PySem.W.keepIn K (.ref f_law) = true)
    (z_int : PySem.W.nsIn K mainGlobals "int" = some none)
    (z_bool : PySem.W.nsIn K mainGlobals "bool" = some none)
    (z_isinstance : PySem.W.nsIn K mainGlobals "isinstance" = some none)
    (z_list : PySem.W.nsIn K mainGlobals "list" = some none)
    (z_len : PySem.W.nsIn K mainGlobals "len" = some none)
    (z_range : PySem.W.nsIn K mainGlobals "range" = some none)
    (z_str : PySem.W.nsIn K mainGlobals "str" = some none)
    (z_set : PySem.W.nsIn K mainGlobals "set" = some none)
    (z_sorted : PySem.W.nsIn K mainGlobals "sorted" = some none)
    (z_max : PySem.W.nsIn K mainGlobals "max" = some none)
    (z_repr : PySem.W.nsIn K mainGlobals "repr" = some none)
    (z_tuple : PySem.W.nsIn K mainGlobals "tuple" = some none)
    (a_InvalidList : PySem.W.nsIn K mainGlobals "InvalidList" = some (some (.ref A_InvalidList)))
    (xL_InvalidList : K.lookup A_InvalidList = some (excClassObj nm_InvalidList q_InvalidList A_InvalidList N_InvalidList bs_InvalidList bm_InvalidList true sn_InvalidList sub_InvalidList ab_InvalidList col_InvalidList dd_InvalidList k0_InvalidList k1_InvalidList k2_InvalidList k3_InvalidList k5_InvalidList "ValueError.__new__"))
    (rf_InvalidList : PySem.HandSPX.refsVE bm_InvalidList = true)
    (sa_InvalidList : PySem.W.findIn K (.ref A_InvalidList) "__setattr__" = some (some (.builtin "object.__setattr__")))
    (ex_InvalidList : PySem.W.subIn K (.ref A_InvalidList) (.type "BaseException") = some true)
    (no_InvalidList : PySem.W.findIn K (.ref A_InvalidList) "value" = some none)
    (ty_InvalidList : PySem.W.typeIn K (.ref A_InvalidList) = some (.type "type"))
    (kp_InvalidList : PySem.W.keepIn K (.ref A_InvalidList) = true)
    (iC_InvalidList : PySem.W.findIn K (.ref A_InvalidList) "__init__" = some (some (.ref I_InvalidList)))
    (tI_InvalidList : PySem.W.typeIn K (.ref I_InvalidList) = some (.type "function"))
    (hm_InvalidList : PySem.W.ks_superIn K A_InvalidList A_InvalidList "__init__" = some (some (.builtin "ValueError.__init__")))
    (hB_InvalidList : PySem.W.subIn K (.ref A_InvalidList) (.type "ValueError") = some true)
    (hD_InvalidList : PySem.W.mroIn K A_InvalidList (.ref A_InvalidList) = some true)
    (l1_InvalidList : K.lookup I_InvalidList = some ⟨oc_InvalidList, od_InvalidList, .func (PySem.W.ksFn "__init__" "InvalidList.__init__" (defArgs i_InvalidList) (ixBody p_InvalidList) ixScope (.ref T_InvalidList) kV_InvalidList doc_InvalidList pm_InvalidList an_InvalidList (.ref cda_InvalidList) ct_InvalidList cc_InvalidList), osl_InvalidList⟩)
    (lT_InvalidList : K.lookup T_InvalidList = some ⟨tc_InvalidList, td_InvalidList, .seq [.none].toArray tn_InvalidList, ts_InvalidList⟩)
    (c1_InvalidList : PySem.W.codeIn K (.ref cda_InvalidList) "InvalidList.__init__" = true)
    (l2_InvalidList : K.lookup cda_InvalidList = some ⟨ccl_InvalidList, cdd_InvalidList, .fields vs_InvalidList, ccs_InvalidList⟩)
    (v2_InvalidList : vs_InvalidList[2]? = some (.str file_InvalidList tf_InvalidList))
    (fi_InvalidList : ((PySem.Challenge.pw_everypair_k05_marks_of_lists.main.file : Str) == file_InvalidList) = true)
    (l3_InvalidList : K.lookup cc_InvalidList = some ⟨cl_InvalidList, cld_InvalidList, .cell (some (.ref A_InvalidList)), csl_InvalidList⟩)
    (ga_InvalidList : PySem.W.findIn K (.ref A_InvalidList) "__getattribute__" = some (some (.builtin "BaseException.__getattribute__")))
    (gg_InvalidList : PySem.W.findIn K (.ref A_InvalidList) "__getattr__" = some none)
    (hd_InvalidList : PySem.W.hasDictIn K A_InvalidList = true)
    (ic_InvalidList : PySem.W.isClsIn K A_InvalidList = true)
    (ac_InvalidList : PySem.W.findIn K (.ref A_InvalidList) "__class__" = some (some (.builtin "object.__class__")))
    (ob_InvalidList : PySem.W.mroIn K A_InvalidList (.type "object") = some true)
    (a_InvalidMarks : PySem.W.nsIn K mainGlobals "InvalidMarks" = some (some (.ref A_InvalidMarks)))
    (ex_InvalidMarks : PySem.W.subIn K (.ref A_InvalidMarks) (.type "BaseException") = some true)
    (no_InvalidMarks : PySem.W.findIn K (.ref A_InvalidMarks) "value" = some none)
    (kx : PySem.W.exmOne K (.ref A_InvalidList) (.ref A_InvalidList) = some true)
    (klm : PySem.W.kitOne K (.ref A_InvalidList) (.ref A_InvalidMarks) = some false)
    (base : Heap) : Cal PySem.Challenge.pw_everypair_k05_marks_of_lists w K mg base "law" 6 ["_law_script"] spd_law := by
  have hsy : ∃ o, K.lookup sysModules = some o := ⟨_, zsys⟩
  have d_is_whole : DefAt K mg "is_whole" s_is_whole := defAt_of X G a_is_whole l_is_whole c_is_whole k_is_whole
  have d_is_choices : DefAt K mg "is_choices" s_is_choices := defAt_of X G a_is_choices l_is_choices c_is_choices k_is_choices
  have d_check_choices : DefAt K mg "check_choices" s_check_choices := defAt_of X G a_check_choices l_check_choices c_check_choices k_check_choices
  have d_mark_of : DefAt K mg "mark_of" s_mark_of := defAt_of X G a_mark_of l_mark_of c_mark_of k_mark_of
  have d_merged : DefAt K mg "merged" s_merged := defAt_of X G a_merged l_merged c_merged k_merged
  have d_marks_of : DefAt K mg "marks_of" s_marks_of := defAt_of X G a_marks_of l_marks_of c_marks_of k_marks_of
  have d__law_purse : DefAt K mg "_law_purse" s__law_purse := defAt_of X G a__law_purse l__law_purse c__law_purse k__law_purse
  have d__law_draw : DefAt K mg "_law_draw" s__law_draw := defAt_of X G a__law_draw l__law_draw c__law_draw k__law_draw
  have d__law_pick : DefAt K mg "_law_pick" s__law_pick := defAt_of X G a__law_pick l__law_pick c__law_pick k__law_pick
  have d__law_lists : DefAt K mg "_law_lists" s__law_lists := defAt_of X G a__law_lists l__law_lists c__law_lists k__law_lists
  have d__law_refused : DefAt K mg "_law_refused" s__law_refused := defAt_of X G a__law_refused l__law_refused c__law_refused k__law_refused
  have d__law_spoilt : DefAt K mg "_law_spoilt" s__law_spoilt := defAt_of X G a__law_spoilt l__law_spoilt c__law_spoilt k__law_spoilt
  have d_law : DefAt K mg "law" s_law := defAt_of X G a_law l_law c_law k_law
  have m_int := PySem.W.mg_none_of X G z_int
  have m_bool := PySem.W.mg_none_of X G z_bool
  have m_isinstance := PySem.W.mg_none_of X G z_isinstance
  have m_list := PySem.W.mg_none_of X G z_list
  have m_len := PySem.W.mg_none_of X G z_len
  have m_range := PySem.W.mg_none_of X G z_range
  have m_str := PySem.W.mg_none_of X G z_str
  have m_set := PySem.W.mg_none_of X G z_set
  have m_sorted := PySem.W.mg_none_of X G z_sorted
  have m_max := PySem.W.mg_none_of X G z_max
  have m_repr := PySem.W.mg_none_of X G z_repr
  have m_tuple := PySem.W.mg_none_of X G z_tuple
  have m_InvalidList := PySem.W.mg_of X G a_InvalidList
  have o_InvalidList : OwnX PySem.Challenge.pw_everypair_k05_marks_of_lists K A_InvalidList I_InvalidList := ⟨⟨⟨_, _, _, _, _, _, _, _, _, _, _, _, _, _, _, xL_InvalidList, rf_InvalidList⟩, sa_InvalidList, ex_InvalidList, ty_InvalidList, kp_InvalidList⟩, iC_InvalidList, tI_InvalidList, no_InvalidList, zsup, zopq, hm_InvalidList, hB_InvalidList, hD_InvalidList, by decide +kernel, _, _, _, _, _, _, _, _, _, _, _, _, _, _, _, _, _, _, _, _, _, _, _, _, _, l1_InvalidList, c1_InvalidList, l2_InvalidList, v2_InvalidList, fi_InvalidList, l3_InvalidList, rfl, rfl, own_binds lT_InvalidList rfl (fun _ _ => ⟨_, rfl, rfl⟩), fun _ => rfl⟩
  have x_InvalidList : XfE K A_InvalidList := ⟨⟨ga_InvalidList, gg_InvalidList, ex_InvalidList, hd_InvalidList⟩, no_InvalidList, ic_InvalidList, ac_InvalidList, zsp, ztk, ob_InvalidList⟩
  have m_InvalidMarks := PySem.W.mg_of X G a_InvalidMarks
  have w_is_whole : Cal PySem.Challenge.pw_everypair_k05_marks_of_lists w K mg base _ _ _ _ := cal_is_whole d_is_whole m_isinstance m_int m_bool
  have w_is_choices : Cal PySem.Challenge.pw_everypair_k05_marks_of_lists w K mg base _ _ _ _ := cal_is_choices d_is_choices w_is_whole m_isinstance m_list m_len m_range
  have w_check_choices : Cal PySem.Challenge.pw_everypair_k05_marks_of_lists w K mg base _ _ _ _ := cal_check_choices d_check_choices w_is_choices o_InvalidList m_InvalidList
  have w_mark_of : Cal PySem.Challenge.pw_everypair_k05_marks_of_lists w K mg base _ _ _ _ := cal_mark_of d_mark_of
  have w_merged : Cal PySem.Challenge.pw_everypair_k05_marks_of_lists w K mg base _ _ _ _ := cal_merged d_merged m_set m_sorted m_int
  have w_marks_of : Cal PySem.Challenge.pw_everypair_k05_marks_of_lists w K mg base _ _ _ _ := cal_marks_of d_marks_of w_check_choices w_merged w_mark_of
  have w__law_purse : Cal PySem.Challenge.pw_everypair_k05_marks_of_lists w K mg base _ _ _ _ := cal_purse d__law_purse m_int m_len m_max
  have w__law_draw : Cal PySem.Challenge.pw_everypair_k05_marks_of_lists w K mg base _ _ _ _ := cal_draw d__law_draw m_int
  have w__law_pick : Cal PySem.Challenge.pw_everypair_k05_marks_of_lists w K mg base _ _ _ _ := cal__law_pick d__law_pick w__law_draw m_len
  have w__law_lists : Cal PySem.Challenge.pw_everypair_k05_marks_of_lists w K mg base _ _ _ _ := cal__law_lists d__law_lists w__law_draw w__law_pick
  have w__law_refused : Cal PySem.Challenge.pw_everypair_k05_marks_of_lists w K mg base _ _ _ _ := cal__law_refused d__law_refused w_marks_of m_InvalidList (con_ref m_InvalidMarks) m_isinstance m_repr hsy kx x_InvalidList klm
  have w__law_spoilt : Cal PySem.Challenge.pw_everypair_k05_marks_of_lists w K mg base _ _ _ _ := cal__law_spoilt d__law_spoilt w__law_draw w__law_pick m_len m_tuple m_str
  exact cal_law d_law w__law_purse w__law_draw w__law_pick w__law_lists w__law_spoilt w__law_refused w_marks_of m_len m_range m_list
end K
open PySem PySem.W PyProof.Rows
set_option maxRecDepth 100000 in
set_option maxHeartbeats 0 in
theorem PySem.Challenge.cw_everypair_k05_marks_of_lists_holds : PySem.Challenge.rw_everypair_k05_marks_of_lists.Holds := by
  w_on; o_law; x_head; (case hw => w_witness2)
  k_fill
  refine DD.walk_c (l := PySem.Challenge.rw_everypair_k05_marks_of_lists) (n := 63) (k := 6) (x := "_law_script") (y := "law") (spd := K.spd_law) rfl (by decide) rfl ⟨rfl, by decide, by decide⟩ (fun w h Y => PySem.W.kIn_of Y) rfl ?F ?S
  case F =>
    intro w mg h KX G
    refine' K.all_mk KX G ?zsup ?zopq ?zsp ?ztk ?zsys ?a_is_whole ?l_is_whole ?c_is_whole ?k_is_whole ?a_is_choices ?l_is_choices ?c_is_choices ?k_is_choices ?a_check_choices ?l_check_choices ?c_check_choices ?k_check_choices ?a_mark_of ?l_mark_of ?c_mark_of ?k_mark_of ?a_merged ?l_merged ?c_merged ?k_merged ?a_marks_of ?l_marks_of ?c_marks_of ?k_marks_of ?a__law_purse ?l__law_purse ?c__law_purse ?k__law_purse ?a__law_draw ?l__law_draw ?c__law_draw ?k__law_draw ?a__law_pick ?l__law_pick ?c__law_pick ?k__law_pick ?a__law_lists ?l__law_lists ?c__law_lists ?k__law_lists ?a__law_refused ?l__law_refused ?c__law_refused ?k__law_refused ?a__law_spoilt ?l__law_spoilt ?c__law_spoilt ?k__law_spoilt ?a_law ?l_law ?c_law ?k_law ?z_int ?z_bool ?z_isinstance ?z_list ?z_len ?z_range ?z_str ?z_set ?z_sorted ?z_max ?z_repr ?z_tuple ?a_InvalidList ?xL_InvalidList ?rf_InvalidList ?sa_InvalidList ?ex_InvalidList ?no_InvalidList ?ty_InvalidList ?kp_InvalidList ?iC_InvalidList ?tI_InvalidList ?hm_InvalidList ?hB_InvalidList ?hD_InvalidList ?l1_InvalidList ?lT_InvalidList ?c1_InvalidList ?l2_InvalidList ?v2_InvalidList ?fi_InvalidList ?l3_InvalidList ?ga_InvalidList ?gg_InvalidList ?hd_InvalidList ?ic_InvalidList ?ac_InvalidList ?ob_InvalidList ?a_InvalidMarks ?ex_InvalidMarks ?no_InvalidMarks ?kx ?klm
    (case zsup => k_is)
    (case zopq => k_is)
    (case zsp => k_is)
    (case ztk => k_is)
    (case zsys => k_is)
    (case a_is_whole => k_is)
    (case l_is_whole => k_is)
    (case c_is_whole => k_is)
    (case k_is_whole => k_is)
    (case a_is_choices => k_is)
    (case l_is_choices => k_is)
    (case c_is_choices => k_is)
    (case k_is_choices => k_is)
    (case a_check_choices => k_is)
    (case l_check_choices => k_is)
    (case c_check_choices => k_is)
    (case k_check_choices => k_is)
    (case a_mark_of => k_is)
    (case l_mark_of => k_is)
    (case c_mark_of => k_is)
    (case k_mark_of => k_is)
    (case a_merged => k_is)
    (case l_merged => k_is)
    (case c_merged => k_is)
    (case k_merged => k_is)
    (case a_marks_of => k_is)
    (case l_marks_of => k_is)
    (case c_marks_of => k_is)
    (case k_marks_of => k_is)
    (case a__law_purse => k_is)
    (case l__law_purse => k_is)
    (case c__law_purse => k_is)
    (case k__law_purse => k_is)
    (case a__law_draw => k_is)
    (case l__law_draw => k_is)
    (case c__law_draw => k_is)
    (case k__law_draw => k_is)
    (case a__law_pick => k_is)
    (case l__law_pick => k_is)
    (case c__law_pick => k_is)
    (case k__law_pick => k_is)
    (case a__law_lists => k_is)
    (case l__law_lists => k_is)
    (case c__law_lists => k_is)
    (case k__law_lists => k_is)
    (case a__law_refused => k_is)
    (case l__law_refused => k_is)
    (case c__law_refused => k_is)
    (case k__law_refused => k_is)
    (case a__law_spoilt => k_is)
    (case l__law_spoilt => k_is)
    (case c__law_spoilt => k_is)
    (case k__law_spoilt => k_is)
    (case a_law => k_is)
    (case l_law => k_is)
    (case c_law => k_is)
    (case k_law => k_is)
    (case z_int => k_is)
    (case z_bool => k_is)
    (case z_isinstance => k_is)
    (case z_list => k_is)
    (case z_len => k_is)
    (case z_range => k_is)
    (case z_str => k_is)
    (case z_set => k_is)
    (case z_sorted => k_is)
    (case z_max => k_is)
    (case z_repr => k_is)
    (case z_tuple => k_is)
    (case a_InvalidList => k_is)
    (case xL_InvalidList => k_is)
    (case rf_InvalidList => decide +kernel)
    (case sa_InvalidList => k_is)
    (case ex_InvalidList => k_is)
    (case no_InvalidList => k_is)
    (case ty_InvalidList => k_is)
    (case kp_InvalidList => k_is)
    (case iC_InvalidList => k_is)
    (case tI_InvalidList => k_is)
    (case hm_InvalidList => kernel_rfl)
    (case hB_InvalidList => k_is)
    (case hD_InvalidList => k_is)
    (case l1_InvalidList => k_is)
    (case lT_InvalidList => k_is)
    (case c1_InvalidList => k_is)
    (case l2_InvalidList => k_is)
    (case v2_InvalidList => rfl)
    (case fi_InvalidList => decide +kernel)
    (case l3_InvalidList => k_is)
    (case ga_InvalidList => k_is)
    (case gg_InvalidList => k_is)
    (case hd_InvalidList => k_is)
    (case ic_InvalidList => k_is)
    (case ac_InvalidList => k_is)
    (case ob_InvalidList => k_is)
    (case a_InvalidMarks => k_is)
    (case ex_InvalidMarks => k_is)
    (case no_InvalidMarks => k_is)
    (case kx => kernel_rfl)
    (case klm => kernel_rfl)
  case S =>
    exact fun ns _ => ⟨ns, rfl, rfl⟩
#print axioms PySem.Challenge.cw_everypair_k05_marks_of_lists_holds
